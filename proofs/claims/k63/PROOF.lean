import PyProof.Rows.All
import Wide.All
import OpenK.AllK
import Wide.FinOn
import HandS.ForMost
import HandS.Wide
import HandS.Exc
import HandS.TryOnly
import HandS.ExcOwn
import HandS.WordsExc
import HandS.IsInst
import HandS.HotCalls
import HandS.ExcIs
import HandS.Nested
import HandS.EndTab
import HandS.More
import HandS.Style
import HandS.Rev
import HandS.SetFor
import HandS.Iter
import KE.DataEq
import HandS.Deep
import HandS.Small
import HandS.SortInts
import HandS.WideBits
import HandS.Text
import KE.DatumOrd
import KE.SortData
import HandS.List
import KE.KDictZip
import KE.KNestM
import HandS.Conv
import KE.SortKeyHeap
import KE.FramesApart
import HandS.ExcValue
import PyProof.StrOps2
import HandS.ExcCtx
import PySem.Challenge.RW_fractionroads_k63_wide
set_option Elab.async false
set_option linter.all false
set_option maxRecDepth 100000
set_option maxHeartbeats 4000000
namespace Sim
open PySem PySem.Spec PyProof.Rows L2
theorem takes0N {X : Cx} : L2N.Takes X (fun _ _ _ _ => False) := fun _ _ x => by
  obtain ⟨_, _, _, _, _, _, _, _, _, _, _, _, _, _, _, _, z⟩ := x
  exact z.elim
theorem okXN {P : Program} {w : World} {K : PySem.W.Frag} {mg : Str → Option Value} {base : Heap} {x qual : Str} {st : Stmt} {f : Addr} {fd : FuncData} {N ps : List Str} {k : Nat} {sp : Sp} (F : Fun K x qual st f fd) (S : FnScope N ps (defScope st)) (len : ∀ vs H Q E, sp vs H Q E → vs.length = ps.length)
    (hbody : ∀ (cdv : Value) (A : Around) (outer : List Env) (s : Shared) (H : Hp) (vs : List V) (Q : VK) (E : XK), Room k (A.deeper (envOfC qual (defScope st) s.heap.objs.size f cdv)) → sp vs H Q E →
      ∃ t, PSs (cxOf (L2N.CX P w) P w K mg base N qual (defScope st) f cdv A outer s H E) (defBody st) t ∧ t { nx := fun _ H' => Q .non H', rt := Q } (start N vs) H) : FnOk P w K mg base (L2N.CX P w) (k + 1) f fd ps sp := by
  obtain ⟨oc, od, kV, doc, pm, an, cdv, ct, osl, rfl, lk, hcd⟩ := F.ex
  exact fn_of lk hcd S len fun A outer s H vs Q E hr hsp => hbody cdv A outer s H vs Q E hr hsp
end Sim
/-! Sim: values without addresses, slots that share or own, and how a reading follows such a run. -/
namespace Sim
open PySem PySem.Spec PyProof.Rows L2

/-! ### what a law fixes: the tables of code objects that its lambdas are kept in; whether it reads tuples of modules -/
def lamT : List (Addr × Str) := []
def modTup : Bool := true
/-! ### the levels, as plain data -/
def putP (ps : List (List Int × Int)) (k : List Int) (v : Int) : List (List Int × Int) :=
  if (ps.any fun p => decide (p.1 = k)) = true then ps.map (fun p => if p.1 = k then (p.1, v) else p) else ps ++ [(k, v)]
def takeP (n : Int) (T : List Int) (i u v : Int) (ps : List (List Int × Int)) : List (List Int × Int) := T.foldl (fun ps k => putP ps [k * u % n, k * v % n] i) ps
def lvOk (n u v : Int) (ps : List (List Int × Int)) : Bool := decide (Int.gcd (Int.gcd u v : Nat) n = 1) && !(ps.any fun p => decide (p.1 = [u, v]))
def lvStep (n : Int) (T : List Int) (s : List (Int × Int) × List (List Int × Int)) (u v : Int) : List (Int × Int) × List (List Int × Int) :=
  if lvOk n u v s.2 = true then (s.1 ++ [(u, v)], takeP n T s.1.length u v s.2) else s
def lvRow (n : Int) (T : List Int) (s : List (Int × Int) × List (List Int × Int)) (u : Int) (m : Nat) : List (Int × Int) × List (List Int × Int) := (List.range m).foldl (fun s (v : Nat) => lvStep n T s u v) s
def lvAll (n : Int) (T : List Int) (m : Nat) : List (Int × Int) × List (List Int × Int) := (List.range m).foldl (fun s (u : Nat) => lvRow n T s u n.toNat) ([], [])
def lvT (n : Int) : List Int := ((List.range n.toNat).map fun (k : Nat) => 1 + (k : Int)).filter fun k => decide (Int.gcd k n = 1)
def lvEnd (n : Int) : List (Int × Int) × List (List Int × Int) := lvAll n (lvT n) n.toNat
def lvNames : List Str := ["n", "kinds", "numbers", "times"]
/-! ### data -/
inductive D where
  | non
  | bl (b : Bool)
  | int (i : Int)
  | str (s : Str)
  | tup (l : List D)
  | lst (l : List D)
  | scr (l : List Int)
  | dct (ks : List (List Int)) (vs : List D)
  | dck (ks : List L2.Key) (vs : List D)
  | ob (c : Str) (ns : List Str) (fs : List D)
  | adr (a : Addr)
  | lv (n : Int)
  | fn (a c : Addr) (q : Str)

/-- a tuple that is there: tracked, or the module's own -/
def TpAt (K : PySem.W.Frag) (H : Hp) (a : Addr) (xs : List V) : Prop :=
  H a = some (.tup xs) ∨ modTup = true ∧ ∃ (o : Obj) (its : Array Value) (n : Nat), K.lookup a = some o ∧ o.cls = .type "tuple" ∧ o.data = .seq its n ∧ its.size ≤ sizeLine ∧ Vals xs its.toList
theorem TpAt.sq {K : PySem.W.Frag} {H : Hp} {a : Addr} {xs : List V} (h : TpAt K H a xs) : SqT K H a xs := by
  rcases h with h | h
  · exact .inl (.inl h)
  · exact .inr h.2
theorem TpAt.mono {K : PySem.W.Frag} {H H' : Hp} {a : Addr} {xs : List V} (e : ∀ a xs, H a = some (.tup xs) → H' a = some (.tup xs)) (h : TpAt K H a xs) : TpAt K H' a xs := by
  rcases h with h | h
  · exact .inl (e _ _ h)
  · exact .inr h
def keyL (k : List Int) : List L2.Key := k.map Sum.inl
def lvFull (n : Int) : D := .ob "Level" lvNames [.int n, .lst ((lvEnd n).1.map fun q => .tup [.int q.1, .int q.2]), .dct ((lvEnd n).2.map (·.1)) ((lvEnd n).2.map fun p => .int p.2), .lst ((lvT n).map .int)]
abbrev lvOb (n : Int) : D := .lv n
inductive PairsAt (K : PySem.W.Frag) (H : Hp) : List V → List (Int × Int) → Prop
  | nil : PairsAt K H [] []
  | cons {a : Addr} {p : Int × Int} {vs : List V} {ps : List (Int × Int)} (h : TpAt K H a [.int p.1, .int p.2]) (t : PairsAt K H vs ps) : PairsAt K H (.ref a :: vs) (p :: ps)
theorem PairsAt.mono {K : PySem.W.Frag} {H H' : Hp} (e : ∀ a xs, H a = some (.tup xs) → H' a = some (.tup xs)) {vs : List V} {ps : List (Int × Int)} (h : PairsAt K H vs ps) : PairsAt K H' vs ps := by
  induction h with
  | nil => exact .nil
  | cons h _ ih => exact .cons (h.mono e) ih
/-- a level's object -/
structure LvAt (K : PySem.W.Frag) (H : Hp) (a : Addr) (n : Int) : Prop where
  ex : ∃ (C dx kA nA tA : Addr) (xs : List V), PySem.W.nsIn K mainGlobals "Level" = some (some (.ref C)) ∧ H a = some (.ins C dx (lvNames.zip [.int n, .ref kA, .ref nA, .ref tA])) ∧ H kA = some (.lst xs) ∧ PairsAt K H xs (lvEnd n).1 ∧
    H nA = some (.dT ((((lvEnd n).2.map (·.1)).map keyL).zip ((lvEnd n).2.map fun p => V.int p.2))) ∧ H tA = some (.lst ((lvT n).map V.int))
theorem LvAt.mono {K : PySem.W.Frag} {H H' : Hp} {a : Addr} {n : Int} (e : Same H H') (h : LvAt K H a n) : LvAt K H' a n := by
  obtain ⟨C, dx, kA, nA, tA, xs, h1, h2, h3, h4, h5, h6⟩ := h.ex
  exact ⟨C, dx, kA, nA, tA, xs, h1, e _ _ h2, e _ _ h3, h4.mono fun a xs q => e a _ q, e _ _ h5, e _ _ h6⟩
mutual
inductive Rep (K : PySem.W.Frag) (H : Hp) : V → D → Prop
  | non : Rep K H .non .non
  | bl (b : Bool) : Rep K H (.bl b) (.bl b)
  | int (i : Int) : Rep K H (.int i) (.int i)
  | str (s : Str) : Rep K H (.str s) (.str s)
  | tup {a : Addr} {xs : List V} {ds : List D} (h : TpAt K H a xs) (r : RepL K H xs ds) : Rep K H (.ref a) (.tup ds)
  | lst {a : Addr} {xs : List V} {ds : List D} (h : H a = some (.lst xs)) (r : RepL K H xs ds) : Rep K H (.ref a) (.lst ds)
  | scr {a : Addr} {ns : List Int} (h : SqL K H a (ns.map V.int)) : Rep K H (.ref a) (.scr ns)
  | dct {a : Addr} {ks : List (List Int)} {xs : List V} {ds : List D} (h : H a = some (.dT ((ks.map keyL).zip xs))) (hl : ks.length = ds.length) (r : RepL K H xs ds) : Rep K H (.ref a) (.dct ks ds)
  | dck {a : Addr} {ks : List L2.Key} {xs : List V} {ds : List D} (h : H a = some (.dK (ks.zip xs))) (hl : ks.length = ds.length) (r : RepL K H xs ds) : Rep K H (.ref a) (.dck ks ds)
  | ob {a C dx : Addr} {c : Str} {ns : List Str} {xs : List V} {ds : List D} (hc : PySem.W.nsIn K mainGlobals c = some (some (.ref C))) (h : H a = some (.ins C dx (ns.zip xs))) (hl : ns.length = ds.length) (r : RepL K H xs ds) : Rep K H (.ref a) (.ob c ns ds)
  | adr (a : Addr) : Rep K H (.ref a) (.adr a)
  | fn {a c : Addr} {q : Str} (h : H c = some (LamX.CodeO c q)) : Rep K H (.ref a) (.fn a c q)
  | lv {a : Addr} {n : Int} (h : LvAt K H a n) : Rep K H (.ref a) (.lv n)
inductive RepL (K : PySem.W.Frag) (H : Hp) : List V → List D → Prop
  | nil : RepL K H [] []
  | cons {v : V} {d : D} {vs : List V} {ds : List D} (h : Rep K H v d) (t : RepL K H vs ds) : RepL K H (v :: vs) (d :: ds)
end

mutual
def isT : D → Bool
  | .lst _ => false
  | .scr _ => false
  | .tup l => isTL l
  | .non => true
  | .bl _ => true
  | .int _ => true
  | .str _ => true
  | .dct _ _ => false
  | .dck _ _ => false
  | .ob _ _ _ => false
  | .adr _ => true
  | .lv _ => false
  | .fn _ _ _ => false
def isTL : List D → Bool
  | [] => true
  | d :: ds => isT d && isTL ds
end

mutual
def isL : D → Bool
  | .lst l => isLL l
  | .tup l => isLL l
  | .scr _ => false
  | .non => true
  | .bl _ => true
  | .int _ => true
  | .str _ => true
  | .dct _ _ => false
  | .dck _ _ => false
  | .ob _ _ _ => false
  | .adr _ => true
  | .lv _ => false
  | .fn _ _ _ => false
def isLL : List D → Bool
  | [] => true
  | d :: ds => isL d && isLL ds
end
section
variable {K : PySem.W.Frag} {H H' : Hp}
mutual
theorem Rep.mono (e : Same H H') : ∀ (d : D) (v : V), Rep K H v d → Rep K H' v d
  | .non, _, .non => .non
  | .bl _, _, .bl b => .bl b
  | .int _, _, .int i => .int i
  | .str _, _, .str s => .str s
  | .tup ds, _, .tup h r => .tup (h.mono fun a xs q => e a _ q) (RepL.mono e ds _ r)
  | .lst ds, _, .lst h r => .lst (e _ _ h) (RepL.mono e ds _ r)
  | .scr _, _, .scr h => .scr (e.seq h)
  | .dct _ ds, _, .dct h hl r => .dct (e _ _ h) hl (RepL.mono e ds _ r)
  | .dck _ ds, _, .dck h hl r => .dck (e _ _ h) hl (RepL.mono e ds _ r)
  | .ob _ _ ds, _, .ob hc h hl r => .ob hc (e _ _ h) hl (RepL.mono e ds _ r)
  | .adr _, _, .adr a => .adr a
  | .fn _ _ _, _, .fn h => .fn (e _ _ h)
  | .lv _, _, .lv h => .lv (h.mono e)
theorem RepL.mono (e : Same H H') : ∀ (ds : List D) (vs : List V), RepL K H vs ds → RepL K H' vs ds
  | [], _, .nil => .nil
  | d :: ds, _, .cons h t => .cons (Rep.mono e d _ h) (RepL.mono e ds _ t)
end
mutual
theorem Rep.tmono (e : ∀ a xs, H a = some (.tup xs) → H' a = some (.tup xs)) : ∀ (d : D) (v : V), isT d = true → Rep K H v d → Rep K H' v d
  | .non, _, _, .non => .non
  | .bl _, _, _, .bl b => .bl b
  | .int _, _, _, .int i => .int i
  | .str _, _, _, .str s => .str s
  | .tup ds, _, ht, .tup h r => .tup (h.mono e) (RepL.tmono e ds _ (by unfold isT at ht; exact ht) r)
  | .lst _, _, ht, _ => by unfold isT at ht; cases ht
  | .scr _, _, ht, _ => by unfold isT at ht; cases ht
  | .dct _ _, _, ht, _ => by unfold isT at ht; cases ht
  | .dck _ _, _, ht, _ => by unfold isT at ht; cases ht
  | .ob _ _ _, _, ht, _ => by unfold isT at ht; cases ht
  | .adr _, _, _, .adr a => .adr a
  | .lv _, _, ht, _ => by unfold isT at ht; cases ht
  | .fn _ _ _, _, ht, _ => by unfold isT at ht; cases ht
theorem RepL.tmono (e : ∀ a xs, H a = some (.tup xs) → H' a = some (.tup xs)) : ∀ (ds : List D) (vs : List V), isTL ds = true → RepL K H vs ds → RepL K H' vs ds
  | [], _, _, .nil => .nil
  | d :: ds, _, ht, .cons h t => by
    unfold isTL at ht
    rw [Bool.and_eq_true] at ht
    exact .cons (Rep.tmono e d _ ht.1 h) (RepL.tmono e ds _ ht.2 t)
end
mutual
theorem Rep.lmono (e : ∀ a xs, H a = some (.tup xs) → H' a = some (.tup xs)) (e' : ∀ a xs, H a = some (.lst xs) → H' a = some (.lst xs)) : ∀ (d : D) (v : V), isL d = true → Rep K H v d → Rep K H' v d
  | .non, _, _, .non => .non
  | .bl _, _, _, .bl b => .bl b
  | .int _, _, _, .int i => .int i
  | .str _, _, _, .str s => .str s
  | .tup ds, _, ht, .tup h r => .tup (h.mono e) (RepL.lmono e e' ds _ (by unfold isL at ht; exact ht) r)
  | .lst ds, _, ht, .lst h r => .lst (e' _ _ h) (RepL.lmono e e' ds _ (by unfold isL at ht; exact ht) r)
  | .scr _, _, ht, _ => by unfold isL at ht; cases ht
  | .dct _ _, _, ht, _ => by unfold isL at ht; cases ht
  | .dck _ _, _, ht, _ => by unfold isL at ht; cases ht
  | .ob _ _ _, _, ht, _ => by unfold isL at ht; cases ht
  | .adr _, _, _, .adr a => .adr a
  | .lv _, _, ht, _ => by unfold isL at ht; cases ht
  | .fn _ _ _, _, ht, _ => by unfold isL at ht; cases ht
theorem RepL.lmono (e : ∀ a xs, H a = some (.tup xs) → H' a = some (.tup xs)) (e' : ∀ a xs, H a = some (.lst xs) → H' a = some (.lst xs)) : ∀ (ds : List D) (vs : List V), isLL ds = true → RepL K H vs ds → RepL K H' vs ds
  | [], _, _, .nil => .nil
  | d :: ds, _, ht, .cons h t => by
    unfold isLL at ht
    rw [Bool.and_eq_true] at ht
    exact .cons (Rep.lmono e e' d _ ht.1 h) (RepL.lmono e e' ds _ ht.2 t)
end
theorem RepL.length : ∀ {vs : List V} {ds : List D}, RepL K H vs ds → vs.length = ds.length
  | _, _, .nil => rfl
  | _, _, .cons _ t => by rw [List.length_cons, List.length_cons, RepL.length t]
theorem RepL.get : ∀ {vs : List V} {ds : List D} {i : Nat} {d : D}, RepL K H vs ds → ds[i]? = some d → ∃ v, vs[i]? = some v ∧ Rep K H v d
  | _, _, _, _, .nil, h => by simp at h
  | _, _, 0, _, .cons r _, h => by simp at h; subst h; exact ⟨_, rfl, r⟩
  | _, _, i + 1, d, .cons _ t, h => by
    obtain ⟨v, h1, h2⟩ := RepL.get (i := i) (d := d) t (by simpa using h)
    exact ⟨v, by simpa using h1, h2⟩
theorem RepL.append : ∀ {vs ws : List V} {ds es : List D}, RepL K H vs ds → RepL K H ws es → RepL K H (vs ++ ws) (ds ++ es)
  | _, _, _, _, .nil, s => s
  | _, _, _, _, .cons r t, s => .cons r (RepL.append t s)
theorem RepL.set {v : V} {d : D} (r : Rep K H v d) : ∀ {vs : List V} {ds : List D} (i : Nat), RepL K H vs ds → RepL K H (vs.set i v) (ds.set i d)
  | _, _, _, .nil => .nil
  | _, _, 0, .cons _ t => .cons r t
  | _, _, i + 1, .cons q t => .cons q (RepL.set r i t)
theorem RepL.take : ∀ {vs : List V} {ds : List D} (n : Nat), RepL K H vs ds → RepL K H (vs.take n) (ds.take n)
  | _, _, 0, _ => .nil
  | _, _, _ + 1, .nil => .nil
  | _, _, n + 1, .cons r t => .cons r (RepL.take n t)
theorem RepL.drop : ∀ {vs : List V} {ds : List D} (n : Nat), RepL K H vs ds → RepL K H (vs.drop n) (ds.drop n)
  | _, _, 0, r => r
  | _, _, _ + 1, .nil => .nil
  | _, _, n + 1, .cons _ t => RepL.drop n t
theorem RepL.reverse : ∀ {vs : List V} {ds : List D}, RepL K H vs ds → RepL K H vs.reverse ds.reverse
  | _, _, .nil => .nil
  | _, _, .cons r t => by
    rw [List.reverse_cons, List.reverse_cons]
    exact RepL.append (RepL.reverse t) (.cons r .nil)
theorem RepL.ints : ∀ (ns : List Int), RepL K H (ns.map V.int) (ns.map D.int)
  | [] => .nil
  | n :: ns => .cons (.int n) (RepL.ints ns)
end

/-! ### a level's object, in full -/
section
variable {K : PySem.W.Frag} {H : Hp}
theorem PairsAt.rep : ∀ {vs : List V} {ps : List (Int × Int)}, PairsAt K H vs ps → RepL K H vs (ps.map fun q => .tup [.int q.1, .int q.2])
  | _, _, .nil => .nil
  | _, _, .cons h t => .cons (.tup h (.cons (.int _) (.cons (.int _) .nil))) (PairsAt.rep t)
theorem PairsAt.of : ∀ {ps : List (Int × Int)} {vs : List V}, RepL K H vs (ps.map fun q => .tup [.int q.1, .int q.2]) → PairsAt K H vs ps
  | [], _, .nil => .nil
  | p :: ps, _, .cons r t => by
    cases r with
    | tup h r =>
      cases r with
      | cons r1 r =>
        cases r with
        | cons r2 r =>
          cases r
          cases r1
          cases r2
          exact .cons h (PairsAt.of t)
theorem reps_ints : ∀ ps : List (List Int × Int), RepL K H (ps.map fun p => V.int p.2) (ps.map fun p => D.int p.2)
  | [] => .nil
  | p :: ps => .cons (.int _) (reps_ints ps)
theorem RepL.ints_of : ∀ {ns : List Int} {vs : List V}, RepL K H vs (ns.map D.int) → vs = ns.map V.int
  | [], _, .nil => rfl
  | n :: ns, _, .cons r t => by
    cases r
    rw [RepL.ints_of t]
    rfl
theorem Rep.full {v : V} {n : Int} (h : Rep K H v (.lv n)) : Rep K H v (lvFull n) := by
  cases h with
  | lv h =>
    obtain ⟨C, dx, kA, nA, tA, xs, h1, h2, h3, h4, h5, h6⟩ := h.ex
    exact .ob h1 h2 rfl (.cons (.int n) (.cons (.lst h3 h4.rep) (.cons (.dct h5 (by rw [List.length_map, List.length_map]) (reps_ints _)) (.cons (.lst h6 (RepL.ints _)) .nil))))
theorem Rep.lv_of {v : V} {n : Int} (h : Rep K H v (lvFull n)) : Rep K H v (.lv n) := by
  unfold lvFull at h
  cases h with
  | ob hc h hl r =>
    cases r with
    | cons r1 r =>
      cases r with
      | cons r2 r =>
        cases r with
        | cons r3 r =>
          cases r with
          | cons r4 r =>
            cases r
            cases r1
            cases r2 with
            | lst e2 q2 =>
              cases r3 with
              | @dct _ _ xs3 _ e3 l3 q3 =>
                cases r4 with
                | lst e4 q4 =>
                  have z3 : RepL K H xs3 (((lvEnd n).2.map (·.2)).map D.int) := by
                    rw [List.map_map]
                    exact q3
                  have z3 := z3.ints_of
                  rw [List.map_map] at z3
                  have z4 := q4.ints_of
                  subst z3
                  subst z4
                  exact .lv ⟨_, _, _, _, _, _, hc, h, e2, PairsAt.of q2, e3, e4⟩
end
/-! ### slots -/
/-- what a slot can own -/
inductive OC where
  | lst (l : List D)
  | dk (ks : List L2.Key) (vs : List D)
  | dt (ks : List (List Int)) (vs : List D)
  | ob (c : Str) (ns : List Str) (fs : List D)
def OC.d : OC → D
  | .lst l => .lst l
  | .dk ks vs => .dck ks vs
  | .dt ks vs => .dct ks vs
  | .ob c ns fs => .ob c ns fs
def OC.ds : OC → List D
  | .lst l => l
  | .dk _ vs => vs
  | .dt _ vs => vs
  | .ob _ _ fs => fs
/-- the object that stands for it, its items' values told -/
def OC.At (K : PySem.W.Frag) : OC → HO → List V → Prop
  | .lst _, o, xs => o = .lst xs
  | .dk ks vs, o, xs => o = .dK (ks.zip xs) ∧ ks.length = vs.length
  | .dt ks vs, o, xs => o = .dT ((ks.map keyL).zip xs) ∧ ks.length = vs.length
  | .ob c ns fs, o, xs => ∃ C dx, PySem.W.nsIn K mainGlobals c = some (some (.ref C)) ∧ o = .ins C dx (ns.zip xs) ∧ ns.length = fs.length
theorem OC.rep {K : PySem.W.Frag} {H : Hp} {a : Addr} {o : HO} {xs : List V} : ∀ {c : OC}, H a = some o → c.At K o xs → RepL K H xs c.ds → Rep K H (.ref a) c.d
  | .lst _, h, e, r => by
    have e : o = .lst xs := e
    subst e
    exact .lst h r
  | .dk _ _, h, e, r => by
    obtain ⟨rfl, hl⟩ := e
    exact .dck h hl r
  | .dt _ _, h, e, r => by
    obtain ⟨rfl, hl⟩ := e
    exact .dct h hl r
  | .ob _ _ _, h, e, r => by
    obtain ⟨C, dx, hc, rfl, hl⟩ := e
    exact .ob hc h hl r
inductive SV where
  | sh (d : D)
  | ow (c : OC)
abbrev SV.fr (l : List D) : SV := .ow (.lst l)
def SV.d : SV → D
  | .sh d => d
  | .ow c => c.d
abbrev Sl := List (Option SV)

inductive SlotOk (K : PySem.W.Frag) (F B H : Hp) : Option (Option V) → SV → Prop
  | sh {v : V} {d : D} (r : Rep K B v d) : SlotOk K F B H (some (some v)) (.sh d)
  | fr {a : Addr} {o : HO} {xs : List V} {c : OC} (hF : F a = none) (hB : B a = none) (hH : H a = some o) (hO : c.At K o xs) (r : RepL K B xs c.ds) : SlotOk K F B H (some (some (.ref a))) (.ow c)
def Owns (σ : L2.St) (ρ : Sl) (i : Nat) (a : Addr) : Prop := (∃ c, ρ[i]? = some (some (.ow c))) ∧ σ[i]? = some (some (.ref a))

/-- the tables of code objects are in order; nobody else holds one -/
structure TbOk (F B H : Hp) : Prop where
  tab : LamX.Tabs lamT H
  nB : ∀ p ∈ lamT, B p.1 = none
  nF : ∀ p ∈ lamT, F p.1 = none
theorem tabs_at {H : Hp} (h : LamX.Tabs lamT H) {p : Addr × Str} (hp : p ∈ lamT) : ∃ ps, H p.1 = some (.tbl ps) := by
  obtain ⟨ps, e, _⟩ := h p hp
  exact ⟨ps, e⟩
theorem TbOk.fresh {F B H : Hp} {p : Addr} {o : HO} (h : TbOk F B H) (hp : H p = none) : TbOk F B (upd H p o) :=
  ⟨h.tab.ext fun b u e => by rw [upd_ne (ne_of_none e hp)]; exact e, h.nB, h.nF⟩
theorem TbOk.ext {F B H H' : Hp} (h : TbOk F B H) (e : Same H H') : TbOk F B H' := ⟨h.tab.ext fun b u q => e b u q, h.nB, h.nF⟩
/-- what is neither a table nor a code object -/
def PlainO (o : HO) : Prop := (∀ ps, o ≠ .tbl ps) ∧ ∀ c q, o ≠ LamX.CodeO c q
theorem TbOk.ne {F B H : Hp} (h : TbOk F B H) {a : Addr} {o : HO} (e : H a = some o) (ho : ∀ ps, o ≠ .tbl ps) {p : Addr × Str} (hp : p ∈ lamT) : p.1 ≠ a := fun z => by
  obtain ⟨ps, e2⟩ := tabs_at h.tab hp
  rw [z, e] at e2
  exact ho ps (Option.some.inj e2)
theorem TbOk.toB {F B H : Hp} {p : Addr} {o : HO} (h : TbOk F B H) (hH : H p = some o) (ho : ∀ ps, o ≠ .tbl ps) : TbOk F (upd B p o) H :=
  ⟨h.tab, fun q hq => by rw [upd_ne (h.ne hH ho hq)]; exact h.nB q hq, h.nF⟩
theorem TbOk.toF {F B H : Hp} {p : Addr} {o : HO} (h : TbOk F B H) (hH : H p = some o) (ho : ∀ ps, o ≠ .tbl ps) : TbOk (upd F p o) B H :=
  ⟨h.tab, h.nB, fun q hq => by rw [upd_ne (h.ne hH ho hq)]; exact h.nF q hq⟩
theorem TabS.upd' {H : Hp} {P a : Addr} {q : Str} {o : HO} (t : LamX.TabS H P q) (h : ∀ u, H a = some u → PlainO u) : LamX.TabS (upd H a o) P q := by
  obtain ⟨ps, h1, h2, h3⟩ := t
  have n1 : P ≠ a := fun z => by
    rw [z] at h1
    exact (h _ h1).1 ps rfl
  refine ⟨ps, (upd_ne n1).trans h1, h2, fun pos cv hc => ?_⟩
  obtain ⟨c, e1, e2⟩ := h3 pos cv hc
  have n2 : c ≠ a := fun z => by
    rw [z] at e2
    exact (h _ e2).2 _ q rfl
  exact ⟨c, e1, (upd_ne n2).trans e2⟩
theorem tabs_put {H : Hp} {a : Addr} {o : HO} (h : LamX.Tabs lamT H) (hp : ∀ u, H a = some u → PlainO u) : LamX.Tabs lamT (upd H a o) := fun p hm => TabS.upd' (h p hm) hp
theorem TbOk.put {F B H : Hp} {a : Addr} {o : HO} (h : TbOk F B H) (hp : ∀ u, H a = some u → PlainO u) : TbOk F B (upd H a o) := ⟨tabs_put h.tab hp, h.nB, h.nF⟩
theorem TbOk.both {F B H F' B' : Hp} (h : TbOk F B H) (hB : ∀ p ∈ lamT, B' p.1 = none) (hF : ∀ p ∈ lamT, F' p.1 = none) : TbOk F' B' H := ⟨h.tab, hB, hF⟩
theorem plain_lst {xs : List V} : PlainO (.lst xs) := ⟨fun _ z => (by cases z), fun c q z => (by unfold LamX.CodeO at z; cases z)⟩
theorem plain_dK {xs : List (L2.Key × V)} : PlainO (.dK xs) := ⟨fun _ z => (by cases z), fun c q z => (by unfold LamX.CodeO at z; cases z)⟩
theorem plain_dT {xs : List (List L2.Key × V)} : PlainO (.dT xs) := ⟨fun _ z => (by cases z), fun c q z => (by unfold LamX.CodeO at z; cases z)⟩
theorem plain_at {K : PySem.W.Frag} {o : HO} {xs : List V} : ∀ {c : OC}, c.At K o xs → PlainO o
  | .lst _, h => by
    have h : o = .lst xs := h
    subst h
    exact ⟨fun _ z => (by cases z), fun c q z => (by unfold LamX.CodeO at z; cases z)⟩
  | .dk _ _, ⟨h, _⟩ => by
    subst h
    exact ⟨fun _ z => (by cases z), fun c q z => (by unfold LamX.CodeO at z; cases z)⟩
  | .dt _ _, ⟨h, _⟩ => by
    subst h
    exact ⟨fun _ z => (by cases z), fun c q z => (by unfold LamX.CodeO at z; cases z)⟩
  | .ob _ _ _, ⟨_, _, _, h, _⟩ => by
    subst h
    exact ⟨fun _ z => (by cases z), fun c q z => (by unfold LamX.CodeO at z; cases z)⟩
/-- the tables' places -/
def inT (b : Addr) : Prop := ∃ p ∈ lamT, p.1 = b
instance (b : Addr) : Decidable (inT b) := by unfold inT; infer_instance
def SameN (H H' : Hp) : Prop := ∀ b o, H b = some o → ¬ inT b → H' b = some o
theorem notT {H : Hp} (h : LamX.Tabs lamT H) {a : Addr} {o : HO} (e : H a = some o) (ho : ∀ ps, o ≠ .tbl ps := by intro _ z; cases z) : ¬ inT a := fun ⟨p, hp, z⟩ => by
  obtain ⟨ps, e2⟩ := tabs_at h hp
  rw [z, e] at e2
  exact ho ps (Option.some.inj e2)
theorem notT_none {H : Hp} (h : LamX.Tabs lamT H) {a : Addr} (e : H a = none) : ¬ inT a := fun ⟨p, hp, z⟩ => by
  obtain ⟨ps, e2⟩ := tabs_at h hp
  rw [z, e] at e2
  cases e2
theorem SameN.of {H H' : Hp} (e : Same H H') : SameN H H' := fun b o h _ => e b o h
theorem SameN.trans {H H1 H2 : Hp} (a : SameN H H1) (b : SameN H1 H2) : SameN H H2 := fun c o h n => b c o (a c o h n) n
theorem tabs_of {H H' : Hp} (h : LamX.Tabs lamT H) (e : ∀ b o, H b = some o → ¬ PlainO o → H' b = some o) : LamX.Tabs lamT H' := fun p hp => by
  obtain ⟨ps, h1, h2, h3⟩ := h p hp
  refine ⟨ps, e _ _ h1 fun z => z.1 ps rfl, h2, fun pos cv hc => ?_⟩
  obtain ⟨c, e1, e2⟩ := h3 pos cv hc
  exact ⟨c, e1, e _ _ e2 fun z => z.2 c p.2 rfl⟩
def noT (H : Hp) : Hp := fun a => if inT a then none else H a
theorem noT_no {H : Hp} {a : Addr} (h : ¬ inT a) : noT H a = H a := if_neg h
theorem noT_at {H : Hp} {a : Addr} (h : inT a) : noT H a = none := if_pos h
theorem noT_same {H : Hp} : Same (noT H) H := fun a o e => by
  by_cases z : inT a
  · rw [noT_at z] at e
    cases e
  · rw [noT_no z] at e
    exact e
def DisT (F B H : Hp) : Prop := (∀ a o, F a = some o → B a = none) ∧ TbOk F B H
structure Rel (K : PySem.W.Frag) (F B H : Hp) (σ : L2.St) (ρ : Sl) : Prop where
  exB : Same B H
  exF : Same F H
  dis : ∀ a o, F a = some o → B a = none
  len : ρ.length = σ.length
  slot : ∀ (i : Nat) (sv : SV), ρ[i]? = some (some sv) → SlotOk K F B H σ[i]? sv
  sep : ∀ i j a, Owns σ ρ i a → Owns σ ρ j a → i = j
  tb : TbOk F B H

inductive RV (K : PySem.W.Frag) (F B H : Hp) (σ : L2.St) (ρ : Sl) : V → SV → Prop
  | sh {v : V} {d : D} (r : Rep K B v d) : RV K F B H σ ρ v (.sh d)
  | fr {a : Addr} {o : HO} {xs : List V} {c : OC} (hF : F a = none) (hB : B a = none) (hH : H a = some o) (hO : c.At K o xs) (r : RepL K B xs c.ds) (no : ∀ i, ¬ Owns σ ρ i a) : RV K F B H σ ρ (.ref a) (.ow c)

/-- what an operand stands for: a value that is shared, or the list that a slot owns -/
inductive OpRep (K : PySem.W.Frag) (B H : Hp) : V → D → Prop
  | sh {v : V} {d : D} (r : Rep K B v d) : OpRep K B H v d
  | own {a : Addr} {o : HO} {xs : List V} {c : OC} {d : D} (hB : B a = none) (hH : H a = some o) (hO : c.At K o xs) (r : RepL K B xs c.ds) (e : c.d = d) : OpRep K B H (.ref a) d
inductive OpReps (K : PySem.W.Frag) (B H : Hp) : List V → List D → Prop
  | nil : OpReps K B H [] []
  | cons {v : V} {d : D} {vs : List V} {ds : List D} (h : OpRep K B H v d) (t : OpReps K B H vs ds) : OpReps K B H (v :: vs) (d :: ds)

section
variable {K : PySem.W.Frag} {F B B' H H' : Hp} {σ : L2.St} {ρ : Sl} {v : V} {d : D} {sv : SV}
theorem SlotOk.mono {o : Option (Option V)} (h : SlotOk K F B H o sv) (eB : Same B B') (hb : ∀ a, F a = none → B a = none → H a ≠ none → B' a = none) (eH : Same H H') : SlotOk K F B' H' o sv := by
  cases h with
  | sh r => exact .sh (r.mono eB _ _)
  | fr hF hB hH hO r => exact .fr hF (hb _ hF hB (by rw [hH]; exact Option.some_ne_none _)) (eH _ _ hH) hO (r.mono eB _ _)
/-- a new object that is nobody's yet -/
theorem Rel.new (R : Rel K F B H σ ρ) {p : Addr} {o : HO} (hp : H p = none) : Rel K F B (upd H p o) σ ρ where
  exB := fun a u e => by
    have e' := R.exB a u e
    rw [upd_ne (ne_of_none e' hp)]
    exact e'
  exF := fun a u e => by
    have e' := R.exF a u e
    rw [upd_ne (ne_of_none e' hp)]
    exact e'
  dis := R.dis
  len := R.len
  slot := fun i sv h => (R.slot i sv h).mono (Same.refl _) (fun _ _ h _ => h) fun a u e => by
    rw [upd_ne (ne_of_none e hp)]
    exact e
  sep := R.sep
  tb := R.tb.fresh hp
/-- .. and is shared from now on -/
theorem Rel.share (R : Rel K F B H σ ρ) {p : Addr} {o : HO} (hF : F p = none) (hB : B p = none) (hH : H p = some o) (no : ∀ i, ¬ Owns σ ρ i p) (ho : ∀ ps, o ≠ .tbl ps := by intro _ z; cases z) : Rel K F (upd B p o) H σ ρ ∧ Same B (upd B p o) := by
  have sm : Same B (upd B p o) := fun a u e => by
    rw [upd_ne (ne_of_none e hB)]
    exact e
  refine ⟨⟨fun a u e => ?_, R.exF, fun a u e => ?_, R.len, fun i sv h => ?_, R.sep, R.tb.toB hH ho⟩, sm⟩
  · by_cases h : a = p
    · subst h
      rw [upd_same] at e
      cases e
      exact hH
    · rw [upd_ne h] at e
      exact R.exB a u e
  · have h : a ≠ p := fun z => by
      rw [z, hF] at e
      cases e
    rw [upd_ne h]
    exact R.dis a u e
  · have s := R.slot i sv h
    generalize hg : σ[i]? = w at s
    cases s with
    | sh r => exact .sh (r.mono sm _ _)
    | fr hF' hB' hH' hO' r =>
      refine .fr hF' ?_ hH' hO' (r.mono sm _ _)
      rw [upd_ne fun z => ?_]
      · exact hB'
      · subst z
        exact no i ⟨⟨_, h⟩, hg⟩
theorem Owns.at (R : Rel K F B H σ ρ) {i : Nat} {a : Addr} (o : Owns σ ρ i a) : ∃ ho xs c, ρ[i]? = some (some (.ow c)) ∧ F a = none ∧ B a = none ∧ H a = some ho ∧ c.At K ho xs ∧ RepL K B xs c.ds := by
  obtain ⟨⟨ds, h⟩, h2⟩ := o
  have s := R.slot i _ h
  rw [h2] at s
  cases s with
  | fr hF hB hH hO r => exact ⟨_, _, _, h, hF, hB, hH, hO, r⟩
theorem Rel.noOwn (R : Rel K F B H σ ρ) {p : Addr} (hp : H p = none) : ∀ i, ¬ Owns σ ρ i p := fun i o => by
  obtain ⟨_, _, _, _, _, _, h, _⟩ := o.at R
  rw [hp] at h
  cases h
/-- a new shared object -/
theorem Rel.newB (R : Rel K F B H σ ρ) {p : Addr} {o : HO} (hp : H p = none) (ho : ∀ ps, o ≠ .tbl ps := by intro _ z; cases z) : Rel K F (upd B p o) (upd H p o) σ ρ ∧ Same B (upd B p o) :=
  (R.new (o := o) hp).share (R.exF.free hp) (R.exB.free hp) upd_same (fun i w => R.noOwn hp i w) ho
theorem RV.freeze (R : Rel K F B H σ ρ) (r : RV K F B H σ ρ v sv) : ∃ B', Rel K F B' H σ ρ ∧ Same B B' ∧ Rep K B' v sv.d := by
  cases r with
  | sh r => exact ⟨B, R, Same.refl _, r⟩
  | fr hF hB hH hO r no =>
    obtain ⟨R', sm⟩ := R.share hF hB hH no (plain_at hO).1
    exact ⟨_, R', sm, OC.rep upd_same hO (r.mono sm _ _)⟩
theorem RV.newL (R : Rel K F B H σ ρ) {p : Addr} {xs : List V} {ds : List D} (hp : H p = none) (r : RepL K B xs ds) : RV K F B (upd H p (.lst xs)) σ ρ (.ref p) (.fr ds) :=
  .fr (R.exF.free hp) (R.exB.free hp) upd_same rfl r fun i w => R.noOwn hp i w
theorem OpRep.lst (e : Same B H) {l : List D} (h : OpRep K B H v (.lst l)) : ∃ a xs, v = .ref a ∧ H a = some (.lst xs) ∧ RepL K B xs l := by
  cases h with
  | sh r =>
    cases r with
    | lst h r => exact ⟨_, _, rfl, e _ _ h, r⟩
  | @own a o xs c _ hB hH hO r e =>
    cases c with
    | lst l' =>
      cases e
      have hO : o = .lst xs := hO
      subst hO
      exact ⟨_, _, rfl, hH, r⟩
    | dk _ _ => cases e
    | dt _ _ => cases e
    | ob _ _ _ => cases e
theorem OpRep.tup (e : Same B H) {l : List D} (h : OpRep K B H v (.tup l)) : ∃ a xs, v = .ref a ∧ SqT K H a xs ∧ RepL K B xs l := by
  cases h with
  | sh r =>
    cases r with
    | tup h r => exact ⟨_, _, rfl, (h.mono fun a xs q => e a _ q).sq, r⟩
  | @own a o xs c _ hB hH hO r e => cases c <;> cases e
theorem OpRep.int {i : Int} (h : OpRep K B H v (.int i)) : v = .int i := by
  cases h with
  | sh r =>
    cases r
    rfl
  | @own a o xs c _ hB hH hO r e => cases c <;> cases e
theorem OpRep.bl {b : Bool} (h : OpRep K B H v (.bl b)) : v = .bl b := by
  cases h with
  | sh r =>
    cases r
    rfl
  | @own a o xs c _ hB hH hO r e => cases c <;> cases e
theorem OpRep.str {s : Str} (h : OpRep K B H v (.str s)) : v = .str s := by
  cases h with
  | sh r =>
    cases r
    rfl
  | @own a o xs c _ hB hH hO r e => cases c <;> cases e
theorem OpRep.non (h : OpRep K B H v .non) : v = .non := by
  cases h with
  | sh r =>
    cases r
    rfl
  | @own a o xs c _ hB hH hO r e => cases c <;> cases e
theorem OpRep.scr (e : Same B H) {ns : List Int} (h : OpRep K B H v (.scr ns)) : ∃ a, v = .ref a ∧ SqL K H a (ns.map V.int) := by
  cases h with
  | sh r =>
    cases r with
    | scr h => exact ⟨_, rfl, e.seq h⟩
  | @own a o xs c _ hB hH hO r e => cases c <;> cases e
theorem OpRep.rep (e : Same B H) (h : OpRep K B H v d) : Rep K H v d := by
  cases h with
  | sh r => exact r.mono e _ _
  | own hB hH hO r ed =>
    subst ed
    exact OC.rep hH hO (r.mono e _ _)
theorem OpReps.get {vs : List V} {ds : List D} (h : OpReps K B H vs ds) : vs.length = ds.length := by
  induction h with
  | nil => rfl
  | cons _ _ ih => rw [List.length_cons, List.length_cons, ih]
end

/-! ### runs of expressions -/
inductive Out (α : Type) where
  | ok (a : α) (ρ : Sl)
  | ex (c : Nat) (ρ : Sl)
abbrev M (α : Type) := Sl → Option (Out α)
def wpm {α : Type} (m : M α) (ρ : Sl) (Q : α → Sl → Prop) (X : Nat → Sl → Prop) : Prop :=
  match m ρ with
  | none => False
  | some (.ok a ρ') => Q a ρ'
  | some (.ex c ρ') => X c ρ'
def bnd {α β : Type} (m : M α) (k : α → M β) : M β := fun ρ =>
  match m ρ with
  | none => none
  | some (.ex c ρ') => some (.ex c ρ')
  | some (.ok a ρ') => k a ρ'
def ret {α : Type} (a : α) : M α := fun ρ => some (.ok a ρ)
theorem wpm_bnd {α β : Type} {m : M α} {k : α → M β} {ρ : Sl} {Q : β → Sl → Prop} {X : Nat → Sl → Prop} (h : wpm (bnd m k) ρ Q X) : wpm m ρ (fun a ρ' => wpm (k a) ρ' Q X) X := by
  unfold wpm bnd at h
  unfold wpm
  cases e : m ρ with
  | none =>
    rw [e] at h
    exact h
  | some o =>
    rw [e] at h
    cases o with
    | ok a ρ' => exact h
    | ex c ρ' => exact h
theorem wpm_mono {α : Type} {m : M α} {ρ : Sl} {Q Q' : α → Sl → Prop} {X X' : Nat → Sl → Prop} (h : wpm m ρ Q X) (hQ : ∀ a ρ', Q a ρ' → Q' a ρ') (hX : ∀ c ρ', X c ρ' → X' c ρ') : wpm m ρ Q' X' := by
  unfold wpm at *
  cases e : m ρ with
  | none =>
    rw [e] at h
    exact h
  | some o =>
    rw [e] at h
    cases o with
    | ok a ρ' => exact hQ _ _ h
    | ex c ρ' => exact hX _ _ h

/-- a reading follows a run; cv: the classes of errors; W: what is wished of an error -/
def Adm {β α : Type} (cv : Nat → Value) (W : WX) (K : PySem.W.Frag) (t : L2.St → Hp → (β → Hp → Prop) → Prop) (m : M α) (R : Hp → Hp → Hp → L2.St → Sl → β → α → Prop) : Prop :=
  ∀ (F B H : Hp) (σ : L2.St) (ρ : Sl) (Q : β → Hp → Prop), Rel K F B H σ ρ →
    wpm m ρ (fun a ρ' => ∀ v B' H', Rel K F B' H' σ ρ' → Same B B' → R F B' H' σ ρ' v a → Q v H')
      (fun c ρ' => ∀ B' H', Rel K F B' H' σ ρ' → Same B B' → W (cv c) none σ H') → t σ H Q

inductive Op where
  | val (d : D)
  | slot (i : Nat)
def slotD (ρ : Sl) (i : Nat) : Option D := match ρ[i]? with
  | some (some sv) => some sv.d
  | _ => none
def get (ρ : Sl) : Op → Option D
  | .val d => some d
  | .slot i => slotD ρ i
inductive OpV (K : PySem.W.Frag) (B : Hp) (σ : L2.St) : V → Op → Prop
  | val {v : V} {d : D} (r : Rep K B v d) : OpV K B σ v (.val d)
  | slot {v : V} {i : Nat} (h : σ[i]? = some (some v)) : OpV K B σ v (.slot i)
inductive OpVs (K : PySem.W.Frag) (B : Hp) (σ : L2.St) : List V → List Op → Prop
  | nil : OpVs K B σ [] []
  | cons {v : V} {o : Op} {vs : List V} {os : List Op} (h : OpV K B σ v o) (t : OpVs K B σ vs os) : OpVs K B σ (v :: vs) (o :: os)
def gets (ρ : Sl) : List Op → Option (List D)
  | [] => some []
  | o :: os => match get ρ o, gets ρ os with
    | some d, some ds => some (d :: ds)
    | _, _ => none
section
variable {K : PySem.W.Frag} {F B B' H H' : Hp} {σ : L2.St} {ρ : Sl} {v : V} {d : D} {sv : SV} {o : Op}
theorem OpV.mono (h : OpV K B σ v o) (e : Same B B') : OpV K B' σ v o := by
  cases h with
  | val r => exact .val (r.mono e _ _)
  | slot h => exact .slot h
theorem OpVs.mono {vs : List V} {os : List Op} (h : OpVs K B σ vs os) (e : Same B B') : OpVs K B' σ vs os := by
  induction h with
  | nil => exact .nil
  | cons h _ ih => exact .cons (h.mono e) ih
theorem OpV.rep (R : Rel K F B H σ ρ) (h : OpV K B σ v o) (hg : get ρ o = some d) : OpRep K B H v d := by
  cases h with
  | val r =>
    cases hg
    exact .sh r
  | @slot i h =>
    have hg : slotD ρ i = some d := hg
    unfold slotD at hg
    cases e : ρ[i]? with
    | none =>
      rw [e] at hg
      cases hg
    | some q =>
      rw [e] at hg
      cases q with
      | none => cases hg
      | some sv =>
        cases hg
        have s := R.slot i sv e
        rw [h] at s
        cases s with
        | sh r => exact .sh r
        | fr hF hB hH hO r => exact .own hB hH hO r rfl
theorem OpVs.rep (R : Rel K F B H σ ρ) : ∀ {vs : List V} {os : List Op} {ds : List D}, OpVs K B σ vs os → gets ρ os = some ds → OpReps K B H vs ds
  | _, _, _, .nil, hg => by
    cases hg
    exact .nil
  | _, _, ds, .cons (o := o) (os := os) h t, hg => by
    unfold gets at hg
    cases e1 : get ρ o with
    | none =>
      rw [e1] at hg
      cases hg
    | some d =>
      cases e2 : gets ρ os with
      | none =>
        rw [e1, e2] at hg
        cases hg
      | some ds' =>
        rw [e1, e2] at hg
        cases hg
        exact .cons (h.rep R e1) (OpVs.rep R t e2)
end

structure SndE (cv : Nat → Value) (X : Cx) (W : WX) (e : Expr) (t : TE) (f : M SV) : Prop where
  pe : PE X e t
  ad : Adm cv W X.K t f (RV X.K)
structure SndO (cv : Nat → Value) (X : Cx) (W : WX) (e : Expr) (t : TE) (f : M Op) : Prop where
  pe : PE X e t
  ad : Adm cv W X.K t f (fun _ B _ σ _ v o => OpV X.K B σ v o)
structure SndA (cv : Nat → Value) (X : Cx) (W : WX) (es : List Expr) (t : TA) (f : M (List Op)) : Prop where
  pa : PA X es t
  ad : Adm cv W X.K t f (fun _ B _ σ _ vs os => OpVs X.K B σ vs os)
end Sim

namespace Sim
open PySem PySem.Spec PyProof.Rows L2

section
variable {K : PySem.W.Frag} {F B B' H H' : Hp} {σ : L2.St} {ρ : Sl} {v : V} {d : D} {sv : SV} {o : Op}
theorem owns_set_none {i j : Nat} {a : Addr} (h : Owns σ (ρ.set i none) j a) : j ≠ i ∧ Owns σ ρ j a := by
  obtain ⟨⟨ds, h1⟩, h2⟩ := h
  by_cases e : i = j
  · subst e
    by_cases hl : i < ρ.length
    · rw [List.getElem?_set_self hl] at h1
      cases h1
    · rw [List.getElem?_eq_none (by simpa using hl)] at h1
      cases h1
  · rw [List.getElem?_set_ne e] at h1
    exact ⟨fun z => e z.symm, ⟨ds, h1⟩, h2⟩
/-- a slot is forgotten -/
theorem Rel.drop (R : Rel K F B H σ ρ) (i : Nat) : Rel K F B H σ (ρ.set i none) where
  exB := R.exB
  exF := R.exF
  dis := R.dis
  len := by rw [List.length_set]; exact R.len
  slot := fun j sv h => by
    by_cases e : i = j
    · subst e
      by_cases hl : i < ρ.length
      · rw [List.getElem?_set_self hl] at h
        cases h
      · rw [List.getElem?_eq_none (by simpa using hl)] at h
        cases h
    · rw [List.getElem?_set_ne e] at h
      exact R.slot j sv h
  sep := fun j k a h1 h2 => R.sep j k a (owns_set_none h1).2 (owns_set_none h2).2
  tb := R.tb
/-- a slot is known as what stands in it -/
theorem Rel.put (R : Rel K F B H σ ρ) {i : Nat} (hs : σ[i]? = some (some v)) (r : RV K F B H σ (ρ.set i none) v sv) : Rel K F B H σ (ρ.set i (some sv)) where
  exB := R.exB
  exF := R.exF
  dis := R.dis
  len := by rw [List.length_set]; exact R.len
  slot := fun j s h => by
    by_cases e : i = j
    · subst e
      obtain ⟨hl, _⟩ := List.getElem?_eq_some_iff.mp h
      rw [List.length_set] at hl
      rw [List.getElem?_set_self hl] at h
      cases h
      rw [hs]
      cases r with
      | sh r => exact .sh r
      | fr hF hB hH hO r no => exact .fr hF hB hH hO r
    · rw [List.getElem?_set_ne e] at h
      exact R.slot j s h
  sep := fun j k a h1 h2 => by
    have key : ∀ j, Owns σ (ρ.set i (some sv)) j a → j = i ∨ (j ≠ i ∧ Owns σ (ρ.set i none) j a) := fun j h => by
      by_cases e : j = i
      · exact .inl e
      · obtain ⟨⟨ds, q1⟩, q2⟩ := h
        rw [List.getElem?_set_ne (Ne.symm e)] at q1
        exact .inr ⟨e, ⟨ds, by rw [List.getElem?_set_ne (Ne.symm e)]; exact q1⟩, q2⟩
    have at_i : Owns σ (ρ.set i (some sv)) i a → ∀ k, ¬ Owns σ (ρ.set i none) k a := fun h k hk => by
      obtain ⟨⟨ds, q1⟩, q2⟩ := h
      obtain ⟨hl, _⟩ := List.getElem?_eq_some_iff.mp q1
      rw [List.length_set] at hl
      rw [List.getElem?_set_self hl] at q1
      cases q1
      rw [hs] at q2
      cases q2
      cases r with
      | fr hF hB hH hO r no => exact no k hk
    rcases key j h1 with rfl | ⟨n1, o1⟩
    · rcases key k h2 with rfl | ⟨n2, o2⟩
      · rfl
      · exact (at_i h1 k o2).elim
    · rcases key k h2 with rfl | ⟨n2, o2⟩
      · exact (at_i h2 j o1).elim
      · exact R.sep j k a (owns_set_none o1).2 (owns_set_none o2).2
  tb := R.tb
theorem Rel.freeze (R : Rel K F B H σ ρ) {i : Nat} {c : OC} (h : ρ[i]? = some (some (.ow c))) :
    ∃ a B', σ[i]? = some (some (.ref a)) ∧ Rel K F B' H σ (ρ.set i (some (.sh c.d))) ∧ Same B B' ∧ Rep K B' (.ref a) c.d := by
  have s := R.slot i _ h
  generalize hg : σ[i]? = w at s
  cases s with
  | @fr a o xs _ hF hB hH hO r =>
    have no : ∀ j, ¬ Owns σ (ρ.set i none) j a := fun j hj => by
      obtain ⟨n, oj⟩ := owns_set_none hj
      exact n (R.sep j i a oj ⟨⟨_, h⟩, hg⟩)
    obtain ⟨R', sm⟩ := (R.drop i).share hF hB hH no (plain_at hO).1
    have rep : Rep K (upd B a o) (.ref a) c.d := OC.rep upd_same hO (r.mono sm _ _)
    refine ⟨a, _, rfl, ?_, sm, rep⟩
    have R2 := R'.put (i := i) (sv := .sh c.d) hg (.sh rep)
    rw [List.set_set] at R2
    exact R2
theorem Rel.move (R : Rel K F B H σ ρ) {i : Nat} {c : OC} (h : ρ[i]? = some (some (.ow c))) :
    ∃ a, σ[i]? = some (some (.ref a)) ∧ Rel K F B H σ (ρ.set i none) ∧ RV K F B H σ (ρ.set i none) (.ref a) (.ow c) := by
  have s := R.slot i _ h
  generalize hg : σ[i]? = w at s
  cases s with
  | @fr a o xs _ hF hB hH hO r =>
    refine ⟨a, rfl, R.drop i, .fr hF hB hH hO r fun j hj => ?_⟩
    obtain ⟨n, oj⟩ := owns_set_none hj
    exact n (R.sep j i a oj ⟨⟨_, h⟩, hg⟩)
end

/-! ### names, constants, operands -/
def vVar (i : Nat) : M SV := fun ρ => match ρ[i]? with
  | some (some (.sh d)) => some (.ok (.sh d) ρ)
  | some (some (.ow c)) => some (.ok (.sh c.d) (ρ.set i (some (.sh c.d))))
  | _ => none
def vMv (i : Nat) : M SV := fun ρ => match ρ[i]? with
  | some (some (.sh d)) => some (.ok (.sh d) ρ)
  | some (some (.ow c)) => some (.ok (.ow c) (ρ.set i none))
  | _ => none
def oPk (i : Nat) : M Op := fun ρ => match ρ[i]? with
  | some (some _) => some (.ok (.slot i) ρ)
  | _ => none
def vC (d : D) : M SV := ret (.sh d)
def oOf (f : M SV) : M Op := bnd f fun sv => ret (.val sv.d)
def aNil : M (List Op) := ret []
def aCons (a : M Op) (as : M (List Op)) : M (List Op) := bnd a fun o => bnd as fun os => ret (o :: os)
section
variable {cv : Nat → Value} {X : Cx} {W : WX} {e : Expr} {es : List Expr} {t : TE} {f : M SV}
theorem slot_val {K : PySem.W.Frag} {F B H : Hp} {o : Option (Option V)} {sv : SV} (s : SlotOk K F B H o sv) : ∃ v, o = some (some v) := by
  cases s with
  | sh r => exact ⟨_, rfl⟩
  | fr _ _ _ _ _ => exact ⟨_, rfl⟩
theorem snd_var {x : Str} {i : Nat} (p : PE X e (tVar i)) : SndE cv X W e (tVar i) (vVar i) := by
  refine ⟨p, fun F B H σ ρ Q R h => ?_⟩
  unfold wpm vVar at h
  cases e1 : ρ[i]? with
  | none =>
    rw [e1] at h
    exact h.elim
  | some q =>
    rw [e1] at h
    cases q with
    | none => exact h.elim
    | some sv =>
      cases sv with
      | sh d =>
        have s := R.slot i _ e1
        generalize hg : σ[i]? = w at s
        cases s with
        | sh r => exact ⟨_, hg, h _ B H R (Same.refl _) (.sh r)⟩
      | ow l =>
        obtain ⟨a, B', hs, R', sm, rep⟩ := R.freeze e1
        exact ⟨_, hs, h _ B' H R' sm (.sh rep)⟩
theorem snd_mv {i : Nat} (p : PE X e (tVar i)) : SndE cv X W e (tVar i) (vMv i) := by
  refine ⟨p, fun F B H σ ρ Q R h => ?_⟩
  unfold wpm vMv at h
  cases e1 : ρ[i]? with
  | none =>
    rw [e1] at h
    exact h.elim
  | some q =>
    rw [e1] at h
    cases q with
    | none => exact h.elim
    | some sv =>
      cases sv with
      | sh d =>
        have s := R.slot i _ e1
        generalize hg : σ[i]? = w at s
        cases s with
        | sh r => exact ⟨_, hg, h _ B H R (Same.refl _) (.sh r)⟩
      | ow l =>
        obtain ⟨a, hs, R', rv⟩ := R.move e1
        exact ⟨_, hs, h _ B H R' (Same.refl _) rv⟩
theorem snd_pk {i : Nat} (p : PE X e (tVar i)) : SndO cv X W e (tVar i) (oPk i) := by
  refine ⟨p, fun F B H σ ρ Q R h => ?_⟩
  unfold wpm oPk at h
  cases e1 : ρ[i]? with
  | none =>
    rw [e1] at h
    exact h.elim
  | some q =>
    rw [e1] at h
    cases q with
    | none => exact h.elim
    | some sv =>
      obtain ⟨v, hv⟩ := slot_val (R.slot i _ e1)
      exact ⟨v, hv, h v B H R (Same.refl _) (.slot hv)⟩
theorem snd_c {d : D} {v : V} (p : PE X e (tC v)) (r : ∀ H, Rep X.K H v d) : SndE cv X W e (tC v) (vC d) :=
  ⟨p, fun F B H σ ρ Q R h => h v B H R (Same.refl _) (.sh (r _))⟩
theorem snd_int {i : Int} {j : Nat} {pos : Pos} : SndE cv X W (.Constant (.int i) j pos) (tC (.int i)) (vC (.int i)) := snd_c pe_int fun _ => .int i
theorem snd_bl {b : Bool} {j : Nat} {pos : Pos} : SndE cv X W (.Constant (.bool b) j pos) (tC (.bl b)) (vC (.bl b)) := snd_c pe_bl fun _ => .bl b
theorem snd_o (h : SndE cv X W e t f) : SndO cv X W e t (oOf f) := by
  refine ⟨h.pe, fun F B H σ ρ Q R q => ?_⟩
  refine h.ad F B H σ ρ Q R (wpm_mono (wpm_bnd q) (fun sv ρ' q v B' H' R' sm rv => ?_) fun _ _ q => q)
  obtain ⟨B2, R2, sm2, rep⟩ := rv.freeze R'
  exact q v B2 H' R2 (sm.trans sm2) (.val rep)
theorem snd_anil : SndA cv X W [] tNil aNil := ⟨pa_nil, fun F B H σ ρ Q R h => h [] B H R (Same.refl _) .nil⟩
theorem snd_acons {ta : TE} {ts : TA} {a : M Op} {as : M (List Op)} (ha : SndO cv X W e ta a) (hs : SndA cv X W es ts as) (hst : starEach (e :: es) X.env = (false, eval e X.env) :: starEach es X.env := by rfl) :
    SndA cv X W (e :: es) (tCons ta ts) (aCons a as) := by
  refine ⟨pa_cons ha.pe hs.pa hst, fun F B H σ ρ Q R q => ?_⟩
  refine ha.ad F B H σ ρ _ R (wpm_mono (wpm_bnd q) (fun o ρ1 q v B1 H1 R1 sm1 ov => ?_) fun _ _ q => q)
  refine hs.ad F B1 H1 σ ρ1 _ R1 (wpm_mono (wpm_bnd q) (fun os ρ2 q vs B2 H2 R2 sm2 ovs => ?_) fun c ρ2 q B2 H2 R2 sm2 => q B2 H2 R2 (sm1.trans sm2))
  exact q (v :: vs) B2 H2 R2 (sm1.trans sm2) (.cons (ov.mono sm2) ovs)
end

/-! ### operators -/
def lift1 (g : D → Option SV) (o : Op) : M SV := fun ρ => match get ρ o with
  | some x => (g x).map fun sv => .ok sv ρ
  | none => none
def lift2 (g : D → D → Option SV) (o p : Op) : M SV := fun ρ => match get ρ o, get ρ p with
  | some x, some y => (g x y).map fun sv => .ok sv ρ
  | _, _ => none
def liftA (g : List D → Option SV) (os : List Op) : M SV := fun ρ => match gets ρ os with
  | some xs => (g xs).map fun sv => .ok sv ρ
  | none => none
def vOp1 (g : D → Option SV) (a : M Op) : M SV := bnd a (lift1 g)
def vOp2 (g : D → D → Option SV) (a b : M Op) : M SV := bnd a fun o => bnd b (lift2 g o)
def vBi (g : List D → Option SV) (as : M (List Op)) : M SV := bnd as (liftA g)
/-- what a rule by values asks is met -/
def Ok1 (K : PySem.W.Frag) (r : V → Hp → VK → Prop) (g : D → Option SV) : Prop :=
  ∀ (F B H : Hp) (σ : L2.St) (ρ : Sl) (x : V) (dx : D) (sv : SV) (Q : VK), Rel K F B H σ ρ → OpRep K B H x dx → g dx = some sv →
    (∀ v B' H', Rel K F B' H' σ ρ → Same B B' → RV K F B' H' σ ρ v sv → Q v H') → r x H Q
def Ok2 (K : PySem.W.Frag) (r : R2) (g : D → D → Option SV) : Prop :=
  ∀ (F B H : Hp) (σ : L2.St) (ρ : Sl) (x y : V) (dx dy : D) (sv : SV) (Q : VK), Rel K F B H σ ρ → OpRep K B H x dx → OpRep K B H y dy → g dx dy = some sv →
    (∀ v B' H', Rel K F B' H' σ ρ → Same B B' → RV K F B' H' σ ρ v sv → Q v H') → r x y H Q
def OkA (K : PySem.W.Frag) (r : List V → Hp → VK → Prop) (g : List D → Option SV) : Prop :=
  ∀ (F B H : Hp) (σ : L2.St) (ρ : Sl) (xs : List V) (ds : List D) (sv : SV) (Q : VK), Rel K F B H σ ρ → OpReps K B H xs ds → g ds = some sv →
    (∀ v B' H', Rel K F B' H' σ ρ → Same B B' → RV K F B' H' σ ρ v sv → Q v H') → r xs H Q
section
variable {cv : Nat → Value} {X : Cx} {W : WX} {e a b : Expr} {es : List Expr} {ta tb : TE} {ts : TA} {fa fb : M Op} {fs : M (List Op)}
theorem adm_op2 {r : R2} {g : D → D → Option SV} (ok : Ok2 X.K r g) (ha : SndO cv X W a ta fa) (hb : SndO cv X W b tb fb) : Adm cv W X.K (tOp r ta tb) (vOp2 g fa fb) (RV X.K) := by
  intro F B H σ ρ Q R q
  refine ha.ad F B H σ ρ _ R (wpm_mono (wpm_bnd q) (fun o ρ1 q v B1 H1 R1 sm1 ov => ?_) fun _ _ q => q)
  refine hb.ad F B1 H1 σ ρ1 _ R1 (wpm_mono (wpm_bnd q) (fun p ρ2 q w B2 H2 R2 sm2 ow => ?_) fun c ρ2 q B2 H2 R2 sm2 => q B2 H2 R2 (sm1.trans sm2))
  unfold wpm lift2 at q
  cases e1 : get ρ2 o with
  | none =>
    rw [e1] at q
    exact q.elim
  | some x =>
    cases e2 : get ρ2 p with
    | none =>
      rw [e1, e2] at q
      exact q.elim
    | some y =>
      rw [e1, e2] at q
      cases e3 : g x y with
      | none =>
        simp only [e3, Option.map_none] at q
      | some sv =>
        simp only [e3, Option.map_some] at q
        exact ok F B2 H2 σ ρ2 v w x y sv Q R2 ((ov.mono sm2).rep R2 e1) (ow.rep R2 e2) e3 fun u B3 H3 R3 sm3 rv => q u B3 H3 R3 ((sm1.trans sm2).trans sm3) rv
theorem adm_op1 {r : V → Hp → VK → Prop} {g : D → Option SV} (ok : Ok1 X.K r g) (ha : SndO cv X W a ta fa) : Adm cv W X.K (tUn r ta) (vOp1 g fa) (RV X.K) := by
  intro F B H σ ρ Q R q
  refine ha.ad F B H σ ρ _ R (wpm_mono (wpm_bnd q) (fun o ρ1 q v B1 H1 R1 sm1 ov => ?_) fun _ _ q => q)
  unfold wpm lift1 at q
  cases e1 : get ρ1 o with
  | none =>
    rw [e1] at q
    exact q.elim
  | some x =>
    rw [e1] at q
    cases e3 : g x with
    | none => simp only [e3, Option.map_none] at q
    | some sv =>
      simp only [e3, Option.map_some] at q
      exact ok F B1 H1 σ ρ1 v x sv Q R1 (ov.rep R1 e1) e3 fun u B3 H3 R3 sm3 rv => q u B3 H3 R3 (sm1.trans sm3) rv
theorem adm_bi {r : List V → Hp → VK → Prop} {g : List D → Option SV} (ok : OkA X.K r g) (ha : SndA cv X W es ts fs) : Adm cv W X.K (tCB r ts) (vBi g fs) (RV X.K) := by
  intro F B H σ ρ Q R q
  refine ha.ad F B H σ ρ _ R (wpm_mono (wpm_bnd q) (fun o ρ1 q v B1 H1 R1 sm1 ov => ?_) fun _ _ q => q)
  unfold wpm liftA at q
  cases e1 : gets ρ1 o with
  | none =>
    rw [e1] at q
    exact q.elim
  | some x =>
    rw [e1] at q
    cases e3 : g x with
    | none => simp only [e3, Option.map_none] at q
    | some sv =>
      simp only [e3, Option.map_some] at q
      exact ok F B1 H1 σ ρ1 v x sv Q R1 (ov.rep R1 e1) e3 fun u B3 H3 R3 sm3 rv => q u B3 H3 R3 (sm1.trans sm3) rv
theorem snd_bin {op : Operator} {r : R2} {g : D → D → Option SV} {pos : Pos} (ho : OpR X (binaryOp op) r) (ok : Ok2 X.K r g) (ha : SndO cv X W a ta fa) (hb : SndO cv X W b tb fb) :
    SndE cv X W (.BinOp a op b pos) (tOp r ta tb) (vOp2 g fa fb) := ⟨pe_op ho ha.pe hb.pe, adm_op2 ok ha hb⟩
theorem snd_un {op : UnaryOp} {r : V → Hp → VK → Prop} {g : D → Option SV} {pos : Pos} (ho : UnR X (unaryOp op) r) (ok : Ok1 X.K r g) (ha : SndO cv X W a ta fa) :
    SndE cv X W (.UnaryOp op a pos) (tUn r ta) (vOp1 g fa) := ⟨pe_un ho ha.pe, adm_op1 ok ha⟩
end

/-! ### arithmetic -/
/-- the factors' sizes together -/
def MulOk (i j : Int) : Prop := (-(2 ^ 64) < i ∧ i < 2 ^ 64) ∨ (-(2 ^ 64) < j ∧ j < 2 ^ 64) ∨ i.natAbs.log2 + j.natAbs.log2 < 1000000
instance (i j : Int) : Decidable (MulOk i j) := by unfold MulOk; infer_instance
theorem MulOk.ok {i j : Int} (h : MulOk i j) : IntMulOk i j := by
  rcases h with h | h | h
  · exact CMul.ok (.inl h)
  · exact CMul.ok (.inr h)
  · exact CMulW.ok h
def DivOk (_ j : Int) : Prop := j ≠ 0 ∧ j.natAbs.log2 < 9000
instance (i j : Int) : Decidable (DivOk i j) := by unfold DivOk; infer_instance
def PowOk (i j : Int) : Prop := 0 ≤ j ∧ j ≤ 1000000 ∧ i.natAbs < 2 ^ 64
instance (i j : Int) : Decidable (PowOk i j) := by unfold PowOk; infer_instance
def gAdd : D → D → Option SV
  | .int i, .int j => some (.sh (.int (i + j)))
  | .lst l, .lst m => if l.length + m.length ≤ 1000000 then some (.fr (l ++ m)) else none
  | .str s, .str u => if s.length + u.length ≤ 1000000 then some (.sh (.str (s ++ u))) else none
  | _, _ => none
def gSub : D → D → Option SV
  | .int i, .int j => some (.sh (.int (i - j)))
  | _, _ => none
def gMul : D → D → Option SV
  | .int i, .int j => if MulOk i j then some (.sh (.int (i * j))) else none
  | _, _ => none
def gDiv : D → D → Option SV
  | .int i, .int j => if DivOk i j then some (.sh (.int (i.fdiv j))) else none
  | _, _ => none
def gMod : D → D → Option SV
  | .int i, .int j => if j ≠ 0 then some (.sh (.int (i.fmod j))) else none
  | _, _ => none
def gPow : D → D → Option SV
  | .int i, .int j => if PowOk i j then some (.sh (.int (i ^ j.toNat))) else none
  | _, _ => none
def gNeg : D → Option SV
  | .int i => some (.sh (.int (-i)))
  | _ => none
def rAdd3 : R2 := fun x y H Q => (∃ i j, x = .int i ∧ y = .int j ∧ Q (.int (i + j)) H) ∨ (rCat x y H Q ∨ (∃ i j, x = .str i ∧ y = .str j ∧ i.length + j.length ≤ sizeLine ∧ Q (.str (i ++ j)) H))
theorem mill_le {n : Nat} (h : n ≤ 1000000) : n ≤ sizeLine := Nat.le_trans h (by decide)
theorem mill_lt {n : Nat} (h : n < 1000000) : n < sizeLine := Nat.lt_of_lt_of_le h (by decide)
section
variable {X : Cx} {K : PySem.W.Frag}
theorem op_add3 : OpR X (binaryOp .Add) rAdd3 := OpR.or op_add (OpR.or op_cat op_add_str)
theorem op_mul3 : OpR X (binaryOp .Mult) (rI MulOk fun i j => .int (i * j)) := opI fun _ _ _ _ _ _ _ hc q => mul_int q hc.ok
theorem op_div3 : OpR X (binaryOp .FloorDiv) (rI DivOk fun i j => .int (i.fdiv j)) := opI fun i j _ _ _ _ _ hc q =>
  floordiv_int hc.1 q (.inl (PyProof.noPylong_of_log2 hc.2))
theorem ok_add : Ok2 K rAdd3 gAdd := by
  intro F B H σ ρ x y dx dy sv Q R hx hy hg q
  unfold gAdd at hg
  split at hg
  · cases hg
    exact .inl ⟨_, _, hx.int, hy.int, q _ B H R (Same.refl _) (.sh (.int _))⟩
  · rename_i l m
    split at hg
    · rename_i hl
      cases hg
      obtain ⟨a, xs, rfl, h1, r1⟩ := hx.lst R.exB
      obtain ⟨b, ys, rfl, h2, r2⟩ := hy.lst R.exB
      refine .inr (.inl ⟨a, b, xs, ys, rfl, rfl, h1, h2, ?_, fun p hp => q _ B _ (R.new hp) (Same.refl _) (RV.newL R hp (r1.append r2))⟩)
      rw [r1.length, r2.length]
      exact mill_le hl
    · cases hg
  · split at hg
    · rename_i hl
      cases hg
      exact .inr (.inr ⟨_, _, hx.str, hy.str, mill_le hl, q _ B H R (Same.refl _) (.sh (.str _))⟩)
    · cases hg
  · cases hg
theorem ok_sub : Ok2 K (rI0 fun i j => .int (i - j)) gSub := by
  intro F B H σ ρ x y dx dy sv Q R hx hy hg q
  unfold gSub at hg
  split at hg
  · cases hg
    exact ⟨_, _, hx.int, hy.int, q _ B H R (Same.refl _) (.sh (.int _))⟩
  · cases hg
theorem ok_mul : Ok2 K (rI MulOk fun i j => .int (i * j)) gMul := by
  intro F B H σ ρ x y dx dy sv Q R hx hy hg q
  unfold gMul at hg
  split at hg
  · split at hg
    · rename_i hc
      cases hg
      exact ⟨_, _, hx.int, hy.int, hc, q _ B H R (Same.refl _) (.sh (.int _))⟩
    · cases hg
  · cases hg
theorem ok_div : Ok2 K (rI DivOk fun i j => .int (i.fdiv j)) gDiv := by
  intro F B H σ ρ x y dx dy sv Q R hx hy hg q
  unfold gDiv at hg
  split at hg
  · split at hg
    · rename_i hc
      cases hg
      exact ⟨_, _, hx.int, hy.int, hc, q _ B H R (Same.refl _) (.sh (.int _))⟩
    · cases hg
  · cases hg
theorem ok_mod : Ok2 K (rI (fun _ j => j ≠ 0) fun i j => .int (i.fmod j)) gMod := by
  intro F B H σ ρ x y dx dy sv Q R hx hy hg q
  unfold gMod at hg
  split at hg
  · split at hg
    · rename_i hc
      cases hg
      exact ⟨_, _, hx.int, hy.int, hc, q _ B H R (Same.refl _) (.sh (.int _))⟩
    · cases hg
  · cases hg
theorem ok_pow : Ok2 K (rI CPow fun i j => .int (i ^ j.toNat)) gPow := by
  intro F B H σ ρ x y dx dy sv Q R hx hy hg q
  unfold gPow at hg
  split at hg
  · split at hg
    · rename_i hc
      cases hg
      exact ⟨_, _, hx.int, hy.int, hc, q _ B H R (Same.refl _) (.sh (.int _))⟩
    · cases hg
  · cases hg
theorem ok_neg : Ok1 K (rU fun i => .int (-i)) gNeg := by
  intro F B H σ ρ x dx sv Q R hx hg q
  unfold gNeg at hg
  split at hg
  · cases hg
    exact ⟨_, hx.int, q _ B H R (Same.refl _) (.sh (.int _))⟩
  · cases hg
end
section
variable {cv : Nat → Value} {X : Cx} {W : WX} {a b : Expr} {ta tb : TE} {fa fb : M Op} {pos : Pos}
theorem snd_add (ha : SndO cv X W a ta fa) (hb : SndO cv X W b tb fb) : SndE cv X W (.BinOp a .Add b pos) (tOp rAdd3 ta tb) (vOp2 gAdd fa fb) := snd_bin op_add3 ok_add ha hb
theorem snd_sub (ha : SndO cv X W a ta fa) (hb : SndO cv X W b tb fb) : SndE cv X W (.BinOp a .Sub b pos) (tOp (rI0 fun i j => .int (i - j)) ta tb) (vOp2 gSub fa fb) := snd_bin op_sub ok_sub ha hb
theorem snd_mul (ha : SndO cv X W a ta fa) (hb : SndO cv X W b tb fb) : SndE cv X W (.BinOp a .Mult b pos) (tOp (rI MulOk fun i j => .int (i * j)) ta tb) (vOp2 gMul fa fb) := snd_bin op_mul3 ok_mul ha hb
theorem snd_div (ha : SndO cv X W a ta fa) (hb : SndO cv X W b tb fb) : SndE cv X W (.BinOp a .FloorDiv b pos) (tOp (rI DivOk fun i j => .int (i.fdiv j)) ta tb) (vOp2 gDiv fa fb) := snd_bin op_div3 ok_div ha hb
theorem snd_mod (ha : SndO cv X W a ta fa) (hb : SndO cv X W b tb fb) : SndE cv X W (.BinOp a .Mod b pos) (tOp (rI (fun _ j => j ≠ 0) fun i j => .int (i.fmod j)) ta tb) (vOp2 gMod fa fb) := snd_bin op_modN ok_mod ha hb
theorem snd_pow (ha : SndO cv X W a ta fa) (hb : SndO cv X W b tb fb) : SndE cv X W (.BinOp a .Pow b pos) (tOp (rI CPow fun i j => .int (i ^ j.toNat)) ta tb) (vOp2 gPow fa fb) := snd_bin op_pow ok_pow ha hb
theorem snd_neg (ha : SndO cv X W a ta fa) : SndE cv X W (.UnaryOp .USub a pos) (tUn (rU fun i => .int (-i)) ta) (vOp1 gNeg fa) := snd_un un_neg ok_neg ha
end

/-! ### comparisons -/
mutual
def toPy : D → PyData
  | .non => .none
  | .bl b => .bool b
  | .int i => .int i
  | .str s => .str s
  | .tup l => .tuple (toPyL l)
  | .lst l => .list (toPyL l)
  | .scr l => .list (l.map PyData.int)
  | .dct _ _ => .dict []
  | .dck _ _ => .dict []
  | .ob _ _ _ => .dict []
  | .adr _ => .dict []
  | .fn _ _ _ => .dict []
  | .lv _ => .dict []
def toPyL : List D → List PyData
  | [] => []
  | d :: ds => toPy d :: toPyL ds
end
theorem dp_ints {K : PySem.W.Frag} {H : Hp} : ∀ ns : List Int, DpAll K H (ns.map V.int) (ns.map PyData.int)
  | [] => .nil
  | n :: ns => .cons (.int n) (dp_ints ns)
mutual
theorem Rep.dp {K : PySem.W.Frag} {H : Hp} : ∀ (d : D) (v : V), (toPy d).canLay0 = true → Rep K H v d → Dp K H v (toPy d)
  | .non, _, _, .non => .non
  | .bl _, _, _, .bl b => .bl b
  | .int _, _, _, .int i => .int i
  | .str _, _, _, .str s => .str s
  | .tup ds, _, hc, .tup h r => by
    unfold toPy at hc ⊢
    exact .tup h.sq (RepL.dp ds _ hc r)
  | .lst ds, _, hc, .lst h r => by
    unfold toPy at hc ⊢
    exact .lst (SqL.of h) (RepL.dp ds _ hc r)
  | .scr _, _, _, .scr h => by
    unfold toPy
    exact .lst h (dp_ints _)
  | .dct _ _, _, hc, _ => by
    unfold toPy at hc
    exact nomatch hc
  | .dck _ _, _, hc, _ => by
    unfold toPy at hc
    exact nomatch hc
  | .ob _ _ _, _, hc, _ => by
    unfold toPy at hc
    exact nomatch hc
  | .adr _, _, hc, _ => by
    unfold toPy at hc
    exact nomatch hc
  | .lv _, _, hc, _ => by
    unfold toPy at hc
    exact nomatch hc
  | .fn _ _ _, _, hc, _ => by
    unfold toPy at hc
    exact nomatch hc
theorem RepL.dp {K : PySem.W.Frag} {H : Hp} : ∀ (ds : List D) (vs : List V), PyData.canLayAll0 (toPyL ds) = true → RepL K H vs ds → DpAll K H vs (toPyL ds)
  | [], _, _, .nil => by
    unfold toPyL
    exact .nil
  | d :: ds, _, hc, .cons h t => by
    unfold toPyL at hc ⊢
    have hc2 : (toPy d).canLay0 = true ∧ PyData.canLayAll0 (toPyL ds) = true := Bool.and_eq_true_iff.mp hc
    exact .cons (Rep.dp d _ hc2.1 h) (RepL.dp ds _ hc2.2 t)
end
def okPy (d : D) : Bool := SeqAt.shaped (toPy d)
def eqD (a b : D) : Bool := PyData.eqv (toPy a) (toPy b)
def gEq (x y : D) : Option SV := if okPy x = true ∧ okPy y = true then some (.sh (.bl (eqD x y))) else none
def gNe (x y : D) : Option SV := if okPy x = true ∧ okPy y = true then some (.sh (.bl (!eqD x y))) else none
def gCmp (p : Int → Int → Bool) : D → D → Option SV
  | .int i, .int j => some (.sh (.bl (p i j)))
  | _, _ => none
def tst (f : M SV) : M Bool := bnd f fun sv ρ => match sv with
  | .sh (.bl b) => some (.ok b ρ)
  | _ => none
section
variable {X : Cx} {K : PySem.W.Frag}
theorem ok_eq : Ok2 K (rEqD K) gEq := by
  intro F B H σ ρ x y dx dy sv Q R hx hy hg q
  unfold gEq at hg
  split at hg
  · rename_i hc
    cases hg
    exact ⟨_, _, Rep.dp _ _ (SeqAt.canLay_of_shaped hc.1) (hx.rep R.exB), Rep.dp _ _ (SeqAt.canLay_of_shaped hc.2) (hy.rep R.exB), hc.1, hc.2, q _ B H R (Same.refl _) (.sh (.bl _))⟩
  · cases hg
theorem ok_ne : Ok2 K (rNeD K) gNe := by
  intro F B H σ ρ x y dx dy sv Q R hx hy hg q
  unfold gNe at hg
  split at hg
  · rename_i hc
    cases hg
    exact ⟨_, _, Rep.dp _ _ (SeqAt.canLay_of_shaped hc.1) (hx.rep R.exB), Rep.dp _ _ (SeqAt.canLay_of_shaped hc.2) (hy.rep R.exB), hc.1, hc.2, q _ B H R (Same.refl _) (.sh (.bl _))⟩
  · cases hg
theorem ok_cmp {p : Int → Int → Bool} : Ok2 K (rI0 fun i j => .bl (p i j)) (gCmp p) := by
  intro F B H σ ρ x y dx dy sv Q R hx hy hg q
  unfold gCmp at hg
  split at hg
  · cases hg
    exact ⟨_, _, hx.int, hy.int, q _ B H R (Same.refl _) (.sh (.bl _))⟩
  · cases hg
end
structure SndB (cv : Nat → Value) (X : Cx) (W : WX) (e : Expr) (t : TT) (f : M Bool) : Prop where
  pt : PT X e t
  ad : Adm cv W X.K t f (fun _ _ _ _ _ b b' => b = b')
structure SndV (cv : Nat → Value) (X : Cx) (W : WX) (e : Expr) (t : TT) (f : M Bool) : Prop where
  pw : PW X e t
  ad : Adm cv W X.K t f (fun _ _ _ _ _ b b' => b = b')
theorem adm_tst {cv : Nat → Value} {K : PySem.W.Frag} {W : WX} {t : TE} {f : M SV} (h : Adm cv W K t f (RV K)) : Adm cv W K (fun σ H Q => t σ H fun x H' => ∃ k, x = .bl k ∧ Q k H') (tst f) (fun _ _ _ _ _ b b' => b = b') := by
  intro F B H σ ρ Q R q
  refine h F B H σ ρ _ R (wpm_mono (wpm_bnd q) (fun sv ρ1 q v B1 H1 R1 sm1 rv => ?_) fun _ _ q => q)
  unfold wpm at q
  split at q
  · exact q.elim
  · rename_i e1
    split at e1
    · cases e1
      cases rv with
      | sh r =>
        cases r
        exact ⟨_, rfl, q _ B1 H1 R1 sm1 rfl⟩
    · cases e1
  · rename_i e1
    split at e1 <;> cases e1
def tand (a b : M Bool) : M Bool := bnd a fun x => if x = true then b else ret false
def tor (a b : M Bool) : M Bool := bnd a fun x => if x = true then ret true else b
def tnot (a : M Bool) : M Bool := bnd a fun x => ret (!x)
def vand (a : M SV) (b : M SV) : M SV := bnd (tst a) fun x => if x = true then b else ret (.sh (.bl false))
def vor (a : M SV) (b : M SV) : M SV := bnd (tst a) fun x => if x = true then ret (.sh (.bl true)) else b
def vnot (a : M SV) : M SV := bnd (tst a) fun x => ret (.sh (.bl (!x)))
def vif (c : M Bool) (a b : M SV) : M SV := bnd c fun x => if x = true then a else b
section
variable {cv : Nat → Value} {X : Cx} {W : WX} {e a b : Expr} {rest : List Expr} {ta tb : TE} {t u : TT} {fa fb : M Op} {f g : M SV} {m n : M Bool} {pos : Pos}
theorem snd_cmp {op : CmpOp} {r : R2} {g : D → D → Option SV} (ho : OpR X (compareOp op) r) (ok : Ok2 X.K r g) (ha : SndO cv X W a ta fa) (hb : SndO cv X W b tb fb) (hm : behindInMarks op b = false) :
    SndE cv X W (.Compare a [op] [b] pos) (tOp r ta tb) (vOp2 g fa fb) := ⟨pe_cmpR ho ha.pe hb.pe hm, adm_op2 ok ha hb⟩
theorem snb_cmp {op : CmpOp} {r : R2} {g : D → D → Option SV} (ho : OpR X (compareOp op) r) (ok : Ok2 X.K r g) (ha : SndO cv X W a ta fa) (hb : SndO cv X W b tb fb) (hm : behindInMarks op b = false) :
    SndB cv X W (.Compare a [op] [b] pos) (tTest (tOp r ta tb)) (tst (vOp2 g fa fb)) := ⟨pt_cmpR ho ha.pe hb.pe hm, adm_tst (adm_op2 ok ha hb)⟩
theorem snb_val (h : SndE cv X W e ta f) (he : ∀ whole, isTrue e X.env whole = (do let v ← whole; standAt e.pos; holding [v] (truthy v)) := by intro _; rfl) : SndB cv X W e (tB ta) (tst f) := ⟨pt_val h.pe he, adm_tst h.ad⟩
theorem snb_v (h : SndV cv X W e t m) : SndB cv X W e t m := ⟨h.pw.pt, h.ad⟩
theorem snv_or1 (h : SndB cv X W a t m) : SndV cv X W (.BoolOp .Or [a] pos) t m := ⟨pw_or1 h.pt, h.ad⟩
theorem snv_or (ha : SndB cv X W a t m) (hb : SndV cv X W (.BoolOp .Or (b :: rest) pos) u n) : SndV cv X W (.BoolOp .Or (a :: b :: rest) pos) (tOr t u) (tor m n) := by
  refine ⟨pw_or ha.pt hb.pw, fun F B H σ ρ Q R q => ?_⟩
  refine ha.ad F B H σ ρ _ R (wpm_mono (wpm_bnd q) (fun x ρ1 q b' B1 H1 R1 sm1 e1 => ?_) fun _ _ q => q)
  subst e1
  cases b' with
  | false => exact hb.ad F B1 H1 σ ρ1 Q R1 (wpm_mono q (fun x ρ2 q v B2 H2 R2 sm2 e2 => q v B2 H2 R2 (sm1.trans sm2) e2) fun c ρ2 q B2 H2 R2 sm2 => q B2 H2 R2 (sm1.trans sm2))
  | true => exact q true B1 H1 R1 sm1 rfl
theorem snb_not (ha : SndB cv X W a t m) : SndB cv X W (.UnaryOp .Not a pos) (tNot t) (tnot m) := by
  refine ⟨pt_not ha.pt, fun F B H σ ρ Q R q => ?_⟩
  refine ha.ad F B H σ ρ _ R (wpm_mono (wpm_bnd q) (fun x ρ1 q b' B1 H1 R1 sm1 e1 => ?_) fun _ _ q => q)
  subst e1
  exact q _ B1 H1 R1 sm1 rfl
theorem snd_one {op : BoolOp} (h : SndE cv X W a ta f) : SndE cv X W (.BoolOp op [a] pos) ta f := ⟨pe_one h.pe, h.ad⟩
theorem snd_and (ha : SndE cv X W a ta f) (hb : SndE cv X W (.BoolOp .And (b :: rest) pos) tb g) : SndE cv X W (.BoolOp .And (a :: b :: rest) pos) (tAndV ta tb) (vand f g) := by
  refine ⟨pe_and ha.pe hb.pe, fun F B H σ ρ Q R q => ?_⟩
  have k := adm_tst ha.ad F B H σ ρ (fun c H1 => if c = true then tb σ H1 Q else Q (.bl false) H1) R (wpm_mono (wpm_bnd q) (fun x ρ1 q b' B1 H1 R1 sm1 e1 => ?_) fun _ _ q => q)
  · exact k
  · subst e1
    cases b' with
    | true => exact hb.ad F B1 H1 σ ρ1 Q R1 (wpm_mono q (fun x ρ2 q v B2 H2 R2 sm2 e2 => q v B2 H2 R2 (sm1.trans sm2) e2) fun c ρ2 q B2 H2 R2 sm2 => q B2 H2 R2 (sm1.trans sm2))
    | false => exact q _ B1 H1 R1 sm1 (.sh (.bl false))
theorem snd_not (ha : SndE cv X W a ta f) : SndE cv X W (.UnaryOp .Not a pos) (tNotV ta) (vnot f) := by
  refine ⟨pe_not ha.pe, fun F B H σ ρ Q R q => ?_⟩
  exact adm_tst ha.ad F B H σ ρ (fun c H1 => Q (.bl (!c)) H1) R (wpm_mono (wpm_bnd q) (fun x ρ1 q b' B1 H1 R1 sm1 e1 => by
    subst e1
    exact q _ B1 H1 R1 sm1 (.sh (.bl _))) fun _ _ q => q)
end
theorem wpm_lift1 {g : D → Option SV} {o : Op} {ρ : Sl} {Q : SV → Sl → Prop} {E : Nat → Sl → Prop} (q : wpm (lift1 g o) ρ Q E) : ∃ x sv, get ρ o = some x ∧ g x = some sv ∧ Q sv ρ := by
  unfold wpm lift1 at q
  cases e1 : get ρ o with
  | none =>
    rw [e1] at q
    exact q.elim
  | some x =>
    rw [e1] at q
    cases e3 : g x with
    | none => simp only [e3, Option.map_none] at q
    | some sv =>
      simp only [e3, Option.map_some] at q
      exact ⟨x, sv, rfl, e3, q⟩
/-- a op b op' c -/
def vChain (g g' : D → D → Option SV) (a b c : M Op) : M SV := bnd a fun x => bnd b fun y => bnd (tst (lift2 g x y)) fun k => if k = true then bnd c fun z => lift2 g' y z else ret (.sh (.bl false))
section
variable {cv : Nat → Value} {X : Cx} {W : WX} {a b c : Expr} {ta tb tc : TE} {fa fb fc : M Op} {pos : Pos}
end
end Sim

namespace Sim
open PySem PySem.Spec PyProof.Rows L2

/-! ### displays -/
def vals : List Op → Option (List D)
  | [] => some []
  | .val d :: os => (vals os).map (d :: ·)
  | .slot _ :: _ => none
theorem OpVs.vals {K : PySem.W.Frag} {B : Hp} {σ : L2.St} : ∀ {vs : List V} {os : List Op} {ds : List D}, OpVs K B σ vs os → Sim.vals os = some ds → RepL K B vs ds
  | _, _, _, .nil, h => by
    cases h
    exact .nil
  | _, _, ds, .cons (os := os) (.val r) t, h => by
    unfold Sim.vals at h
    cases e : Sim.vals os with
    | none =>
      rw [e] at h
      cases h
    | some es =>
      rw [e] at h
      cases h
      exact .cons r (OpVs.vals t e)
  | _, _, _, .cons (.slot _) _, h => by
    unfold Sim.vals at h
    cases h
def vTup (as : M (List Op)) : M SV := bnd as fun os ρ => match vals os with
  | some ds => if ds.length ≤ 1000000 then some (.ok (.sh (.tup ds)) ρ) else none
  | none => none
def vLst (as : M (List Op)) : M SV := bnd as fun os ρ => match vals os with
  | some ds => if ds.length ≤ 1000000 then some (.ok (.fr ds) ρ) else none
  | none => none
section
variable {cv : Nat → Value} {X : Cx} {W : WX} {es : List Expr} {ts : TA} {fs : M (List Op)} {pos : Pos}
theorem snd_lst (ha : SndA cv X W es ts fs) : SndE cv X W (.List es pos) (tLst ts) (vLst fs) := by
  refine ⟨pe_lst ha.pa, fun F B H σ ρ Q R q => ?_⟩
  refine ha.ad F B H σ ρ _ R (wpm_mono (wpm_bnd q) (fun os ρ1 q vs B1 H1 R1 sm1 ov => ?_) fun _ _ q => q)
  unfold wpm at q
  cases e : vals os with
  | none =>
    rw [e] at q
    exact q.elim
  | some ds =>
    simp only [e] at q
    by_cases hl : ds.length ≤ 1000000
    · rw [if_pos hl] at q
      have rl := ov.vals e
      refine ⟨by rw [rl.length]; exact mill_le hl, fun p hp => ?_⟩
      exact q _ _ _ (R1.new hp) sm1 (RV.newL R1 hp rl)
    · rw [if_neg hl] at q
      exact q.elim
end

/-! ### items -/
def gIx : D → D → Option SV
  | .lst l, .int i => (atI l i).map .sh
  | .tup l, .int i => (atI l i).map .sh
  | .scr l, .int i => (atI l i).map fun n => .sh (.int n)
  | .str s, .int i => if s.length ≤ 1000000 then (atI s.cps.toList i).map fun c => .sh (.str ⟨#[c]⟩) else none
  | _, _ => none
section
variable {K : PySem.W.Frag} {H : Hp}
theorem RepL.atI {xs : List V} {ds : List D} {i : Int} {d : D} (r : RepL K H xs ds) (h : L2.atI ds i = some d) : ∃ v, L2.atI xs i = some v ∧ Rep K H v d := by
  unfold L2.atI at *
  rw [r.length]
  cases e : ixN ds.length i with
  | none =>
    rw [e] at h
    cases h
  | some j =>
    rw [e] at h
    exact r.get h
theorem atI_ints {ns : List Int} {i n : Int} (h : L2.atI ns i = some n) : L2.atI (ns.map V.int) i = some (.int n) := by
  unfold L2.atI at *
  rw [List.length_map]
  cases e : ixN ns.length i with
  | none =>
    rw [e] at h
    cases h
  | some j =>
    rw [e] at h
    have h' : ns[j]? = some n := h
    show (ns.map V.int)[j]? = _
    rw [List.getElem?_map, h']
    rfl
theorem ok_ix : Ok2 K (rIx K) gIx := by
  intro F B H σ ρ x y dx dy sv Q R hx hy hg q
  unfold gIx at hg
  split at hg
  · rename_i l i
    obtain ⟨a, xs, rfl, h1, r1⟩ := hx.lst R.exB
    cases e : atI l i with
    | none =>
      rw [e] at hg
      cases hg
    | some d =>
      rw [e] at hg
      cases hg
      obtain ⟨v, hv, rv⟩ := r1.atI e
      exact .inl ⟨a, xs, i, v, rfl, hy.int, SqL.of h1, hv, q v B H R (Same.refl _) (.sh rv)⟩
  · rename_i l i
    obtain ⟨a, xs, rfl, h1, r1⟩ := hx.tup R.exB
    cases e : atI l i with
    | none =>
      rw [e] at hg
      cases hg
    | some d =>
      rw [e] at hg
      cases hg
      obtain ⟨v, hv, rv⟩ := r1.atI e
      exact .inr (.inl ⟨a, xs, i, v, rfl, hy.int, h1, hv, q v B H R (Same.refl _) (.sh rv)⟩)
  · rename_i l i
    obtain ⟨a, rfl, h1⟩ := hx.scr R.exB
    cases e : atI l i with
    | none =>
      rw [e] at hg
      cases hg
    | some d =>
      rw [e] at hg
      cases hg
      exact .inl ⟨a, _, i, _, rfl, hy.int, h1, atI_ints e, q _ B H R (Same.refl _) (.sh (.int _))⟩
  · rename_i s i
    split at hg
    · rename_i hl
      cases e : atI s.cps.toList i with
      | none =>
        rw [e] at hg
        cases hg
      | some c =>
        rw [e] at hg
        cases hg
        exact .inr (.inr ⟨s, i, c, hx.str, hy.int, mill_le hl, e, q _ B H R (Same.refl _) (.sh (.str _))⟩)
    · cases hg
  · cases hg
end
section
variable {cv : Nat → Value} {X : Cx} {W : WX} {a b e : Expr} {es : List Expr} {ta tb te : TE} {ts : TA} {fa fb : M Op} {fs : M (List Op)} {f : M SV} {pos p p2 : Pos}
theorem snd_ix (ha : SndO cv X W a ta fa) (hb : SndO cv X W b tb fb) (hs : PlainIx b) : SndE cv X W (.Subscript a b pos) (tOp (rIx X.K) ta tb) (vOp2 gIx fa fb) := ⟨pe_ix ix_seq ha.pe hb.pe hs, adm_op2 ok_ix ha hb⟩

/-! ### slices -/
def pNo : M (Option Int) := ret none
def pIn (f : M SV) : M (Option Int) := bnd f fun sv ρ => match sv with
  | .sh (.int i) => some (.ok (some i) ρ)
  | _ => none
def cutD {α : Type} (xs : List α) (lo hi : Option Int) : List α := (xs.drop (HT.sIx xs.length 0 lo)).take (HT.sIx xs.length xs.length hi - HT.sIx xs.length 0 lo)
def gSl (x : D) (lo hi : Option Int) : Option SV := match x with
  | .lst l => some (.fr (cutD l lo hi))
  | .tup l => if HT.sIx l.length 0 lo = 0 ∧ HT.sIx l.length l.length hi = l.length then none else some (.sh (.tup (cutD l lo hi)))
  | .str s => if s.length ≤ 1000000 then some (.sh (.str (cutS s lo hi))) else none
  | _ => none
def vSl (a : M Op) (lo hi : M (Option Int)) : M SV := bnd a fun x => bnd lo fun l => bnd hi fun h => lift1 (fun d => gSl d l h) x
theorem RepL.cut {K : PySem.W.Frag} {H : Hp} {xs : List V} {ds : List D} (r : RepL K H xs ds) (lo hi : Option Int) : RepL K H (cutV xs lo hi) (cutD ds lo hi) := by
  unfold cutV cutD
  rw [r.length]
  exact (r.drop _).take _
/-! ### built-ins -/
theorem snd_bi {id : String} {x : Str} {r : List V → Hp → VK → Prop} {g : List D → Option SV} (hc : CallR X (.builtin id) r) (ok : OkA X.K r g) (hg : Gl X x) (hm : X.mg x = none) (hv : bootBuiltins x = some (.builtin id)) (ha : SndA cv X W (e :: es) ts fs)
    (hn : x ≠ "__name__" := by decide) (hdb : (x == ("__debug__" : Str)) = false := by decide) (he : starEach (e :: es) X.env = (false, eval e X.env) :: starEach es X.env := by rfl) (hpl : (backTo pos (starEach es X.env)).any (·.1) = false := by rfl) :
    SndE cv X W (.Call (.Name x p) (e :: es) [] pos) (tCB r ts) (vBi g fs) := ⟨pe_callB hc hg hm hv ha.pa hn hdb he hpl, adm_bi ok ha⟩
theorem snd_bt {T : String} {x : Str} {r : List V → Hp → VK → Prop} {g : List D → Option SV} (hc : CallR X (.type T) r) (ok : OkA X.K r g) (hg : Gl X x) (hm : X.mg x = none) (hv : bootBuiltins x = some (.type T)) (ha : SndA cv X W (e :: es) ts fs)
    (hn : x ≠ "__name__" := by decide) (hdb : (x == ("__debug__" : Str)) = false := by decide) (he : starEach (e :: es) X.env = (false, eval e X.env) :: starEach es X.env := by rfl) (hpl : (backTo pos (starEach es X.env)).any (·.1) = false := by rfl) :
    SndE cv X W (.Call (.Name x p) (e :: es) [] pos) (tCB r ts) (vBi g fs) := ⟨pe_callTy hc hg hm hv ha.pa hn hdb he hpl, adm_bi ok ha⟩
end
def intL : List D → Option (List Int)
  | [] => some []
  | .int i :: r => (intL r).map (i :: ·)
  | _ => none
def blL : List D → Option (List Bool)
  | [] => some []
  | .bl i :: r => (blL r).map (i :: ·)
  | _ => none
theorem intL_map : ∀ {ds : List D} {ns : List Int}, intL ds = some ns → ds = ns.map D.int
  | [], _, h => by
    cases h
    rfl
  | d :: r, ns, h => by
    unfold intL at h
    split at h
    · contradiction
    · rename_i e
      cases e
      cases q : intL r with
      | none =>
        rw [q] at h
        cases h
      | some ms =>
        rw [q] at h
        cases h
        rw [intL_map q]
        rfl
    · cases h
theorem blL_map : ∀ {ds : List D} {ns : List Bool}, blL ds = some ns → ds = ns.map D.bl
  | [], _, h => by
    cases h
    rfl
  | d :: r, ns, h => by
    unfold blL at h
    split at h
    · contradiction
    · rename_i e
      cases e
      cases q : blL r with
      | none =>
        rw [q] at h
        cases h
      | some ms =>
        rw [q] at h
        cases h
        rw [blL_map q]
        rfl
    · cases h
theorem RepL.of_ints {K : PySem.W.Frag} {H : Hp} : ∀ {ns : List Int} {xs : List V}, RepL K H xs (ns.map D.int) → xs = ns.map V.int
  | [], _, .nil => rfl
  | n :: ns, _, .cons h t => by
    cases h
    rw [RepL.of_ints t]
    rfl
theorem RepL.of_bls {K : PySem.W.Frag} {H : Hp} : ∀ {ns : List Bool} {xs : List V}, RepL K H xs (ns.map D.bl) → xs = ns.map V.bl
  | [], _, .nil => rfl
  | n :: ns, _, .cons h t => by
    cases h
    rw [RepL.of_bls t]
    rfl
def gLen : List D → Option SV
  | [.lst l] => some (.sh (.int l.length))
  | [.tup l] => some (.sh (.int l.length))
  | [.scr l] => some (.sh (.int l.length))
  | [.str s] => if s.length ≤ 1000000 then some (.sh (.int s.length)) else none
  | _ => none
def gAbs : List D → Option SV
  | [.int i] => some (.sh (.int (if i < 0 then -i else i)))
  | _ => none
def gMax : List D → Option SV
  | [.int i, .int j] => some (.sh (.int (if j > i then j else i)))
  | _ => none
def gMin : List D → Option SV
  | [.int i, .int j] => some (.sh (.int (if j < i then j else i)))
  | _ => none
def gInt : List D → Option SV
  | [.int i] => some (.sh (.int i))
  | [.bl k] => some (.sh (.int (if k then 1 else 0)))
  | _ => none
def gStr : List D → Option SV
  | [.int i] => if i.natAbs.log2 < 1920 then some (.sh (.str (toString i))) else none
  | _ => none
def gAll : List D → Option SV
  | [.lst l] => (blL l).map fun bs => .sh (.bl (bs.all id))
  | _ => none
def gSum : List D → Option SV
  | [.lst l] => (intL l).map fun ns => .sh (.int ns.sum)
  | _ => none
def gListOf : List D → Option SV
  | [.lst l] => some (.fr l)
  | [.tup l] => some (.fr l)
  | [.scr l] => some (.fr (l.map .int))
  | _ => none
section
variable {K : PySem.W.Frag}
theorem OpReps.one {B H : Hp} {xs : List V} {d : D} (h : OpReps K B H xs [d]) : ∃ v, xs = [v] ∧ OpRep K B H v d := by
  cases h with
  | cons h t =>
    cases t
    exact ⟨_, rfl, h⟩
theorem OpReps.two {B H : Hp} {xs : List V} {d e : D} (h : OpReps K B H xs [d, e]) : ∃ v w, xs = [v, w] ∧ OpRep K B H v d ∧ OpRep K B H w e := by
  cases h with
  | cons h t =>
    obtain ⟨w, rfl, r⟩ := t.one
    exact ⟨_, w, rfl, h, r⟩
theorem ok_len : OkA K (fun xs H Q => ∃ x n, xs = [x] ∧ LenV K x H n ∧ Q (.int n) H) gLen := by
  intro F B H σ ρ xs ds sv Q R hx hg q
  unfold gLen at hg
  split at hg
  · cases hg
    obtain ⟨v, rfl, r⟩ := hx.one
    obtain ⟨a, ys, rfl, h1, r1⟩ := r.lst R.exB
    exact ⟨_, _, rfl, .inl ⟨ys, SqL.of h1, r1.length.symm⟩, q _ B H R (Same.refl _) (.sh (.int _))⟩
  · cases hg
    obtain ⟨v, rfl, r⟩ := hx.one
    obtain ⟨a, ys, rfl, h1, r1⟩ := r.tup R.exB
    exact ⟨_, _, rfl, .inr ⟨ys, h1, r1.length.symm⟩, q _ B H R (Same.refl _) (.sh (.int _))⟩
  · cases hg
    obtain ⟨v, rfl, r⟩ := hx.one
    obtain ⟨a, rfl, h1⟩ := r.scr R.exB
    exact ⟨_, _, rfl, .inl ⟨_, h1, by rw [List.length_map]⟩, q _ B H R (Same.refl _) (.sh (.int _))⟩
  · split at hg
    · rename_i hl
      cases hg
      obtain ⟨v, rfl, r⟩ := hx.one
      cases r.str
      exact ⟨_, _, rfl, ⟨mill_le hl, rfl⟩, q _ B H R (Same.refl _) (.sh (.int _))⟩
    · cases hg
  · cases hg
theorem ok_int : OkA K (fun xs H Q => (∃ i, xs = [.int i] ∧ Q (.int i) H) ∨ ∃ k, xs = [.bl k] ∧ Q (.int (if k then 1 else 0)) H) gInt := by
  intro F B H σ ρ xs ds sv Q R hx hg q
  unfold gInt at hg
  split at hg
  · cases hg
    obtain ⟨v, rfl, r⟩ := hx.one
    cases r.int
    exact .inl ⟨_, rfl, q _ B H R (Same.refl _) (.sh (.int _))⟩
  · cases hg
    obtain ⟨v, rfl, r⟩ := hx.one
    cases r.bl
    exact .inr ⟨_, rfl, q _ B H R (Same.refl _) (.sh (.int _))⟩
  · cases hg
theorem ok_all : OkA K (rAll K) gAll := by
  intro F B H σ ρ xs ds sv Q R hx hg q
  unfold gAll at hg
  split at hg
  · rename_i l
    cases e : blL l with
    | none =>
      rw [e] at hg
      cases hg
    | some bs =>
      rw [e] at hg
      cases hg
      obtain ⟨v, rfl, r⟩ := hx.one
      obtain ⟨a, ys, rfl, h1, r1⟩ := r.lst R.exB
      rw [blL_map e] at r1
      rw [r1.of_bls] at h1
      exact ⟨a, bs, rfl, SqL.of h1, q _ B H R (Same.refl _) (.sh (.bl _))⟩
  · cases hg
theorem ok_sum : OkA K (rSum K) gSum := by
  intro F B H σ ρ xs ds sv Q R hx hg q
  unfold gSum at hg
  split at hg
  · rename_i l
    cases e : intL l with
    | none =>
      rw [e] at hg
      cases hg
    | some bs =>
      rw [e] at hg
      cases hg
      obtain ⟨v, rfl, r⟩ := hx.one
      obtain ⟨a, ys, rfl, h1, r1⟩ := r.lst R.exB
      rw [intL_map e] at r1
      rw [r1.of_ints] at h1
      exact ⟨a, bs, rfl, SqL.of h1, q _ B H R (Same.refl _) (.sh (.int _))⟩
  · cases hg
theorem ok_listOf : OkA K (fun xs H Q => ∃ p ys, xs = [.ref p] ∧ (SqL K H p ys ∨ SqT K H p ys) ∧ ∀ l, H l = none → Q (.ref l) (upd H l (.lst ys))) gListOf := by
  intro F B H σ ρ xs ds sv Q R hx hg q
  unfold gListOf at hg
  split at hg
  · cases hg
    obtain ⟨v, rfl, r⟩ := hx.one
    obtain ⟨a, ys, rfl, h1, r1⟩ := r.lst R.exB
    exact ⟨a, ys, rfl, .inl (SqL.of h1), fun p hp => q _ _ _ (R.new hp) (Same.refl _) (RV.newL R hp r1)⟩
  · cases hg
    obtain ⟨v, rfl, r⟩ := hx.one
    obtain ⟨a, ys, rfl, h1, r1⟩ := r.tup R.exB
    exact ⟨a, ys, rfl, .inr h1, fun p hp => q _ _ _ (R.new hp) (Same.refl _) (RV.newL R hp r1)⟩
  · cases hg
    obtain ⟨v, rfl, r⟩ := hx.one
    obtain ⟨a, rfl, h1⟩ := r.scr R.exB
    exact ⟨a, _, rfl, .inl h1, fun p hp => q _ _ _ (R.new hp) (Same.refl _) (RV.newL R hp (RepL.ints _))⟩
  · cases hg
end

/-! ### isinstance of built-in classes -/
def tyN : D → String
  | .non => "NoneType"
  | .bl _ => "bool"
  | .int _ => "int"
  | .str _ => "str"
  | .tup _ => "tuple"
  | .lst _ => "list"
  | .scr _ => "list"
  | .dct _ _ => "NoneType"
  | .dck _ _ => "NoneType"
  | .ob _ _ _ => "NoneType"
  | .adr _ => "NoneType"
  | .fn _ _ _ => "NoneType"
  | .lv _ => "NoneType"
def exo : D → Bool
  | .dct _ _ => true
  | .dck _ _ => true
  | .ob _ _ _ => true
  | .adr _ => true
  | .fn _ _ _ => true
  | .lv _ => true
  | _ => false
theorem OpRep.ty {K : PySem.W.Frag} {B H : Hp} {v : V} {d : D} (e : Same B H) (hx : exo d = false) (h : OpRep K B H v d) : TyX K H v (.type (tyN d)) := by
  have r := h.rep e
  cases r with
  | non => exact .base .non
  | bl b => exact .base (.bl b)
  | int i => exact .base (.int i)
  | str s => exact .base (.str s)
  | tup g _ =>
    rcases g with g | ⟨_, o, its, n, g, hc, _⟩
    · exact .base (.tup g)
    · exact .kTuple g hc
  | lst g _ => exact .base (.lst g)
  | scr g =>
    rcases g with (g | ⟨o, g⟩) | ⟨o, its, n, g, hc, _⟩
    · exact .base (.lst g)
    · exact .base (.frz g)
    · exact .kList g hc
  | dct _ _ _ => cases hx
  | dck _ _ _ => cases hx
  | ob _ _ _ _ => cases hx
  | adr _ => cases hx
  | fn _ => cases hx
  | lv _ => cases hx
def isInt : D → Bool
  | .int _ => true
  | .bl _ => true
  | _ => false
def isBl : D → Bool
  | .bl _ => true
  | _ => false
def isTup : D → Bool
  | .tup _ => true
  | _ => false
def isLst : D → Bool
  | .lst _ => true
  | .scr _ => true
  | _ => false
theorem kb_int_NoneType : kitB "NoneType" "int" = some false := by decide +kernel
theorem kb_int_bool : kitB "bool" "int" = some true := by decide +kernel
theorem kb_int_int : kitB "int" "int" = some true := by decide +kernel
theorem kb_int_str : kitB "str" "int" = some false := by decide +kernel
theorem kb_int_tuple : kitB "tuple" "int" = some false := by decide +kernel
theorem kb_int_list : kitB "list" "int" = some false := by decide +kernel
theorem kit_int (d : D) : kitB (tyN d) "int" = some (isInt d) := match d with
  | .non => kb_int_NoneType
  | .bl _ => kb_int_bool
  | .int _ => kb_int_int
  | .str _ => kb_int_str
  | .tup _ => kb_int_tuple
  | .lst _ => kb_int_list
  | .scr _ => kb_int_list
  | .dct _ _ => kb_int_NoneType
  | .dck _ _ => kb_int_NoneType
  | .ob _ _ _ => kb_int_NoneType
  | .adr _ => kb_int_NoneType
  | .fn _ _ _ => kb_int_NoneType
  | .lv _ => kb_int_NoneType
theorem kb_bl_NoneType : kitB "NoneType" "bool" = some false := by decide +kernel
theorem kb_bl_bool : kitB "bool" "bool" = some true := by decide +kernel
theorem kb_bl_int : kitB "int" "bool" = some false := by decide +kernel
theorem kb_bl_str : kitB "str" "bool" = some false := by decide +kernel
theorem kb_bl_tuple : kitB "tuple" "bool" = some false := by decide +kernel
theorem kb_bl_list : kitB "list" "bool" = some false := by decide +kernel
theorem kit_bl (d : D) : kitB (tyN d) "bool" = some (isBl d) := match d with
  | .non => kb_bl_NoneType
  | .bl _ => kb_bl_bool
  | .int _ => kb_bl_int
  | .str _ => kb_bl_str
  | .tup _ => kb_bl_tuple
  | .lst _ => kb_bl_list
  | .scr _ => kb_bl_list
  | .dct _ _ => kb_bl_NoneType
  | .dck _ _ => kb_bl_NoneType
  | .ob _ _ _ => kb_bl_NoneType
  | .adr _ => kb_bl_NoneType
  | .fn _ _ _ => kb_bl_NoneType
  | .lv _ => kb_bl_NoneType
theorem kb_lst_NoneType : kitB "NoneType" "list" = some false := by decide +kernel
theorem kb_lst_bool : kitB "bool" "list" = some false := by decide +kernel
theorem kb_lst_int : kitB "int" "list" = some false := by decide +kernel
theorem kb_lst_str : kitB "str" "list" = some false := by decide +kernel
theorem kb_lst_tuple : kitB "tuple" "list" = some false := by decide +kernel
theorem kb_lst_list : kitB "list" "list" = some true := by decide +kernel
theorem kit_lst (d : D) : kitB (tyN d) "list" = some (isLst d) := match d with
  | .non => kb_lst_NoneType
  | .bl _ => kb_lst_bool
  | .int _ => kb_lst_int
  | .str _ => kb_lst_str
  | .tup _ => kb_lst_tuple
  | .lst _ => kb_lst_list
  | .scr _ => kb_lst_list
  | .dct _ _ => kb_lst_NoneType
  | .dck _ _ => kb_lst_NoneType
  | .ob _ _ _ => kb_lst_NoneType
  | .adr _ => kb_lst_NoneType
  | .fn _ _ _ => kb_lst_NoneType
  | .lv _ => kb_lst_NoneType
def gIs (p : D → Bool) (d : D) : Option SV := if exo d = true then none else some (.sh (.bl (p d)))
def vIs (p : D → Bool) (a : M Op) : M SV := vOp1 (gIs p) a
section
variable {cv : Nat → Value} {X : Cx} {W : WX} {a : Expr} {ta : TE} {fa : M Op} {pos pp pt : Pos}
theorem snd_is {T : String} {x : Str} {p : D → Bool} (kt : ∀ d, kitB (tyN d) T = some (p d)) (hgi : Gl X "isinstance") (hmi : X.mg "isinstance" = none) (hg : Gl X x) (hm : X.mg x = none) (hv : bootBuiltins x = some (.type T)) (ha : SndO cv X W a ta fa)
    (hn : x ≠ "__name__" := by decide) (hd : (x == ("__debug__" : Str)) = false := by decide)
    (he : starEach [a, .Name x pt] X.env = (false, eval a X.env) :: starEach [.Name x pt] X.env := by rfl) (he1 : starEach [.Name x pt] X.env = (false, eval (.Name x pt) X.env) :: starEach [] X.env := by rfl)
    (hpl : (backTo pos (starEach [.Name x pt] X.env)).any (·.1) = false := by rfl) :
    SndE cv X W (.Call (.Name "isinstance" pp) [a, .Name x pt] [] pos) (tCB (rIsi X.K) (tCons ta (tCons (tC (.ty T)) tNil))) (vIs p fa) := by
  refine ⟨pe_callB call_isi hgi hmi boot_isinstance (pa_cons ha.pe (pa_cons (pe_bltn hg hm hv rfl hn hd) pa_nil he1) he) (by decide) (by decide) he hpl, fun F B H σ ρ Q R q => ?_⟩
  refine ha.ad F B H σ ρ _ R (wpm_mono (wpm_bnd q) (fun o ρ1 q v B1 H1 R1 sm1 ov => ?_) fun _ _ q => q)
  unfold wpm lift1 at q
  cases e1 : get ρ1 o with
  | none =>
    rw [e1] at q
    exact q.elim
  | some d =>
    rw [e1] at q
    by_cases hx : exo d = true
    · have e2 : gIs p d = none := if_pos hx
      simp only [e1, e2] at q
      exact q.elim
    · have e2 : gIs p d = some (.sh (.bl (p d))) := if_neg hx
      simp only [e1, e2] at q
      exact ⟨v, .ty T, _, _, p d, rfl, .ty T, (ov.rep R1 e1).ty R1.exB (by simpa using hx), kit_ty (kt d), q _ B1 H1 R1 sm1 (.sh (.bl _))⟩
end
end Sim

namespace Sim
open PySem PySem.Spec PyProof.Rows L2

/-! ### calls of the text's own defs -/
inductive CR where
  | ret (r : SV) (out : List D)
  | exc (c : Nat) (out : List D)
structure CallIn (K : PySem.W.Frag) (F B H : Hp) (io : Option Nat) (vs : List V) (ds : List D) (oa : Option Addr) : Prop where
  len : vs.length = ds.length
  sh : ∀ i v d, vs[i]? = some v → ds[i]? = some d → io ≠ some i → Rep K B v d
  inn : ∀ i, io = some i → ∃ a xs l, vs[i]? = some (.ref a) ∧ ds[i]? = some (.lst l) ∧ oa = some a ∧ F a = none ∧ B a = none ∧ H a = some (.lst xs) ∧ RepL K B xs l
  no : io = none → oa = none
def CallOut (K : PySem.W.Frag) (B H : Hp) (oa : Option Addr) (out : List D) : Prop := ∀ a, oa = some a → B a = none ∧ ∃ xs, H a = some (.lst xs) ∧ RepL K B xs out
inductive CallRet (K : PySem.W.Frag) (F B H : Hp) (oa : Option Addr) : V → SV → Prop
  | sh {v : V} {d : D} (r : Rep K B v d) : CallRet K F B H oa v (.sh d)
  | fr {a : Addr} {o : HO} {xs : List V} {c : OC} (hF : F a = none) (hB : B a = none) (hH : H a = some o) (hO : c.At K o xs) (r : RepL K B xs c.ds) (no : oa ≠ some a) : CallRet K F B H oa (.ref a) (.ow c)
def SpOut (cv : Nat → Value) (K : PySem.W.Frag) (F B H : Hp) (oa : Option Addr) (Q : VK) (E : XK) : CR → Prop
  | .ret r out => ∀ v B' H', Same B B' → Same B' H' → Same F H' → DisT F B' H' → CallOut K B' H' oa out → CallRet K F B' H' oa v r → Q v H'
  | .exc c out => ∀ B' H', Same B B' → Same B' H' → Same F H' → DisT F B' H' → CallOut K B' H' oa out → E (cv c) none H'
/-- the promise: what Φ tells of the arguments' data -/
def spI (cv : Nat → Value) (K : PySem.W.Frag) (n : Nat) (io : Option Nat) (Φ : List D → Option CR) : Sp := fun vs H Q E => vs.length = n ∧
  ∃ (ds : List D) (res : CR) (F B : Hp) (oa : Option Addr), Φ ds = some res ∧ Same B H ∧ Same F H ∧ DisT F B H ∧ CallIn K F B H io vs ds oa ∧ SpOut cv K F B H oa Q E res

def decO : Option Nat → Option Nat
  | some (k + 1) => some k
  | _ => none
def brs : Option Nat → List Op → List Nat
  | _, [] => []
  | io, .val _ :: os => brs (decO io) os
  | some 0, .slot _ :: os => brs none os
  | some (k + 1), .slot i :: os => i :: brs (some k) os
  | none, .slot i :: os => i :: brs none os
def ioSlot : Option Nat → List Op → Option Nat
  | some 0, .slot i :: _ => some i
  | some (k + 1), _ :: os => ioSlot (some k) os
  | _, _ => none
def isFr (ρ : Sl) (i : Nat) : Bool := match ρ[i]? with
  | some (some (.ow (.lst _))) => true
  | _ => false
def isOw (ρ : Sl) (i : Nat) : Bool := match ρ[i]? with
  | some (some (.ow _)) => true
  | _ => false
def resT : CR → Bool
  | .ret (.sh d) out => isT d && isTL out
  | .ret (.ow c) out => isTL c.ds && isTL out
  | .exc _ out => isTL out
def resL : CR → Bool
  | .ret (.sh d) out => isL d && isLL out
  | .ret (.ow c) out => isLL c.ds && isLL out
  | .exc _ out => isLL out
def ioOk (io : Option Nat) (os : List Op) (ρ : Sl) : Bool := match io with
  | none => true
  | some _ => match ioSlot io os with
    | some i => isFr ρ i && !(brs io os).contains i
    | none => false
def noBr (io : Option Nat) (os : List Op) (ρ : Sl) : Bool := (brs io os).all fun j => !isOw ρ j
def noBrL (io : Option Nat) (os : List Op) (ρ : Sl) : Bool := (brs io os).all fun j => !isFr ρ j
def resOk (io : Option Nat) (os : List Op) (ρ : Sl) (res : CR) : Bool := resT res || (noBrL io os ρ && resL res)
def putO (io : Option Nat) (os : List Op) (out : List D) (ρ : Sl) : Sl := match ioSlot io os with
  | some i => ρ.set i (some (.fr out))
  | none => ρ
def outOf (io : Option Nat) (os : List Op) (ρ : Sl) : CR → Out SV
  | .ret r out => .ok r (putO io os out ρ)
  | .exc c out => .ex c (putO io os out ρ)
def callM (io : Option Nat) (Φ : List D → Option CR) (os : List Op) : M SV := fun ρ => match gets ρ os with
  | none => none
  | some ds => match Φ ds with
    | none => none
    | some res => if (ioOk io os ρ && (noBr io os ρ || resOk io os ρ res)) = true then some (outOf io os ρ res) else none

theorem isFr_owns {K : PySem.W.Frag} {F B H : Hp} {σ : L2.St} {ρ : Sl} (R : Rel K F B H σ ρ) {i : Nat} (h : isFr ρ i = true) : ∃ a, Owns σ ρ i a := by
  unfold isFr at h
  split at h
  · rename_i l e
    obtain ⟨a, hs, _⟩ := R.move e
    exact ⟨a, ⟨_, e⟩, hs⟩
  · cases h
theorem owns_isOw {σ : L2.St} {ρ : Sl} {i : Nat} {a : Addr} (h : Owns σ ρ i a) : isOw ρ i = true := by
  obtain ⟨⟨ds, e⟩, _⟩ := h
  unfold isOw
  rw [e]
theorem OC.not_tup {K : PySem.W.Frag} {ys xs : List V} : ∀ {c : OC}, c.At K (.tup ys) xs → False
  | .lst _, h => by
    have h : HO.tup ys = .lst xs := h
    cases h
  | .dk _ _, h => by
    obtain ⟨h, _⟩ := h
    cases h
  | .dt _ _, h => by
    obtain ⟨h, _⟩ := h
    cases h
  | .ob _ _ _, h => by
    obtain ⟨_, _, _, h, _⟩ := h
    cases h
theorem OC.is_lst {K : PySem.W.Frag} {ys xs : List V} : ∀ {c : OC}, c.At K (.lst ys) xs → ∃ l, c = .lst l
  | .lst l, _ => ⟨l, rfl⟩
  | .dk _ _, h => by
    obtain ⟨h, _⟩ := h
    cases h
  | .dt _ _, h => by
    obtain ⟨h, _⟩ := h
    cases h
  | .ob _ _ _, h => by
    obtain ⟨_, _, _, h, _⟩ := h
    cases h
theorem gets_at {ρ : Sl} : ∀ {os : List Op} {ds : List D} {i : Nat} {d : D}, gets ρ os = some ds → ds[i]? = some d → ∃ o, os[i]? = some o ∧ get ρ o = some d
  | [], ds, i, d, h, e => by
    cases h
    simp at e
  | o :: os, ds, i, d, h, e => by
    unfold gets at h
    cases e1 : get ρ o with
    | none =>
      rw [e1] at h
      cases h
    | some x =>
      cases e2 : gets ρ os with
      | none =>
        rw [e1, e2] at h
        cases h
      | some xs =>
        rw [e1, e2] at h
        cases h
        cases i with
        | zero =>
          cases e
          exact ⟨o, rfl, e1⟩
        | succ i => exact gets_at (os := os) e2 e
theorem gets_len {ρ : Sl} : ∀ {os : List Op} {ds : List D}, gets ρ os = some ds → ds.length = os.length
  | [], ds, h => by
    cases h
    rfl
  | o :: os, ds, h => by
    unfold gets at h
    cases e1 : get ρ o with
    | none =>
      rw [e1] at h
      cases h
    | some x =>
      cases e2 : gets ρ os with
      | none =>
        rw [e1, e2] at h
        cases h
      | some xs =>
        rw [e1, e2] at h
        cases h
        rw [List.length_cons, List.length_cons, gets_len e2]
theorem OpVs.length {K : PySem.W.Frag} {B : Hp} {σ : L2.St} : ∀ {vs : List V} {os : List Op}, OpVs K B σ vs os → vs.length = os.length
  | _, _, .nil => rfl
  | _, _, .cons _ t => by rw [List.length_cons, List.length_cons, OpVs.length t]
theorem OpVs.at {K : PySem.W.Frag} {B : Hp} {σ : L2.St} : ∀ {vs : List V} {os : List Op} {i : Nat} {o : Op}, OpVs K B σ vs os → os[i]? = some o → ∃ v, vs[i]? = some v ∧ OpV K B σ v o
  | _, _, _, _, .nil, h => by simp at h
  | _, _, 0, _, .cons r _, h => by simp at h; subst h; exact ⟨_, rfl, r⟩
  | _, _, i + 1, d, .cons _ t, h => by
    obtain ⟨v, h1, h2⟩ := OpVs.at (i := i) t (by simpa using h)
    exact ⟨v, by simpa using h1, h2⟩
theorem brs_mem : ∀ {io : Option Nat} {os : List Op} {k i : Nat}, os[k]? = some (.slot i) → io ≠ some k → i ∈ brs io os
  | _, [], _, _, h, _ => by simp at h
  | io, .val d :: os, 0, i, h, _ => by simp at h
  | io, .val d :: os, k + 1, i, h, n => by
    unfold brs
    refine brs_mem (k := k) (by simpa using h) fun e => n ?_
    cases io with
    | none => cases e
    | some j =>
      cases j with
      | zero => cases e
      | succ j =>
        cases e
        rfl
  | some 0, .slot j :: os, 0, i, h, n => (n rfl).elim
  | some 0, .slot j :: os, k + 1, i, h, n => by
    unfold brs
    exact brs_mem (k := k) (by simpa using h) (by simp)
  | some (m + 1), .slot j :: os, 0, i, h, n => by
    unfold brs
    simp at h
    subst h
    exact List.mem_cons_self
  | some (m + 1), .slot j :: os, k + 1, i, h, n => by
    unfold brs
    exact List.mem_cons_of_mem _ (brs_mem (k := k) (by simpa using h) fun e => n (by cases e; rfl))
  | none, .slot j :: os, 0, i, h, n => by
    unfold brs
    simp at h
    subst h
    exact List.mem_cons_self
  | none, .slot j :: os, k + 1, i, h, n => by
    unfold brs
    exact List.mem_cons_of_mem _ (brs_mem (k := k) (by simpa using h) (by simp))
theorem ioSlot_at : ∀ {io : Option Nat} {os : List Op} {i k : Nat}, ioSlot io os = some i → io = some k → os[k]? = some (.slot i)
  | _, .val _ :: _, i, 0, h, e => by
    subst e
    unfold ioSlot at h
    cases h
  | _, .slot j :: _, i, 0, h, e => by
    subst e
    unfold ioSlot at h
    cases h
    rfl
  | _, o :: os, i, k + 1, h, e => by
    subst e
    unfold ioSlot at h
    exact ioSlot_at (k := k) h rfl
  | _, [], i, 0, h, e => by
    subst e
    unfold ioSlot at h
    cases h
  | _, [], i, k + 1, h, e => by
    subst e
    unfold ioSlot at h
    cases h
open Classical in
theorem adm_callM {cv : Nat → Value} {K : PySem.W.Frag} {n : Nat} {io : Option Nat} {Φ : List D → Option CR} {F B H : Hp} {σ : L2.St} {ρ : Sl} {vs : List V} {os : List Op} {Q : VK} {E : XK} (R : Rel K F B H σ ρ) (ov : OpVs K B σ vs os) (hn : os.length = n)
    (q : wpm (callM io Φ os) ρ (fun a ρ' => ∀ v B' H', Rel K F B' H' σ ρ' → Same B B' → RV K F B' H' σ ρ' v a → Q v H') (fun c ρ' => ∀ B' H', Rel K F B' H' σ ρ' → Same B B' → E (cv c) none H')) : spI cv K n io Φ vs H Q E := by
  unfold wpm callM at q
  cases e1 : gets ρ os with
  | none =>
    rw [e1] at q
    exact q.elim
  | some ds =>
    simp only [e1] at q
    cases e2 : Φ ds with
    | none =>
      simp only [e2] at q
    | some res =>
      simp only [e2] at q
      by_cases hc : (ioOk io os ρ && (noBr io os ρ || resOk io os ρ res)) = true
      · rw [if_pos hc] at q
        rw [Bool.and_eq_true] at hc
        obtain ⟨hio, hbr⟩ := hc
        obtain ⟨BJ, hBJ⟩ : ∃ BJ : Addr → Prop, BJ = fun a => ∃ j, j ∈ brs io os ∧ Owns σ ρ j a := ⟨_, rfl⟩
        obtain ⟨OJ, hOJ⟩ : ∃ OJ : Addr → Prop, OJ = fun a => ∃ j, j ∉ brs io os ∧ ioSlot io os ≠ some j ∧ Owns σ ρ j a := ⟨_, rfl⟩
        obtain ⟨B1, hB1⟩ : ∃ B1 : Hp, B1 = fun a => if BJ a then H a else B a := ⟨_, rfl⟩
        obtain ⟨F1, hF1⟩ : ∃ F1 : Hp, F1 = fun a => if OJ a then H a else F a := ⟨_, rfl⟩
        have B1y : ∀ {a}, BJ a → B1 a = H a := fun {a} h => by rw [hB1]; exact if_pos h
        have B1n : ∀ {a}, ¬ BJ a → B1 a = B a := fun {a} h => by rw [hB1]; exact if_neg h
        have F1y : ∀ {a}, OJ a → F1 a = H a := fun {a} h => by rw [hF1]; exact if_pos h
        have F1n : ∀ {a}, ¬ OJ a → F1 a = F a := fun {a} h => by rw [hF1]; exact if_neg h
        have bj : ∀ {a}, BJ a → ∃ j ho c, j ∈ brs io os ∧ Owns σ ρ j a ∧ F a = none ∧ B a = none ∧ H a = some ho ∧ (∃ xs, c.At K ho xs) ∧ ρ[j]? = some (some (.ow c)) := fun {a} h => by
          rw [hBJ] at h
          obtain ⟨j, hj, o⟩ := h
          obtain ⟨ho, xs, l, h1, h2, h3, h4, h5, h6⟩ := o.at R
          exact ⟨j, ho, l, hj, o, h2, h3, h4, ⟨xs, h5⟩, h1⟩
        have oj : ∀ {a}, OJ a → ∃ j ho, j ∉ brs io os ∧ ioSlot io os ≠ some j ∧ Owns σ ρ j a ∧ F a = none ∧ B a = none ∧ H a = some ho := fun {a} h => by
          rw [hOJ] at h
          obtain ⟨j, hj, hi, o⟩ := h
          obtain ⟨ho, xs, l, h1, h2, h3, h4, h5⟩ := o.at R
          exact ⟨j, ho, hj, hi, o, h2, h3, h4⟩
        have sB : Same B B1 := fun a o e => by
          rw [B1n fun z => ?_]
          · exact e
          · obtain ⟨_, _, _, _, _, _, z2, _⟩ := bj z
            rw [e] at z2
            cases z2
        have sBH : Same B1 H := fun a o e => by
          by_cases z : BJ a
          · rw [B1y z] at e
            exact e
          · rw [B1n z] at e
            exact R.exB _ _ e
        have sFH : Same F1 H := fun a o e => by
          by_cases z : OJ a
          · rw [F1y z] at e
            exact e
          · rw [F1n z] at e
            exact R.exF _ _ e
        have sF : Same F F1 := fun a o e => by
          rw [F1n fun z => ?_]
          · exact e
          · obtain ⟨_, _, _, _, _, z1, _⟩ := oj z
            rw [e] at z1
            cases z1
        have dis1 : ∀ a o, F1 a = some o → B1 a = none := fun a o e => by
          by_cases z : OJ a
          · obtain ⟨j, xs, n1, n2, o1, z1, z2, z3⟩ := oj z
            rw [B1n fun y => ?_]
            · exact z2
            · obtain ⟨j', _, _, m, o2, _⟩ := bj y
              have := R.sep _ _ _ o1 o2
              subst this
              exact n1 m
          · rw [F1n z] at e
            rw [B1n fun y => ?_]
            · exact R.dis _ _ e
            · obtain ⟨_, _, _, _, _, z1, _⟩ := bj y
              rw [e] at z1
              cases z1
        have plO : ∀ {j a o}, Owns σ ρ j a → H a = some o → PlainO o := fun {j a o} w e => by
          obtain ⟨_, _, _, _, _, _, h4, h5, _⟩ := w.at R
          rw [e] at h4
          cases h4
          exact plain_at h5
        have tb1 : TbOk F1 B1 H := R.tb.both (fun p hp => by
          rw [B1n fun z => ?_]
          · exact R.tb.nB p hp
          · obtain ⟨_, _, _, _, o2, _, _, h4, _⟩ := bj z
            exact R.tb.ne h4 (plO o2 h4).1 hp rfl) fun p hp => by
          rw [F1n fun z => ?_]
          · exact R.tb.nF p hp
          · obtain ⟨_, _, _, _, o2, _, _, h4⟩ := oj z
            exact R.tb.ne h4 (plO o2 h4).1 hp rfl
        -- the slot that is handed in to be changed
        have hS : ∀ k, io = some k → ∃ i a xs l, ioSlot io os = some i ∧ os[k]? = some (.slot i) ∧ Owns σ ρ i a ∧ i ∉ brs io os ∧ σ[i]? = some (some (.ref a)) ∧ ρ[i]? = some (some (.fr l)) ∧ F a = none ∧ B a = none ∧ H a = some (.lst xs) ∧ RepL K B xs l := fun k hk => by
          unfold ioOk at hio
          rw [hk] at hio
          cases e3 : ioSlot (some k) os with
          | none =>
            rw [e3] at hio
            cases hio
          | some i =>
            simp only [e3] at hio
            rw [Bool.and_eq_true] at hio
            obtain ⟨a, o⟩ := isFr_owns R hio.1
            obtain ⟨ho, xs, c, h1, h2, h3, h4, hO, h5⟩ := o.at R
            have hf := hio.1
            unfold isFr at hf
            rw [h1] at hf
            obtain ⟨l, hcl⟩ : ∃ l, c = .lst l := by
              cases c with
              | lst l => exact ⟨l, rfl⟩
              | dk _ _ => cases hf
              | dt _ _ => cases hf
              | ob _ _ _ => cases hf
            subst hcl
            have hO : ho = .lst xs := hO
            subst hO
            have nb : i ∉ brs io os := fun m => by
              have z := hio.2
              rw [← hk, List.elem_eq_contains.symm] at z
              simp only [Bool.not_eq_true', List.elem_eq_mem, decide_eq_false_iff_not] at z
              exact z m
            exact ⟨i, a, xs, l, hk ▸ e3, ioSlot_at e3 rfl, o, nb, o.2, h1, h2, h3, h4, h5⟩
        have hS0 : io = none → ioSlot io os = none := fun h => by
          rw [h]
          unfold ioSlot
          cases os <;> rfl
        obtain ⟨oa, hoa, hoa0⟩ : ∃ oa : Option Addr, (∀ i a, ioSlot io os = some i → Owns σ ρ i a → oa = some a) ∧ (∀ a, oa = some a → ∃ i, ioSlot io os = some i ∧ Owns σ ρ i a) := by
          cases h : io with
          | none =>
            refine ⟨none, fun i a e => ?_, fun a e => by cases e⟩
            rw [← h, hS0 h] at e
            cases e
          | some k =>
            obtain ⟨i, a, xs, l, h1, _, o, _, h2, _⟩ := hS k h
            refine ⟨some a, fun i' a' e o' => ?_, fun a' e => ?_⟩
            · rw [← h, h1] at e
              cases e
              have := o'.2
              rw [h2] at this
              cases this
              rfl
            · cases e
              exact ⟨i, h ▸ h1, o⟩
        have oaN : ∀ {a}, oa = some a → ¬ BJ a ∧ ¬ OJ a ∧ F a = none ∧ B a = none := fun {a} e => by
          obtain ⟨i, h1, o⟩ := hoa0 a e
          obtain ⟨_, xs, l, h2, h3, h4, h5, h6⟩ := o.at R
          refine ⟨fun z => ?_, fun z => ?_, h3, h4⟩
          · obtain ⟨j, _, _, m, o2, _⟩ := bj z
            have := R.sep _ _ _ o o2
            subst this
            cases h : io with
            | none =>
              rw [hS0 h] at h1
              cases h1
            | some k =>
              obtain ⟨i', _, _, _, g1, _, _, g2, _⟩ := hS k h
              rw [h1] at g1
              cases g1
              exact g2 m
          · obtain ⟨j, _, _, n2, o2, _⟩ := oj z
            have := R.sep _ _ _ o o2
            subst this
            exact n2 h1
        have inn : CallIn K F1 B1 H io vs ds oa := by
          refine ⟨by rw [ov.length, gets_len e1], fun i v d hv hd hne => ?_, fun k hk => ?_, fun h => ?_⟩
          · obtain ⟨o, ho, hg⟩ := gets_at e1 hd
            obtain ⟨v', hv', ovv⟩ := ov.at ho
            rw [hv] at hv'
            cases hv'
            cases ovv with
            | val r =>
              cases hg
              exact r.mono sB _ _
            | @slot i' hs =>
              have hg : slotD ρ i' = some d := hg
              unfold slotD at hg
              split at hg
              · rename_i sv e3
                cases hg
                have s := R.slot i' sv e3
                rw [hs] at s
                cases s with
                | sh r => exact r.mono sB _ _
                | @fr a o xs l hF hB hH hO r =>
                  have z : BJ a := by
                    rw [hBJ]
                    exact ⟨i', brs_mem ho hne, ⟨l, e3⟩, hs⟩
                  exact OC.rep ((B1y z).trans hH) hO (r.mono sB _ _)
              · cases hg
          · obtain ⟨i, a, xs, l, h1, h2, o, nb, h3, h4, h5, h6, h7, h8⟩ := hS k hk
            obtain ⟨v, hv, ovv⟩ := ov.at h2
            have hvv : v = .ref a := by
              cases ovv with
              | slot hs =>
                rw [h3] at hs
                cases hs
                rfl
            subst hvv
            have eo := hoa i a h1 o
            obtain ⟨n1, n2, _, _⟩ := oaN eo
            refine ⟨a, xs, l, hv, ?_, eo, (F1n n2).trans h5, (B1n n1).trans h6, h7, h8.mono sB _ _⟩
            obtain ⟨hlt, _⟩ := List.getElem?_eq_some_iff.mp h2
            have hlt' : k < ds.length := by
              rw [gets_len e1]
              exact hlt
            obtain ⟨o', ho', hg⟩ := gets_at e1 (List.getElem?_eq_getElem hlt')
            rw [h2] at ho'
            cases ho'
            have hg : slotD ρ i = some ds[k] := hg
            unfold slotD at hg
            rw [h4] at hg
            rw [List.getElem?_eq_getElem hlt']
            exact hg.symm
          · cases h9 : oa with
            | none => rfl
            | some a =>
              obtain ⟨i, h1, _⟩ := hoa0 a h9
              rw [hS0 h] at h1
              cases h1
        -- behind the call
        have back : ∀ (out : List D) (B' H' : Hp), Same B1 B' → Same B' H' → Same F1 H' → DisT F1 B' H' → CallOut K B' H' oa out → (noBr io os ρ = true ∨ isTL out = true ∨ (noBrL io os ρ = true ∧ isLL out = true)) →
            ∃ B2, Rel K F B2 H' σ (putO io os out ρ) ∧ Same B B2 ∧ (∀ a, B2 a = if BJ a then none else B' a) := fun out B' H' s1 s2 s3 s4 co hT => by
          obtain ⟨B2, hB2⟩ : ∃ B2 : Hp, B2 = fun a => if BJ a then none else B' a := ⟨_, rfl⟩
          have B2y : ∀ {a}, BJ a → B2 a = none := fun {a} h => by rw [hB2]; exact if_pos h
          have B2n : ∀ {a}, ¬ BJ a → B2 a = B' a := fun {a} h => by rw [hB2]; exact if_neg h
          have sB2 : Same B B2 := fun a o e => by
            have e' := s1 _ _ (sB _ _ e)
            rw [B2n fun z => ?_]
            · exact e'
            · obtain ⟨_, _, _, _, _, _, z2, _⟩ := bj z
              rw [e] at z2
              cases z2
          have s22 : Same B2 H' := fun a o e => by
            by_cases z : BJ a
            · rw [B2y z] at e
              cases e
            · rw [B2n z] at e
              exact s2 _ _ e
          have dis2 : ∀ a o, F a = some o → B2 a = none := fun a o e => by
            have e' := s4.1 _ _ (sF _ _ e)
            by_cases z : BJ a
            · exact B2y z
            · rw [B2n z]
              exact e'
          have core : ∀ (ρ0 : Sl), ρ0.length = ρ.length → (∀ j sv, ρ0[j]? = some (some sv) → ρ[j]? = some (some sv) ∧ ioSlot io os ≠ some j) → Rel K F B2 H' σ ρ0 := fun ρ0 hl hsub => by
            have ow : ∀ {j a}, Owns σ ρ0 j a → Owns σ ρ j a ∧ ioSlot io os ≠ some j := fun {j a} ⟨⟨l, g1⟩, g2⟩ => by
              obtain ⟨g3, g4⟩ := hsub _ _ g1
              exact ⟨⟨⟨l, g3⟩, g2⟩, g4⟩
            refine ⟨s22, sF.trans s3, dis2, hl.trans R.len, fun j sv g => ?_, fun i j a o1 o2 => R.sep i j a (ow o1).1 (ow o2).1, s4.2.both (fun p hp => by
              by_cases z : BJ p.1
              · exact B2y z
              · rw [B2n z]
                exact s4.2.nB p hp) R.tb.nF⟩
            obtain ⟨g1, g2⟩ := hsub _ _ g
            have s := R.slot j sv g1
            generalize hg : σ[j]? = w at s
            cases s with
            | sh r => exact .sh (r.mono sB2 _ _)
            | @fr a ho xs l hF hB hH hO r =>
              have o : Owns σ ρ j a := ⟨⟨l, g1⟩, hg⟩
              by_cases m : j ∈ brs io os
              · have z : BJ a := by
                  rw [hBJ]
                  exact ⟨j, m, o⟩
                exact .fr hF (B2y z) (s2 _ _ (s1 _ _ ((B1y z).trans hH))) hO (r.mono sB2 _ _)
              · have z : OJ a := by
                  rw [hOJ]
                  exact ⟨j, m, g2, o⟩
                have nz : ¬ BJ a := fun y => by
                  obtain ⟨j', _, _, m', o2, _⟩ := bj y
                  have := R.sep _ _ _ o o2
                  subst this
                  exact m m'
                have e3 : F1 a = some ho := (F1y z).trans hH
                exact .fr hF ((B2n nz).trans (s4.1 _ _ e3)) (s3 _ _ e3) hO (r.mono sB2 _ _)
          refine ⟨B2, ?_, sB2, fun a => by rw [hB2]⟩
          unfold putO
          cases h1 : ioSlot io os with
          | none => exact core ρ rfl fun j sv g => ⟨g, by rw [h1]; exact fun z => nomatch z⟩
          | some i =>
            obtain ⟨k, hk⟩ : ∃ k, io = some k := by
              cases h : io with
              | none =>
                rw [hS0 h] at h1
                cases h1
              | some k => exact ⟨k, rfl⟩
            obtain ⟨i', a, xs, l, g1, g2, o, nb, g3, g4, g5, g6, g7, g8⟩ := hS k hk
            rw [h1] at g1
            cases g1
            have eo := hoa i a h1 o
            obtain ⟨n1, n2, _, _⟩ := oaN eo
            obtain ⟨c1, xs', c2, c3⟩ := co a eo
            have Rd := core (ρ.set i none) (by rw [List.length_set]) fun j sv g => by
              by_cases e : i = j
              · subst e
                obtain ⟨hl, _⟩ := List.getElem?_eq_some_iff.mp g
                rw [List.length_set] at hl
                rw [List.getElem?_set_self hl] at g
                cases g
              · rw [List.getElem?_set_ne e] at g
                exact ⟨g, fun z => e (by rw [h1] at z; cases z; rfl)⟩
            have rep2 : RepL K B2 xs' out := by
              have tups : ∀ b ys, B' b = some (.tup ys) → B2 b = some (.tup ys) := fun b ys e => by
                rw [B2n fun z => ?_]
                · exact e
                · obtain ⟨j, ho, c, _, _, _, _, z3, ⟨_, z4⟩, _⟩ := bj z
                  have e' := s1 _ _ ((B1y z).trans z3)
                  rw [e] at e'
                  cases e'
                  exact OC.not_tup z4
              rcases hT with hT | hT | ⟨hN, hT⟩
              · refine c3.mono (fun b o' e => ?_) _ _
                rw [B2n fun z => ?_]
                · exact e
                · obtain ⟨j, _, _, m, o2, _⟩ := bj z
                  unfold noBr at hT
                  have := List.all_eq_true.mp hT j m
                  rw [owns_isOw o2] at this
                  cases this
              · exact c3.tmono tups _ _ hT
              · refine c3.lmono tups (fun b ys e => ?_) _ _ hT
                rw [B2n fun z => ?_]
                · exact e
                · obtain ⟨j, ho, c, m, _, _, _, z3, ⟨_, z4⟩, z5⟩ := bj z
                  have e' := s1 _ _ ((B1y z).trans z3)
                  rw [e] at e'
                  cases e'
                  obtain ⟨l', rfl⟩ := OC.is_lst z4
                  unfold noBrL at hN
                  have := List.all_eq_true.mp hN j m
                  unfold isFr at this
                  rw [z5] at this
                  cases this
            refine Rd.put (v := .ref a) g3 (sv := .fr out) |> fun f => ?_
            have f2 := Rd.put (v := .ref a) g3 (sv := .fr out) (.fr g5 ((B2n n1).trans c1) c2 rfl rep2 fun j hj => by
              rw [List.set_set] at hj
              obtain ⟨nj, oj'⟩ := owns_set_none hj
              exact nj (R.sep j i a oj' o))
            rw [List.set_set] at f2
            exact f2
        refine ⟨by rw [ov.length]; exact hn, ds, res, F1, B1, oa, e2, sBH, sFH, ⟨dis1, tb1⟩, inn, ?_⟩
        cases res with
        | exc c out =>
          intro B' H' s1 s2 s3 s4 co
          obtain ⟨B2, R2, sm, _⟩ := back out B' H' s1 s2 s3 s4 co (by
            rcases Bool.or_eq_true _ _ ▸ hbr with h | h
            · exact .inl h
            · unfold resOk at h
              rw [Bool.or_eq_true, Bool.and_eq_true] at h
              rcases h with h | ⟨h, h'⟩
              · exact .inr (.inl h)
              · exact .inr (.inr ⟨h, h'⟩))
          exact q B2 H' R2 sm
        | ret r out =>
          intro v B' H' s1 s2 s3 s4 co cr
          have hbr : noBr io os ρ = true ∨ resT (.ret r out) = true ∨ (noBrL io os ρ = true ∧ resL (.ret r out) = true) := by
            unfold resOk at hbr
            rw [Bool.or_eq_true, Bool.or_eq_true, Bool.and_eq_true] at hbr
            exact hbr
          have hT : noBr io os ρ = true ∨ isTL out = true ∨ (noBrL io os ρ = true ∧ isLL out = true) := by
            rcases hbr with h | h | ⟨h1, h⟩
            · exact .inl h
            · refine .inr (.inl ?_)
              unfold resT at h
              cases r with
              | sh d => exact (Bool.and_eq_true _ _ ▸ h).2
              | ow l => exact (Bool.and_eq_true _ _ ▸ h).2
            · refine .inr (.inr ⟨h1, ?_⟩)
              unfold resL at h
              cases r with
              | sh d => exact (Bool.and_eq_true _ _ ▸ h).2
              | ow l => exact (Bool.and_eq_true _ _ ▸ h).2
          obtain ⟨B2, R2, sm, hB2⟩ := back out B' H' s1 s2 s3 s4 co hT
          have B2y : ∀ {a}, BJ a → B2 a = none := fun {a} h => by rw [hB2]; exact if_pos h
          have B2n : ∀ {a}, ¬ BJ a → B2 a = B' a := fun {a} h => by rw [hB2]; exact if_neg h
          have nobr : noBr io os ρ = true → Same B' B2 := fun hT b o' e => by
            rw [B2n fun z => ?_]
            · exact e
            · obtain ⟨j, _, _, m, o2, _⟩ := bj z
              unfold noBr at hT
              have := List.all_eq_true.mp hT j m
              rw [owns_isOw o2] at this
              cases this
          have tups : ∀ a xs, B' a = some (.tup xs) → B2 a = some (.tup xs) := fun b ys e => by
            rw [B2n fun z => ?_]
            · exact e
            · obtain ⟨j, ho, c, _, _, _, _, z3, ⟨_, z4⟩, _⟩ := bj z
              have e' := s1 _ _ ((B1y z).trans z3)
              rw [e] at e'
              cases e'
              exact OC.not_tup z4
          have lsts : noBrL io os ρ = true → ∀ a xs, B' a = some (.lst xs) → B2 a = some (.lst xs) := fun hN b ys e => by
            rw [B2n fun z => ?_]
            · exact e
            · obtain ⟨j, ho, c, m, _, _, _, z3, ⟨_, z4⟩, z5⟩ := bj z
              have e' := s1 _ _ ((B1y z).trans z3)
              rw [e] at e'
              cases e'
              obtain ⟨l', rfl⟩ := OC.is_lst z4
              unfold noBrL at hN
              have := List.all_eq_true.mp hN j m
              unfold isFr at this
              rw [z5] at this
              cases this
          refine q v B2 H' R2 sm ?_
          cases cr with
          | sh r =>
            rcases hbr with h | h | ⟨h1, h⟩
            · exact .sh (r.mono (nobr h) _ _)
            · unfold resT at h
              exact .sh (r.tmono tups _ _ (Bool.and_eq_true _ _ ▸ h).1)
            · unfold resL at h
              exact .sh (r.lmono tups (lsts h1) _ _ (Bool.and_eq_true _ _ ▸ h).1)
          | @fr a ho xs l hF hB hH hO r no =>
            have nBJ : ¬ BJ a := fun z => by
              obtain ⟨_, _, _, _, _, _, _, z3, _⟩ := bj z
              have e' := s1 _ _ ((B1y z).trans z3)
              rw [hB] at e'
              cases e'
            have nOJ : ¬ OJ a := fun z => by
              obtain ⟨_, _, _, _, _, _, _, z3⟩ := oj z
              have e' := (F1y z).trans z3
              rw [hF] at e'
              cases e'
            refine .fr ((F1n nOJ).symm.trans hF) ((B2n nBJ).trans hB) hH hO ?_ fun j hj => ?_
            · rcases hbr with h | h | ⟨h1, h⟩
              · exact r.mono (nobr h) _ _
              · unfold resT at h
                exact r.tmono tups _ _ (Bool.and_eq_true _ _ ▸ h).1
              · unfold resL at h
                exact r.lmono tups (lsts h1) _ _ (Bool.and_eq_true _ _ ▸ h).1
            · have hj' : Owns σ ρ j a := by
                obtain ⟨⟨ds', g1⟩, g2⟩ := hj
                unfold putO at g1
                cases h1 : ioSlot io os with
                | none =>
                  rw [h1] at g1
                  exact ⟨⟨_, g1⟩, g2⟩
                | some i =>
                  rw [h1] at g1
                  by_cases e : i = j
                  · subst e
                    obtain ⟨k, hk⟩ : ∃ k, io = some k := by
                      cases h : io with
                      | none =>
                        rw [hS0 h] at h1
                        cases h1
                      | some k => exact ⟨k, rfl⟩
                    obtain ⟨i', a', xs', l', g1', _, o, _, g3, _⟩ := hS k hk
                    rw [h1] at g1'
                    cases g1'
                    rw [g3] at g2
                    cases g2
                    exact o
                  · have g1 : (ρ.set i (some (.fr out)))[j]? = _ := g1
                    rw [List.getElem?_set_ne e] at g1
                    exact ⟨⟨_, g1⟩, g2⟩
              by_cases m : j ∈ brs io os
              · exact nBJ (by rw [hBJ]; exact ⟨j, m, hj'⟩)
              · by_cases i : ioSlot io os = some j
                · exact no (hoa j a i hj')
                · exact nOJ (by rw [hOJ]; exact ⟨j, m, i, hj'⟩)
      · rw [if_neg hc] at q
        exact q.elim
end Sim

namespace Sim
open PySem PySem.Spec PyProof.Rows L2

def vCall (n : Nat) (io : Option Nat) (Φ : List D → Option CR) (as : M (List Op)) : M SV := bnd as fun os ρ => if os.length = n then callM io Φ os ρ else none
section
variable {cv : Nat → Value} {X : Cx} {W : WX} {e : Expr} {es : List Expr} {ts : TA} {fs : M (List Op)} {pos p : Pos}
theorem snd_call {n k : Nat} {io : Option Nat} {Φ : List D → Option CR} {f : Addr} {fd : FuncData} {ps : List Str} {x : Str} (G : FnOk X.prog X.w X.K X.mg X.base (L2N.CX X.prog X.w) k f fd ps (spI cv X.K n io Φ)) (hr : Room k X.A) (hg : Gl X x) (hm : X.mg x = some (.ref f))
    (hk : PySem.W.keepIn X.K (.ref f) = true) (hb : Binds X.K fd ps []) (tk : L2N.Takes X W) (ha : SndA cv X W (e :: es) ts fs) (hdb : (x == ("__debug__" : Str)) = false := by decide)
    (he : starEach (e :: es) X.env = (false, eval e X.env) :: starEach es X.env := by rfl) (hpl : (backTo pos (starEach es X.env)).any (·.1) = false := by rfl) :
    SndE cv X W (.Call (.Name x p) (e :: es) [] pos) (tCallS (spI cv X.K n io Φ) (WE W) ts) (vCall n io Φ fs) := by
  refine ⟨pe_callS G hr hg hm hk hb (fun σ => L2N.passAt tk σ) ha.pa hdb he hpl, fun F B H σ ρ Q R q => ?_⟩
  refine ha.ad F B H σ ρ _ R (wpm_mono (wpm_bnd q) (fun os ρ1 q vs B1 H1 R1 sm1 ov => ?_) fun _ _ q => q)
  unfold wpm at q
  by_cases hl : os.length = n
  · simp only [if_pos hl] at q
    exact adm_callM R1 ov hl (wpm_mono (m := callM io Φ os) q (fun a ρ' q v B' H' R' sm rv => q v B' H' R' (sm1.trans sm) rv) fun c ρ' q B' H' R' sm => q B' H' R' (sm1.trans sm))
  · simp only [if_neg hl] at q
end

/-! ### runs of statements -/
inductive SO where
  | nx (ρ : Sl)
  | rt (sv : SV) (ρ : Sl)
  | bk (ρ : Sl)
  | ct (ρ : Sl)
  | ex (c : Nat) (ρ : Sl)
abbrev SM := Sl → Option SO
structure Ws where
  nx : Sl → Prop
  rt : SV → Sl → Prop
  bk : Sl → Prop
  ct : Sl → Prop
  ex : Nat → Sl → Prop
def Ws.at (Z : Ws) : Option SO → Prop
  | none => False
  | some (.nx ρ) => Z.nx ρ
  | some (.rt sv ρ) => Z.rt sv ρ
  | some (.bk ρ) => Z.bk ρ
  | some (.ct ρ) => Z.ct ρ
  | some (.ex c ρ) => Z.ex c ρ
def Agr (w : List Nat) (σ σ' : L2.St) : Prop := ∀ j, j ∉ w → σ'[j]? = σ[j]?
theorem Agr.refl {w : List Nat} {σ : L2.St} : Agr w σ σ := fun _ _ => rfl
theorem Agr.trans {w w' : List Nat} {σ σ1 σ2 : L2.St} (a : Agr w σ σ1) (b : Agr w' σ1 σ2) : Agr (w ++ w') σ σ2 := fun j h => by
  rw [List.mem_append, not_or] at h
  exact (b j h.2).trans (a j h.1)
theorem Agr.mono {w w' : List Nat} {σ σ' : L2.St} (a : Agr w σ σ') (h : ∀ j, j ∈ w → j ∈ w') : Agr w' σ σ' := fun j hj => a j fun z => hj (h j z)
theorem Agr.tr {w : List Nat} {σ σ1 σ2 : L2.St} (a : Agr w σ σ1) (b : Agr w σ1 σ2) : Agr w σ σ2 := fun j h => (b j h).trans (a j h)
/-- what is wanted behind a statement that began at B, σ -/
def wsOf (cv : Nat → Value) (W : WX) (K : PySem.W.Frag) (F B : Hp) (σ : L2.St) (w : List Nat) (D : Ends) : Ws where
  nx := fun ρ' => ∀ σ' B' H', Rel K F B' H' σ' ρ' → Same B B' → Agr w σ σ' → D.nx σ' H'
  rt := fun sv ρ' => ∀ v σ' B' H', Rel K F B' H' σ' ρ' → Same B B' → Agr w σ σ' → RV K F B' H' σ' ρ' v sv → D.rt v H'
  bk := fun ρ' => ∀ σ' B' H', Rel K F B' H' σ' ρ' → Same B B' → Agr w σ σ' → D.bk σ' H'
  ct := fun ρ' => ∀ σ' B' H', Rel K F B' H' σ' ρ' → Same B B' → Agr w σ σ' → D.ct σ' H'
  ex := fun c ρ' => ∀ σ' B' H', Rel K F B' H' σ' ρ' → Same B B' → Agr w σ σ' → W (cv c) none σ' H'
def AdmS (cv : Nat → Value) (W : WX) (K : PySem.W.Frag) (t : TS) (m : SM) (w : List Nat) : Prop :=
  ∀ (F B H : Hp) (σ : L2.St) (ρ : Sl) (D : Ends), Rel K F B H σ ρ → (wsOf cv W K F B σ w D).at (m ρ) → t D σ H
structure SndS (cv : Nat → Value) (X : Cx) (W : WX) (st : Stmt) (t : TS) (m : SM) (w : List Nat) : Prop where
  ps : PS X st t
  ad : AdmS cv W X.K t m w
structure SndSs (cv : Nat → Value) (X : Cx) (W : WX) (st : List Stmt) (t : TS) (m : SM) (w : List Nat) : Prop where
  ps : PSs X st t
  ad : AdmS cv W X.K t m w
/-- what an end asks, step by step -/
structure Ws.Le (Z Z' : Ws) : Prop where
  nx : ∀ ρ, Z.nx ρ → Z'.nx ρ
  rt : ∀ sv ρ, Z.rt sv ρ → Z'.rt sv ρ
  bk : ∀ ρ, Z.bk ρ → Z'.bk ρ
  ct : ∀ ρ, Z.ct ρ → Z'.ct ρ
  ex : ∀ c ρ, Z.ex c ρ → Z'.ex c ρ
theorem Ws.at.mono {Z Z' : Ws} (l : Ws.Le Z Z') : ∀ {o : Option SO}, Z.at o → Z'.at o
  | none, h => h
  | some (.nx ρ), h => l.nx ρ h
  | some (.rt sv ρ), h => l.rt sv ρ h
  | some (.bk ρ), h => l.bk ρ h
  | some (.ct ρ), h => l.ct ρ h
  | some (.ex c ρ), h => l.ex c ρ h
theorem wsOf.later {cv : Nat → Value} {W : WX} {K : PySem.W.Frag} {F B B1 : Hp} {σ σ1 : L2.St} {w w1 w2 : List Nat} {D : Ends} (sm : Same B B1) (ag : Agr w1 σ σ1) (h1 : ∀ j, j ∈ w1 → j ∈ w) (h2 : ∀ j, j ∈ w2 → j ∈ w) : Ws.Le (wsOf cv W K F B σ w D) (wsOf cv W K F B1 σ1 w2 D) where
  nx := fun ρ q σ' B' H' R s a => q σ' B' H' R (sm.trans s) ((ag.mono h1).tr (a.mono h2))
  rt := fun sv ρ q v σ' B' H' R s a rv => q v σ' B' H' R (sm.trans s) ((ag.mono h1).tr (a.mono h2)) rv
  bk := fun ρ q σ' B' H' R s a => q σ' B' H' R (sm.trans s) ((ag.mono h1).tr (a.mono h2))
  ct := fun ρ q σ' B' H' R s a => q σ' B' H' R (sm.trans s) ((ag.mono h1).tr (a.mono h2))
  ex := fun c ρ q σ' B' H' R s a => q σ' B' H' R (sm.trans s) ((ag.mono h1).tr (a.mono h2))

/-! ### statements -/
def sNx : SM := fun ρ => some (.nx ρ)
def sBk : SM := fun ρ => some (.bk ρ)
def sCt : SM := fun ρ => some (.ct ρ)
def sSeq (m n : SM) : SM := fun ρ => match m ρ with
  | some (.nx ρ') => n ρ'
  | o => o
/-- an expression, then what its value does -/
def sEx {α : Type} (f : M α) (k : α → SM) : SM := fun ρ => match f ρ with
  | none => none
  | some (.ex c ρ') => some (.ex c ρ')
  | some (.ok a ρ') => k a ρ'
def sIf (c : M Bool) (m n : SM) : SM := sEx c fun b => if b = true then m else n
def sRet (f : M SV) : SM := sEx f fun sv ρ => some (.rt sv ρ)
def sRetN : SM := fun ρ => some (.rt (.sh .non) ρ)
def sDrop (f : M SV) : SM := sEx f fun _ ρ => some (.nx ρ)
def sAsg (f : M SV) (g : SV → Sl → Option Sl) : SM := sEx f fun sv ρ => (g sv ρ).map .nx
def gN (i : Nat) : SV → Sl → Option Sl := fun sv ρ => if i < ρ.length then some (ρ.set i (some sv)) else none
def gT (n : Nat) (gs : List D → Sl → Option Sl) : SV → Sl → Option Sl := fun sv ρ => match sv with
  | .sh (.tup l) => if l.length = n then gs l ρ else none
  | _ => none
def gsN : List D → Sl → Option Sl := fun l ρ => match l with
  | [] => some ρ
  | _ => none
def gsC (g : SV → Sl → Option Sl) (gs : List D → Sl → Option Sl) : List D → Sl → Option Sl := fun l ρ => match l with
  | d :: ds => (g (.sh d) ρ).bind (gs ds)
  | _ => none
def AdmG (K : PySem.W.Frag) (t : TG) (g : SV → Sl → Option Sl) (w : List Nat) : Prop :=
  ∀ (F B H : Hp) (σ : L2.St) (ρ : Sl) (v : V) (sv : SV) (ρ' : Sl) (Q : L2.St → Hp → Prop), Rel K F B H σ ρ → RV K F B H σ ρ v sv → g sv ρ = some ρ' →
    (∀ σ', Rel K F B H σ' ρ' → Agr w σ σ' → σ'.length = σ.length → Q σ' H) → t v σ H Q
def AdmGs (K : PySem.W.Frag) (t : TGs) (g : List D → Sl → Option Sl) (w : List Nat) : Prop :=
  ∀ (F B H : Hp) (σ : L2.St) (ρ : Sl) (vs : List V) (ds : List D) (ρ' : Sl) (Q : L2.St → Hp → Prop), Rel K F B H σ ρ → RepL K B vs ds → g ds ρ = some ρ' →
    (∀ σ', Rel K F B H σ' ρ' → Agr w σ σ' → σ'.length = σ.length → Q σ' H) → t vs σ H Q
structure SndG (X : Cx) (e : Expr) (t : TG) (g : SV → Sl → Option Sl) (w : List Nat) : Prop where
  pg : PG X e t
  ad : AdmG X.K t g w
structure SndGs (X : Cx) (es : List Expr) (t : TGs) (g : List D → Sl → Option Sl) (w : List Nat) : Prop where
  pg : PGs X es t
  ad : AdmGs X.K t g w
theorem Rel.store {K : PySem.W.Frag} {F B H : Hp} {σ : L2.St} {ρ : Sl} {v : V} {sv : SV} {i : Nat} (R : Rel K F B H σ ρ) (r : RV K F B H σ ρ v sv) (hi : i < ρ.length) : Rel K F B H (σ.set i (some v)) (ρ.set i (some sv)) := by
  have hs : i < σ.length := R.len ▸ hi
  have base : Rel K F B H (σ.set i (some v)) (ρ.set i none) := by
    refine ⟨R.exB, R.exF, R.dis, by rw [List.length_set, List.length_set]; exact R.len, fun j s h => ?_, fun j k a h1 h2 => ?_, R.tb⟩
    · by_cases e : i = j
      · subst e
        rw [List.getElem?_set_self hi] at h
        cases h
      · rw [List.getElem?_set_ne e] at h
        rw [List.getElem?_set_ne e]
        exact R.slot j s h
    · have ow : ∀ {j a}, Owns (σ.set i (some v)) (ρ.set i none) j a → Owns σ ρ j a := fun {j a} h => by
        obtain ⟨⟨l, g1⟩, g2⟩ := h
        by_cases e : i = j
        · subst e
          rw [List.getElem?_set_self hi] at g1
          cases g1
        · rw [List.getElem?_set_ne e] at g1 g2
          exact ⟨⟨l, g1⟩, g2⟩
      exact R.sep j k a (ow h1) (ow h2)
  have f := base.put (v := v) (i := i) (sv := sv) (List.getElem?_set_self hs) (by
    cases r with
    | sh r => exact .sh r
    | fr hF hB hH hO r no =>
      refine .fr hF hB hH hO r fun j hj => ?_
      rw [List.set_set] at hj
      obtain ⟨⟨l, g1⟩, g2⟩ := hj
      by_cases e : i = j
      · subst e
        rw [List.getElem?_set_self hi] at g1
        cases g1
      · rw [List.getElem?_set_ne e] at g1 g2
        exact no j ⟨⟨l, g1⟩, g2⟩)
  rw [List.set_set] at f
  exact f
section
variable {cv : Nat → Value} {X : Cx} {W : WX} {e a b c : Expr} {es : List Expr} {st : Stmt} {sts as bs : List Stmt} {te ta tb : TE} {tc : TT} {t u : TS} {f : M SV} {m n : SM} {w w' : List Nat} {pos p p2 : Pos}
theorem sng_name {i : Nat} {x : Str} (hN : X.N.Nodup) (hi : X.N[i]? = some x) (hx : Loc X.env.scope x) (hf : X.fn x = true ∨ X.env.scope.names.lookup x = some .local := by first | exact .inl rfl | exact .inr rfl | assumption) : SndG X (.Name x pos) (gName i) (gN i) [i] := by
  refine ⟨pg_name hN hi hx hf, fun F B H σ ρ v sv ρ' Q R r h q => ?_⟩
  unfold gN at h
  split at h
  · rename_i hl
    cases h
    refine q _ (R.store r hl) (fun j hj => ?_) (by rw [List.length_set])
    rw [List.getElem?_set_ne fun z => hj (by rw [z]; exact List.mem_singleton_self j)]
  · cases h
theorem sngs_nil : SndGs X [] gNil gsN [] := by
  refine ⟨pgs_nil, fun F B H σ ρ vs ds ρ' Q R r h q => ?_⟩
  unfold gsN at h
  split at h
  · cases h
    cases r
    exact ⟨rfl, q σ R Agr.refl rfl⟩
  · cases h
theorem sngs_cons {tg : TG} {tgs : TGs} {g : SV → Sl → Option Sl} {gs : List D → Sl → Option Sl} (h1 : SndG X e tg g w) (h2 : SndGs X es tgs gs w')
    (hs : (assignEach (e :: es) X.env).map (·.2) = assign e X.env :: (assignEach es X.env).map (·.2) := by rfl) : SndGs X (e :: es) (gCons tg tgs) (gsC g gs) (w ++ w') := by
  refine ⟨pgs_cons h1.pg h2.pg hs, fun F B H σ ρ vs ds ρ' Q R r h q => ?_⟩
  unfold gsC at h
  split at h
  · rename_i d ds'
    cases r with
    | @cons v _ vs' _ rd rt =>
      cases e1 : g (.sh d) ρ with
      | none =>
        rw [e1] at h
        cases h
      | some ρ1 =>
        rw [e1] at h
        refine ⟨_, _, rfl, h1.ad F B H σ ρ v _ ρ1 _ R (.sh rd) e1 fun σ1 R1 a1 l1 => ?_⟩
        exact h2.ad F B H σ1 ρ1 vs' ds' ρ' Q R1 rt h fun σ2 R2 a2 l2 => q σ2 R2 (a1.trans a2) (l2.trans l1)
  · cases h
theorem sng_tup {k len : Nat} {tgs : TGs} {gs : List D → Sl → Option Sl} (hc : X.calm = true) (h : SndGs X es tgs gs w)
    (hn : (assignEach es X.env).length = len := by rfl) (hst : (assignEach es X.env).findIdx? (·.1) = none := by rfl) : SndG X (.Tuple es k pos) (gTup X.K len tgs) (gT len gs) w := by
  refine ⟨pg_tup hc h.pg hn hst, fun F B H σ ρ v sv ρ' Q R r h1 q => ?_⟩
  unfold gT at h1
  split at h1
  · rename_i l
    split at h1
    · rename_i hl
      cases r with
      | sh r =>
        cases r with
        | tup ha rl => exact ⟨_, _, rfl, (ha.mono fun a xs q => R.exB a _ q).sq, rl.length.trans hl, h.ad F B H σ ρ _ l ρ' Q R rl h1 q⟩
    · cases h1
  · cases h1
theorem sns_nil : SndSs cv X W [] tNext sNx [] := ⟨pss_nil, fun F B H σ ρ D R q => q σ B H R (Same.refl _) Agr.refl⟩
theorem adm_seq (h1 : AdmS cv W X.K t m w) (h2 : AdmS cv W X.K u n w') : AdmS cv W X.K (tSeq t u) (sSeq m n) (w ++ w') := by
  intro F B H σ ρ D R q
  refine h1 F B H σ ρ _ R ?_
  unfold sSeq at q
  split at q
  · rename_i ρ1 e1
    rw [e1]
    intro σ1 B1 H1 R1 sm ag
    exact h2 F B1 H1 σ1 ρ1 D R1 (Ws.at.mono (wsOf.later sm ag (fun j h => List.mem_append_left _ h) fun j h => List.mem_append_right _ h) q)
  · rename_i hno
    cases e1 : m ρ with
    | none =>
      rw [e1] at q
      exact q
    | some o =>
      rw [e1] at q
      cases o with
      | nx ρ1 => exact (hno ρ1 e1).elim
      | rt sv ρ1 => exact fun v σ' B' H' R s a rv => q v σ' B' H' R s (a.mono fun j h => List.mem_append_left _ h) rv
      | bk ρ1 => exact fun σ' B' H' R s a => q σ' B' H' R s (a.mono fun j h => List.mem_append_left _ h)
      | ct ρ1 => exact fun σ' B' H' R s a => q σ' B' H' R s (a.mono fun j h => List.mem_append_left _ h)
      | ex c ρ1 => exact fun σ' B' H' R s a => q σ' B' H' R s (a.mono fun j h => List.mem_append_left _ h)
theorem sns_cons (h1 : SndS cv X W st t m w) (h2 : SndSs cv X W sts u n w') : SndSs cv X W (st :: sts) (tSeq t u) (sSeq m n) (w ++ w') := ⟨pss_cons h1.ps h2.ps, adm_seq h1.ad h2.ad⟩
theorem sns_one (h1 : SndS cv X W st t m w) : SndSs cv X W [st] t m w := ⟨pss_one h1.ps, h1.ad⟩
/-- an expression ahead of a statement's own -/
theorem ws_ex {α : Type} {K : PySem.W.Frag} {F B : Hp} {σ : L2.St} {D : Ends} {f : M α} {k : α → SM} {ρ : Sl} (q : (wsOf cv W K F B σ w D).at (sEx f k ρ)) :
    wpm f ρ (fun a ρ' => (wsOf cv W K F B σ w D).at (k a ρ')) fun c ρ' => ∀ B' H', Rel K F B' H' σ ρ' → Same B B' → W (cv c) none σ H' := by
  unfold sEx at q
  unfold wpm
  cases e : f ρ with
  | none =>
    rw [e] at q
    exact q
  | some o =>
    rw [e] at q
    cases o with
    | ok a ρ' => exact q
    | ex c ρ' => exact fun B' H' R s => q σ B' H' R s Agr.refl
theorem sns_if {f' : M Bool} (hc : SndB cv X W c tc f') (ha : SndSs cv X W as t m w) (hb : SndSs cv X W bs u n w') : SndS cv X W (.If c as bs pos) (tIfS tc t u) (sIf f' m n) (w ++ w') := by
  refine ⟨ps_if hc.pt ha.ps hb.ps, fun F B H σ ρ D R q => ?_⟩
  refine hc.ad F B H σ ρ _ R (wpm_mono (ws_ex q) (fun b ρ1 q b' B1 H1 R1 sm e1 => ?_) fun _ _ q => q)
  subst e1
  cases b' with
  | true => exact ha.ad F B1 H1 σ ρ1 D R1 (Ws.at.mono (wsOf.later (w1 := []) sm Agr.refl (fun j h => nomatch h) fun j h => List.mem_append_left _ h) q)
  | false => exact hb.ad F B1 H1 σ ρ1 D R1 (Ws.at.mono (wsOf.later (w1 := []) sm Agr.refl (fun j h => nomatch h) fun j h => List.mem_append_right _ h) q)
theorem sns_ret (h : SndE cv X W e te f) : SndS cv X W (.Return (some e) pos) (tRet te) (sRet f) [] := by
  refine ⟨ps_ret h.pe, fun F B H σ ρ D R q => ?_⟩
  exact h.ad F B H σ ρ _ R (wpm_mono (ws_ex q) (fun b ρ1 q v B1 H1 R1 sm rv => q v σ B1 H1 R1 sm Agr.refl rv) fun _ _ q => q)
theorem sns_expr (h : SndE cv X W e te f) (hs : swapsWith e none pos.line X.env = pure false := by rfl) : SndS cv X W (.Expr e pos) (tDrop te) (sDrop f) [] := by
  refine ⟨ps_expr h.pe hs, fun F B H σ ρ D R q => ?_⟩
  exact h.ad F B H σ ρ _ R (wpm_mono (ws_ex q) (fun b ρ1 q v B1 H1 R1 sm rv => q σ B1 H1 R1 sm Agr.refl) fun _ _ q => q)
theorem adm_asg {tg : TG} {g : SV → Sl → Option Sl} (h : Adm cv W X.K te f (RV X.K)) (hg : AdmG X.K tg g w) : AdmS cv W X.K (tAsg te tg) (sAsg f g) w := by
  intro F B H σ ρ D R q
  refine h F B H σ ρ _ R (wpm_mono (ws_ex q) (fun sv ρ1 q v B1 H1 R1 sm rv => ?_) fun _ _ q => q)
  cases e1 : g sv ρ1 with
  | none =>
    simp only [e1, Option.map_none] at q
    exact q.elim
  | some ρ2 =>
    simp only [e1, Option.map_some] at q
    exact hg F B1 H1 σ ρ1 v sv ρ2 _ R1 rv e1 fun σ' R2 ag _ => q σ' B1 H1 R2 sm ag
theorem sns_set {i : Nat} {x : Str} (hN : X.N.Nodup) (hi : X.N[i]? = some x) (hx : Loc X.env.scope x) (h : SndE cv X W e te f) (hs : swapsWith e (some (.Name x p)) pos.line X.env = pure false := by rfl)
    (hf : X.fn x = true ∨ X.env.scope.names.lookup x = some .local := by first | exact .inl rfl | exact .inr rfl | assumption) : SndS cv X W (.Assign [.Name x p] e pos) (tAsg te (gName i)) (sAsg f (gN i)) [i] :=
  ⟨ps_set hN hi hx h.pe hs hf, adm_asg h.ad (sng_name (pos := p) hN hi hx hf).ad⟩
/-- a, b = x, y by plain local names -/
def sPar (i j : Nat) (as : M (List Op)) : SM := sEx as fun os ρ => match vals os with
  | some [x, y] => if i < ρ.length ∧ j < ρ.length then some (.nx ((ρ.set i (some (.sh x))).set j (some (.sh y)))) else none
  | _ => none
end
end Sim

namespace Sim
open PySem PySem.Spec PyProof.Rows L2

/-! ### a def's body -/
def frO : Option D → Option SV
  | some (.lst l) => some (.fr l)
  | _ => none
def shL (ds : List D) : Sl := ds.map fun d => some (.sh d)
def startL (io : Option Nat) (ds : List D) : Sl := match io with
  | none => shL ds
  | some k => (shL ds).set k (frO ds[k]?)
def startS (io : Option Nat) (L : Nat) (ds : List D) : Sl := startL io ds ++ List.replicate (L - ds.length) none
def outS (io : Option Nat) (ρ : Sl) : Option (List D) := match io with
  | none => some []
  | some i => match ρ[i]? with
    | some (some (.ow (.lst l))) => some l
    | _ => none
def runB (io : Option Nat) (L : Nat) (m : SM) (ds : List D) : Option CR := match m (startS io L ds) with
  | some (.nx ρ) => (outS io ρ).map (.ret (.sh .non))
  | some (.rt sv ρ) => (outS io ρ).map (.ret sv)
  | some (.ex c ρ) => (outS io ρ).map (.exc c)
  | _ => none
theorem startL_length (io : Option Nat) (ds : List D) : (startL io ds).length = ds.length := by
  unfold startL shL
  cases io with
  | none => exact List.length_map _
  | some k => exact (List.length_set).trans (List.length_map _)
theorem shL_at {ds : List D} {i : Nat} {sv : SV} (h : (shL ds)[i]? = some (some sv)) : ∃ d, ds[i]? = some d ∧ sv = .sh d := by
  unfold shL at h
  rw [List.getElem?_map] at h
  cases e : ds[i]? with
  | none =>
    rw [e] at h
    cases h
  | some d =>
    rw [e] at h
    cases h
    exact ⟨d, rfl, rfl⟩
theorem frO_at {o : Option D} {sv : SV} (h : frO o = some sv) : ∃ l, o = some (.lst l) ∧ sv = .fr l := by
  unfold frO at h
  split at h
  · rename_i l
    cases h
    exact ⟨l, rfl, rfl⟩
  · cases h
theorem startL_at {io : Option Nat} {ds : List D} {i : Nat} {sv : SV} (h : (startL io ds)[i]? = some (some sv)) : ∃ d, ds[i]? = some d ∧ ((io ≠ some i ∧ sv = .sh d) ∨ (io = some i ∧ ∃ l, d = .lst l ∧ sv = .fr l)) := by
  unfold startL at h
  cases io with
  | none =>
    obtain ⟨d, h1, h2⟩ := shL_at h
    exact ⟨d, h1, .inl ⟨(fun z => nomatch z), h2⟩⟩
  | some k =>
    have h : ((shL ds).set k (frO ds[k]?))[i]? = some (some sv) := h
    by_cases e : k = i
    · subst e
      obtain ⟨hl, _⟩ := List.getElem?_eq_some_iff.mp h
      rw [List.length_set] at hl
      rw [List.getElem?_set_self hl] at h
      obtain ⟨l, h1, h2⟩ := frO_at (Option.some.inj h)
      exact ⟨_, h1, .inr ⟨rfl, l, rfl, h2⟩⟩
    · rw [List.getElem?_set_ne e] at h
      obtain ⟨d, h1, h2⟩ := shL_at h
      exact ⟨d, h1, .inl ⟨fun z => e (Option.some.inj z), h2⟩⟩
theorem rel_start {K : PySem.W.Frag} {F B H : Hp} {N : List Str} {io : Option Nat} {vs : List V} {ds : List D} {oa : Option Addr} (sB : Same B H) (sF : Same F H) (dis : DisT F B H) (c : CallIn K F B H io vs ds oa) :
    Rel K F B H (L2.start N vs) (startS io N.length ds) := by
  have gl : ∀ {i : Nat} {v : V}, vs[i]? = some v → (L2.start N vs)[i]? = some (some v) := fun {i v} h => by
    unfold L2.start
    obtain ⟨hl, _⟩ := List.getElem?_eq_some_iff.mp h
    rw [List.getElem?_append_left (by rw [List.length_map]; exact hl), List.getElem?_map, h]
    rfl
  have gs : ∀ {i : Nat} {sv : SV}, (startS io N.length ds)[i]? = some (some sv) → (startL io ds)[i]? = some (some sv) := fun {i sv} h => by
    unfold startS at h
    by_cases hl : i < (startL io ds).length
    · rw [List.getElem?_append_left hl] at h
      exact h
    · rw [List.getElem?_append_right (Nat.le_of_not_lt hl), List.getElem?_replicate] at h
      split at h <;> cases h
  refine ⟨sB, sF, dis.1, ?_, fun i sv h => ?_, fun i j a h1 h2 => ?_, dis.2⟩
  · unfold startS L2.start
    rw [List.length_append, List.length_append, List.length_map, startL_length, List.length_replicate, List.length_replicate, c.len]
  · obtain ⟨d, hd, q⟩ := startL_at (gs h)
    rcases q with ⟨n, rfl⟩ | ⟨e, l, rfl, rfl⟩
    · obtain ⟨hl, _⟩ := List.getElem?_eq_some_iff.mp hd
      obtain ⟨v, hv⟩ : ∃ v, vs[i]? = some v := ⟨_, List.getElem?_eq_getElem (by rw [c.len]; exact hl)⟩
      rw [gl hv]
      exact .sh (c.sh i _ d hv hd n)
    · obtain ⟨a, xs, l', g1, g2, g3, g4, g5, g6, g7⟩ := c.inn i e
      rw [hd] at g2
      cases g2
      rw [gl g1]
      exact .fr g4 g5 g6 rfl g7
  · obtain ⟨⟨l1, g1⟩, _⟩ := h1
    obtain ⟨⟨l2, g2⟩, _⟩ := h2
    obtain ⟨d1, _, q1⟩ := startL_at (gs g1)
    obtain ⟨d2, _, q2⟩ := startL_at (gs g2)
    rcases q1 with ⟨_, z⟩ | ⟨e1, _⟩
    · cases z
    · rcases q2 with ⟨_, z⟩ | ⟨e2, _⟩
      · cases z
      · rw [e1] at e2
        cases e2
        rfl
section
variable {P : Program} {w' : World} {K : PySem.W.Frag} {mg : Str → Option Value} {base : Heap} {cv : Nat → Value}
theorem ends_of {n : Nat} {io : Option Nat} {Φ : List D → Option CR} {N : List Str} {m : SM} {w : List Nat} {t : TS} {E : XK} {W : WX} (hW : ∀ cls d σ H, E cls d H → W cls d σ H) (hio : ∀ i, io = some i → i ∉ w) (ad : AdmS cv W K t m w)
    (run : ∀ ds res, Φ ds = some res → runB io N.length m ds = some res) {vs : List V} {H : Hp} {Q : VK} (h : spI cv K n io Φ vs H Q E) : t { nx := fun _ H' => Q .non H', rt := Q } (L2.start N vs) H := by
  obtain ⟨_, ds, res, F, B, oa, hΦ, sB, sF, dis, c, o⟩ := h
  have R0 := rel_start (N := N) sB sF dis c
  have r := run ds res hΦ
  unfold runB at r
  refine ad F B H _ _ _ R0 ?_
  -- the changed argument's list, at the end
  have cout : ∀ {ρ' : Sl} {σ' : L2.St} {B' H' : Hp} {out : List D}, Rel K F B' H' σ' ρ' → Agr w (L2.start N vs) σ' → outS io ρ' = some out → CallOut K B' H' oa out ∧ ∀ a, oa = some a → ∃ i, Owns σ' ρ' i a := fun {ρ' σ' B' H' out} R ag e => by
    have key : ∀ a, oa = some a → ∃ i l, io = some i ∧ ρ'[i]? = some (some (.fr l)) ∧ l = out ∧ σ'[i]? = some (some (.ref a)) := fun a ea => by
      cases hi : io with
      | none =>
        rw [c.no hi] at ea
        cases ea
      | some i =>
        obtain ⟨a', xs, l, g1, g2, g3, g4, g5, g6, g7⟩ := c.inn i hi
        rw [ea] at g3
        cases g3
        have hs : (L2.start N vs)[i]? = some (some (.ref a)) := by
          unfold L2.start
          obtain ⟨hl, _⟩ := List.getElem?_eq_some_iff.mp g1
          rw [List.getElem?_append_left (by rw [List.length_map]; exact hl), List.getElem?_map, g1]
          rfl
        have hs' := (ag i (hio i hi)).trans hs
        unfold outS at e
        simp only [hi] at e
        split at e
        · rename_i l' el
          cases e
          exact ⟨i, out, rfl, el, rfl, hs'⟩
        · cases e
    refine ⟨fun a ea => ?_, fun a ea => ?_⟩
    · obtain ⟨i, l, hi, el, rfl, hs⟩ := key a ea
      have s := R.slot i _ el
      rw [hs] at s
      cases s with
      | fr hF hB hH hO r =>
        cases hO
        exact ⟨hB, _, hH, r⟩
    · obtain ⟨i, l, hi, el, rfl, hs⟩ := key a ea
      exact ⟨i, ⟨_, el⟩, hs⟩
  split at r
  · rename_i ρ' e1
    rw [e1]
    cases e2 : outS io ρ' with
    | none =>
      rw [e2] at r
      cases r
    | some out =>
      rw [e2] at r
      cases r
      intro σ' B' H' R sm ag
      exact o .non B' H' sm R.exB R.exF ⟨R.dis, R.tb⟩ (cout R ag e2).1 (.sh .non)
  · rename_i sv ρ' e1
    rw [e1]
    cases e2 : outS io ρ' with
    | none =>
      rw [e2] at r
      cases r
    | some out =>
      rw [e2] at r
      cases r
      intro v σ' B' H' R sm ag rv
      refine o v B' H' sm R.exB R.exF ⟨R.dis, R.tb⟩ (cout R ag e2).1 ?_
      cases rv with
      | sh r => exact .sh r
      | fr hF hB hH hO r no =>
        refine .fr hF hB hH hO r fun z => ?_
        obtain ⟨i, oi⟩ := (cout R ag e2).2 _ z
        exact no i oi
  · rename_i cx ρ' e1
    rw [e1]
    cases e2 : outS io ρ' with
    | none =>
      rw [e2] at r
      cases r
    | some out =>
      rw [e2] at r
      cases r
      intro σ' B' H' R sm ag
      exact hW _ _ _ _ (o B' H' sm R.exB R.exF ⟨R.dis, R.tb⟩ (cout R ag e2).1)
  · cases r
/-- THE RULE for a def -/
theorem fn_ok {x qual : Str} {st : Stmt} {f : Addr} {fd : FuncData} {N ps : List Str} {k n : Nat} {io : Option Nat} {Φ : List D → Option CR} {m : SM} {w : List Nat} (G : Fun K x qual st f fd) (S : FnScope N ps (defScope st)) (hn : ps.length = n) (hio : ∀ i, io = some i → i ∉ w)
    (body : ∀ (cdv : Value) (A : Around) (outer : List Env) (s : Shared) (H : Hp) (E : XK), Room k (A.deeper (envOfC qual (defScope st) s.heap.objs.size f cdv)) →
      ∃ t, SndSs cv (cxOf (L2N.CX P w') P w' K mg base N qual (defScope st) f cdv A outer s H E) (fun cls d _ H => E cls d H) (defBody st) t m w)
    (run : ∀ ds res, Φ ds = some res → runB io N.length m ds = some res) : FnOk P w' K mg base (L2N.CX P w') (k + 1) f fd ps (spI cv K n io Φ) := by
  refine okXN G S (fun vs H Q E h => h.1.trans hn.symm) fun cdv A outer s H vs Q E hr h => ?_
  obtain ⟨t, b⟩ := body cdv A outer s H E hr
  exact ⟨t, b.ps, ends_of (fun _ _ _ _ h => h) hio b.ad run h⟩
end

end Sim

namespace Sim
open PySem PySem.Spec PyProof.Rows L2

/-! ### what is walked -/
structure Itb where
  ds : List D
  pk : List (Nat × List D)
def ItOk (K : PySem.W.Frag) (B : Hp) (σ : L2.St) (J : It) (ib : Itb) : Prop :=
  ∀ (F1 B1 H1 : Hp) (σ1 : L2.St) (ρ1 : Sl), Rel K F1 B1 H1 σ1 ρ1 → Same B B1 → (∀ q ∈ ib.pk, σ1[q.1]? = σ[q.1]? ∧ ρ1[q.1]? = some (some (.fr q.2))) →
    ∀ i, (∀ d, ib.ds[i]? = some d → J.go i H1 ∧ ∀ x H', J.yld i H1 x H' → ∃ B', Rel K F1 B' H' σ1 ρ1 ∧ Same B1 B' ∧ Rep K B' x d) ∧ (ib.ds.length ≤ i → J.stop i H1)
def AdmI (cv : Nat → Value) (W : WX) (K : PySem.W.Frag) (t : TI) (m : M Itb) : Prop :=
  ∀ (F B H : Hp) (σ : L2.St) (ρ : Sl) (R' : It → Hp → Prop), Rel K F B H σ ρ →
    wpm m ρ (fun ib ρ' => ∀ J B' H', Rel K F B' H' σ ρ' → Same B B' → ItOk K B' σ J ib → R' J H') (fun c ρ' => ∀ B' H', Rel K F B' H' σ ρ' → Same B B' → W (cv c) none σ H') → t σ H R'
structure SndI (cv : Nat → Value) (X : Cx) (W : WX) (tg iter : Expr) (t : TI) (m : M Itb) : Prop where
  pi : PI X tg iter t
  ad : AdmI cv W X.K t m
/-- a list operand's items, and the slot that it hangs on -/
def lsOf (ρ : Sl) : Op → Option Itb
  | .val (.lst l) => some ⟨l, []⟩
  | .val (.scr l) => some ⟨l.map .int, []⟩
  | .slot i => match ρ[i]? with
    | some (some (.ow (.lst l))) => some ⟨l, [(i, l)]⟩
    | some (some (.sh (.lst l))) => some ⟨l, []⟩
    | some (some (.sh (.scr l))) => some ⟨l.map .int, []⟩
    | _ => none
  | _ => none
/-- at every later state the list is there -/
def LsAt (K : PySem.W.Frag) (B : Hp) (σ : L2.St) (a : Addr) (ib : Itb) : Prop :=
  ∀ (F1 B1 H1 : Hp) (σ1 : L2.St) (ρ1 : Sl), Rel K F1 B1 H1 σ1 ρ1 → Same B B1 → (∀ q ∈ ib.pk, σ1[q.1]? = σ[q.1]? ∧ ρ1[q.1]? = some (some (.fr q.2))) → ∃ xs, SqL K H1 a xs ∧ RepL K B1 xs ib.ds
theorem wpm_map {α : Type} {g : Sl → Option α} {ρ : Sl} {Q : α → Sl → Prop} {E : Nat → Sl → Prop} (q : wpm (fun ρ => (g ρ).map fun a => Out.ok a ρ) ρ Q E) : ∃ a, g ρ = some a ∧ Q a ρ := by
  unfold wpm at q
  cases e : g ρ with
  | none =>
    simp only [e, Option.map_none] at q
  | some a =>
    simp only [e, Option.map_some] at q
    exact ⟨a, rfl, q⟩
theorem lsAt_of {K : PySem.W.Frag} {F B H : Hp} {σ : L2.St} {ρ : Sl} {v : V} {o : Op} {ib : Itb} (R : Rel K F B H σ ρ) (ov : OpV K B σ v o) (h : lsOf ρ o = some ib) : ∃ a xs, v = .ref a ∧ SqL K H a xs ∧ RepL K B xs ib.ds ∧ LsAt K B σ a ib := by
  have shr : ∀ {d : D} {l : List D}, Rep K B v d → (d = .lst l ∨ ∃ ns, d = .scr ns ∧ l = ns.map .int) → ∃ a xs, v = .ref a ∧ SqL K H a xs ∧ RepL K B xs l ∧ LsAt K B σ a ⟨l, []⟩ := fun {d l} r h => by
    rcases h with rfl | ⟨ns, rfl, rfl⟩
    · cases r with
      | @lst a xs _ hB rl => exact ⟨a, xs, rfl, SqL.of (R.exB _ _ hB), rl, fun F1 B1 H1 σ1 ρ1 R1 sm _ => ⟨xs, SqL.of (R1.exB _ _ (sm _ _ hB)), rl.mono sm _ _⟩⟩
    · cases r with
      | @scr a _ hB => exact ⟨a, _, rfl, R.exB.seq hB, RepL.ints _, fun F1 B1 H1 σ1 ρ1 R1 sm _ => ⟨_, R1.exB.seq (sm.seq hB), RepL.ints _⟩⟩
  cases ov with
  | @val d r =>
    unfold lsOf at h
    split at h
    · rename_i e
      cases e
      cases h
      exact shr r (.inl rfl)
    · rename_i e
      cases e
      cases h
      exact shr r (.inr ⟨_, rfl, rfl⟩)
    · rename_i e
      cases e
    · cases h
  | @slot i hs =>
    have h : (match ρ[i]? with
      | some (some (.ow (.lst l))) => some (⟨l, [(i, l)]⟩ : Itb)
      | some (some (.sh (.lst l))) => some ⟨l, []⟩
      | some (some (.sh (.scr l))) => some ⟨l.map .int, []⟩
      | _ => none) = some ib := h
    split at h
    · rename_i l e
      cases h
      have s := R.slot i _ e
      rw [hs] at s
      cases s with
      | @fr a o xs _ hF hB hH hO r =>
        cases hO
        refine ⟨a, xs, rfl, SqL.of hH, r, fun F1 B1 H1 σ1 ρ1 R1 sm g => ?_⟩
        obtain ⟨g1, g2⟩ := g (i, l) List.mem_cons_self
        have s1 := R1.slot i _ g2
        have g1 : σ1[i]? = σ[i]? := g1
        rw [g1, hs] at s1
        cases s1 with
        | fr hF hB hH hO r =>
          cases hO
          exact ⟨_, SqL.of hH, r⟩
    · rename_i l e
      cases h
      have s := R.slot i _ e
      rw [hs] at s
      cases s with
      | sh r => exact shr r (.inl rfl)
    · rename_i l e
      cases h
      have s := R.slot i _ e
      rw [hs] at s
      cases s with
      | sh r => exact shr r (.inr ⟨_, rfl, rfl⟩)
    · cases h
def liftI {α : Type} (a : M α) (g : α → Sl → Option Itb) : M Itb := bnd a fun o ρ => (g o ρ).map fun ib => .ok ib ρ
def jLs (o : Op) (ρ : Sl) : Option Itb := lsOf ρ o
def jTp (o : Op) (ρ : Sl) : Option Itb := match get ρ o with
  | some (.tup l) => some ⟨l, []⟩
  | _ => none
def RngOk (j : Int) : Prop := -(2 ^ 62) ≤ j ∧ j < 2 ^ 62
instance (j : Int) : Decidable (RngOk j) := by unfold RngOk; infer_instance
def rngD (lo : Int) (n : Nat) : List D := (List.range n).map fun k => .int (lo + (k : Nat))
def jR1 (os : List Op) (ρ : Sl) : Option Itb := match gets ρ os with
  | some [.int j] => if RngOk j then some ⟨rngD 0 j.toNat, []⟩ else none
  | _ => none
def jR2 (os : List Op) (ρ : Sl) : Option Itb := match gets ρ os with
  | some [.int i, .int j] => if RngOk i ∧ RngOk j then some ⟨rngD i (j - i).toNat, []⟩ else none
  | _ => none
def jRev (os : List Op) (ρ : Sl) : Option Itb := match os with
  | [o] => (lsOf ρ o).map fun ib => ⟨ib.ds.reverse, ib.pk⟩
  | _ => none
def zipD : List D → List D → List D
  | x :: xs, y :: ys => .tup [x, y] :: zipD xs ys
  | _, _ => []
def enumD : Nat → List D → List D
  | i, x :: xs => .tup [.int (i : Nat), x] :: enumD (i + 1) xs
  | _, [] => []
def jZp (os : List Op) (ρ : Sl) : Option Itb := match os with
  | [o, p] => (lsOf ρ o).bind fun x => (lsOf ρ p).map fun y => ⟨zipD x.ds y.ds, x.pk ++ y.pk⟩
  | _ => none
def jEn (os : List Op) (ρ : Sl) : Option Itb := match os with
  | [o] => (lsOf ρ o).map fun ib => ⟨enumD 0 ib.ds, ib.pk⟩
  | _ => none
def iLs (a : M Op) : M Itb := liftI a jLs
def iTp (a : M Op) : M Itb := liftI a jTp
def iR1 (as : M (List Op)) : M Itb := liftI as jR1
def iR2 (as : M (List Op)) : M Itb := liftI as jR2
def iRv (as : M (List Op)) : M Itb := liftI as jRev
def iZp (as : M (List Op)) : M Itb := liftI as jZp
def iEn (as : M (List Op)) : M Itb := liftI as jEn
section
variable {cv : Nat → Value} {X : Cx} {W : WX} {e a b tg : Expr} {te ta : TE} {ts : TA} {f : M Op} {fs : M (List Op)} {pos p : Pos}
theorem sni_list (h : SndO cv X W e te f) : SndI cv X W tg e (iList X.K te) (iLs f) := by
  refine ⟨pi_list h.pe, fun F B H σ ρ Q R q => ?_⟩
  refine h.ad F B H σ ρ _ R (wpm_mono (wpm_bnd q) (fun o ρ1 q v B1 H1 R1 sm1 ov => ?_) fun _ _ q => q)
  obtain ⟨ib, e1, q⟩ := wpm_map q
  obtain ⟨a, xs, rfl, hq, rl, at_⟩ := lsAt_of R1 ov e1
  refine ⟨a, rfl, ⟨xs, hq⟩, q _ B1 H1 R1 sm1 fun F2 B2 H2 σ2 ρ2 R2 sm2 g i => ?_⟩
  obtain ⟨ys, h1, r1⟩ := at_ F2 B2 H2 σ2 ρ2 R2 sm2 g
  refine ⟨fun d hd => ?_, fun hl => ⟨ys, h1, by rw [r1.length]; exact hl⟩⟩
  obtain ⟨y, hy, ry⟩ := r1.get hd
  refine ⟨⟨ys, y, h1, hy⟩, fun x H' hyd => ?_⟩
  obtain ⟨rfl, hx⟩ := hyd
  have := hx ys h1
  rw [hy] at this
  cases this
  exact ⟨B2, R2, Same.refl _, ry⟩
theorem itr_ok {K : PySem.W.Frag} {B : Hp} {σ : L2.St} {lo : Int} {n : Nat} : ItOk K B σ (Itr lo n) ⟨rngD lo n, []⟩ := fun F2 B2 H2 σ2 ρ2 R2 sm2 g i => by
  have hl : (rngD lo n).length = n := by unfold rngD; rw [List.length_map, List.length_range]
  refine ⟨fun d hd => ?_, fun h => ?_⟩
  · obtain ⟨hlt, e⟩ := List.getElem?_eq_some_iff.mp hd
    have hi : i < n := hl ▸ hlt
    refine ⟨hi, fun x H' hy => ?_⟩
    obtain ⟨rfl, rfl⟩ := hy
    have hd : (rngD lo n)[i]? = some d := hd
    unfold rngD at hd
    rw [List.getElem?_map, List.getElem?_range hi] at hd
    cases hd
    exact ⟨B2, R2, Same.refl _, .int _⟩
  · show n ≤ i
    have h' : (rngD lo n).length ≤ i := h
    rw [hl] at h'
    exact h'
theorem sni_r1 (hg : Gl X "range") (hm : X.mg "range" = none) (ha : SndA cv X W [a] ts fs) (hs : starEach [a] X.env = [(false, eval a X.env)] := by rfl) : SndI cv X W tg (.Call (.Name "range" p) [a] [] pos) (iRng1 ts) (iR1 fs) := by
  refine ⟨pi_range1 hg hm ha.pa hs, fun F B H σ ρ Q R q => ?_⟩
  refine ha.ad F B H σ ρ _ R (wpm_mono (wpm_bnd q) (fun o ρ1 q v B1 H1 R1 sm1 ov => ?_) fun _ _ q => q)
  obtain ⟨ib, e1, q⟩ := wpm_map q
  unfold jR1 at e1
  split at e1
  · rename_i j e2
    split at e1
    · rename_i hj
      cases e1
      obtain ⟨x, rfl, r⟩ := (ov.rep R1 e2).one
      cases r.int
      exact ⟨j, rfl, hj.1, hj.2, q _ B1 H1 R1 sm1 itr_ok⟩
    · cases e1
  · cases e1
theorem sni_r2 (hg : Gl X "range") (hm : X.mg "range" = none) (ha : SndA cv X W [a, b] ts fs) (hs : starEach [a, b] X.env = [(false, eval a X.env), (false, eval b X.env)] := by rfl) (hs2 : starEach [b] X.env = [(false, eval b X.env)] := by rfl) :
    SndI cv X W tg (.Call (.Name "range" p) [a, b] [] pos) (iRng2 ts) (iR2 fs) := by
  refine ⟨pi_range2 hg hm ha.pa hs hs2, fun F B H σ ρ Q R q => ?_⟩
  refine ha.ad F B H σ ρ _ R (wpm_mono (wpm_bnd q) (fun o ρ1 q v B1 H1 R1 sm1 ov => ?_) fun _ _ q => q)
  obtain ⟨ib, e1, q⟩ := wpm_map q
  unfold jR2 at e1
  split at e1
  · rename_i i j e2
    split at e1
    · rename_i hj
      cases e1
      obtain ⟨x, y, rfl, r, r'⟩ := (ov.rep R1 e2).two
      cases r.int
      cases r'.int
      exact ⟨i, j, rfl, ⟨hj.1.1, hj.1.2, hj.2.1, hj.2.2⟩, q _ B1 H1 R1 sm1 itr_ok⟩
    · cases e1
  · cases e1
theorem OpVs.one {K : PySem.W.Frag} {B : Hp} {σ : L2.St} {vs : List V} {o : Op} (h : OpVs K B σ vs [o]) : ∃ v, vs = [v] ∧ OpV K B σ v o := by
  cases h with
  | cons h t =>
    cases t
    exact ⟨_, rfl, h⟩
theorem OpVs.two {K : PySem.W.Frag} {B : Hp} {σ : L2.St} {vs : List V} {o p : Op} (h : OpVs K B σ vs [o, p]) : ∃ v w, vs = [v, w] ∧ OpV K B σ v o ∧ OpV K B σ w p := by
  cases h with
  | cons h t =>
    obtain ⟨w, rfl, r⟩ := t.one
    exact ⟨_, w, rfl, h, r⟩
theorem zipD_at : ∀ {xs ys : List D} {i : Nat} {d : D}, (zipD xs ys)[i]? = some d → ∃ x y, xs[i]? = some x ∧ ys[i]? = some y ∧ d = .tup [x, y]
  | x :: xs, y :: ys, 0, d, h => by
    unfold zipD at h
    have h' : D.tup [x, y] = d := by simpa using h
    exact ⟨x, y, rfl, rfl, h'.symm⟩
  | x :: xs, y :: ys, i + 1, d, h => by
    unfold zipD at h
    obtain ⟨x', y', h1, h2, h3⟩ := zipD_at (xs := xs) (ys := ys) (i := i) (d := d) (by simpa using h)
    exact ⟨x', y', by simpa using h1, by simpa using h2, h3⟩
  | [], ys, i, d, h => by
    unfold zipD at h
    simp at h
  | x :: xs, [], i, d, h => by
    unfold zipD at h
    simp at h
theorem zipD_len : ∀ {xs ys : List D} {i : Nat}, (zipD xs ys).length ≤ i → xs.length ≤ i ∨ ys.length ≤ i
  | x :: xs, y :: ys, 0, h => by
    unfold zipD at h
    simp at h
  | x :: xs, y :: ys, i + 1, h => by
    unfold zipD at h
    rcases zipD_len (xs := xs) (ys := ys) (i := i) (by simpa using h) with h | h
    · exact .inl (by simpa using h)
    · exact .inr (by simpa using h)
  | [], ys, i, h => .inl (Nat.zero_le _)
  | x :: xs, [], i, h => .inr (Nat.zero_le _)
theorem sni_zip {elts : List Expr} {kk : Nat} {tpos : Pos} (hg : Gl X "zip") (hm : X.mg "zip" = none) (ha : SndA cv X W [a, b] ts fs)
    (hs : starEach [a, b] X.env = (false, eval a X.env) :: starEach [b] X.env := by rfl) (hpl : (backTo pos (starEach [b] X.env)).any (·.1) = false := by rfl) :
    SndI cv X W (.Tuple elts kk tpos) (.Call (.Name "zip" p) [a, b] [] pos) (iZip X.K ts) (iZp fs) := by
  refine ⟨pi_zip hg hm ha.pa hs hpl, fun F B H σ ρ Q R q => ?_⟩
  refine ha.ad F B H σ ρ _ R (wpm_mono (wpm_bnd q) (fun os ρ1 q v B1 H1 R1 sm1 ov => ?_) fun _ _ q => q)
  obtain ⟨jb, e1, q⟩ := wpm_map q
  unfold jZp at e1
  split at e1
  · rename_i o o2
    cases e2 : lsOf ρ1 o with
    | none =>
      rw [e2] at e1
      cases e1
    | some ix =>
      cases e3 : lsOf ρ1 o2 with
      | none =>
        rw [e2, e3] at e1
        cases e1
      | some iy =>
        rw [e2, e3] at e1
        cases e1
        obtain ⟨x, y, rfl, ox, oy⟩ := ov.two
        obtain ⟨a, xs, rfl, hq, rl, at_⟩ := lsAt_of R1 ox e2
        obtain ⟨b, ys, rfl, hq', rl', at'⟩ := lsAt_of R1 oy e3
        refine ⟨a, b, xs, ys, rfl, hq, hq', q _ B1 H1 R1 sm1 fun F2 B2 H2 σ2 ρ2 R2 sm2 g i => ?_⟩
        obtain ⟨us, h1, r1⟩ := at_ F2 B2 H2 σ2 ρ2 R2 sm2 fun q hq => g q (List.mem_append_left _ hq)
        obtain ⟨ws, h2, r2⟩ := at' F2 B2 H2 σ2 ρ2 R2 sm2 fun q hq => g q (List.mem_append_right _ hq)
        refine ⟨fun d hd => ?_, fun hl => ⟨us, ws, h1, h2, by rw [r1.length, r2.length]; exact zipD_len hl⟩⟩
        obtain ⟨dx, dy, g1, g2, rfl⟩ := zipD_at hd
        obtain ⟨u, hu, ru⟩ := r1.get g1
        obtain ⟨z, hz, rz⟩ := r2.get g2
        refine ⟨⟨us, ws, u, z, h1, h2, hu, hz⟩, fun x H' hyd => ?_⟩
        obtain ⟨T, x1, y1, rfl, nT, rfl, f1, f2⟩ := hyd
        have e4 := f1 us h1
        rw [hu] at e4
        cases e4
        have e5 := f2 ws h2
        rw [hz] at e5
        cases e5
        obtain ⟨R3, sm3⟩ := R2.newB (o := .tup [u, z]) nT
        exact ⟨_, R3, sm3, .tup (.inl upd_same) (.cons (ru.mono sm3 _ _) (.cons (rz.mono sm3 _ _) .nil))⟩
  · cases e1
end
end Sim

namespace Sim
open PySem PySem.Spec PyProof.Rows L2

/-! ### for -/
/-- behind a turn's body: go on with k -/
def turnK (k : SM) : Option SO → Option SO
  | some (.nx ρ) => k ρ
  | some (.ct ρ) => k ρ
  | some (.bk ρ) => some (.nx ρ)
  | o => o
def forL (g : SV → Sl → Option Sl) (body : SM) : List D → SM
  | [] => sNx
  | d :: ds => fun ρ => (g (.sh d) ρ).bind fun ρ1 => turnK (forL g body ds) (body ρ1)
def sFor (it : M Itb) (g : SV → Sl → Option Sl) (body : SM) : SM := sEx it fun ib => if ib.pk = [] then forL g body ib.ds else fun _ => none
section
variable {cv : Nat → Value} {X : Cx} {W : WX} {e a b c tg iter : Expr} {st : Stmt} {sts as bs : List Stmt} {te ta tb : TE} {tc : TT} {t u : TS} {f : M SV} {m n : SM} {w w' : List Nat} {pos p p2 : Pos}
theorem sns_for {wi : TI} {tgt : TG} {g : SV → Sl → Option Sl} {it : M Itb} (hp : PassesOwn (model X.prog X.w) X.A X.env X.xe) (hc : X.calm = true) (hi : SndI cv X W tg iter wi it) (hg : SndG X tg tgt g w) (hb : SndSs cv X W sts t m w')
    (hs : ∀ x, foldedSetIterable iter X.env x = pure x := by intro _; rfl) : SndS cv X W (.For tg iter sts [] pos) (tFor wi tgt t) (sFor it g m) (w ++ w') := by
  refine ⟨ps_for hp hc hi.pi hg.pg hb.ps hs, fun F B H σ ρ D R q => ?_⟩
  refine hi.ad F B H σ ρ _ R (wpm_mono (ws_ex q) (fun ib ρ1 q J B1 H1 R1 sm ok => ?_) fun _ _ q => q)
  by_cases hpk : ib.pk = []
  · rw [if_pos hpk] at q
    refine ⟨fun i k σ2 H2 => k = ib.ds.length - i ∧ i ≤ ib.ds.length ∧ ∃ ρ2 B2, Rel X.K F B2 H2 σ2 ρ2 ∧ Same B1 B2 ∧ Agr (w ++ w') σ σ2 ∧ (wsOf cv W X.K F B σ (w ++ w') D).at (forL g m (ib.ds.drop i) ρ2),
      ⟨ib.ds.length, by simp, Nat.zero_le _, ρ1, B1, R1, Same.refl _, Agr.refl, by simpa using q⟩, ?_⟩
    rintro i k σ2 H2 ⟨rfl, hle, ρ2, B2, R2, sm2, ag2, q2⟩
    have ok2 := ok F B2 H2 σ2 ρ2 R2 sm2 (by rw [hpk]; exact fun q hq => nomatch hq) i
    by_cases hlt : i < ib.ds.length
    · obtain ⟨go, yl⟩ := ok2.1 _ (List.getElem?_eq_getElem hlt)
      rw [List.drop_eq_getElem_cons hlt] at q2
      refine .inr ⟨go, fun σ' H' => ∃ ρ' B', Rel X.K F B' H' σ' ρ' ∧ Same B1 B' ∧ Agr (w ++ w') σ σ' ∧ (wsOf cv W X.K F B σ (w ++ w') D).at (forL g m (ib.ds.drop (i + 1)) ρ'), fun σ' H' ⟨ρ', B', h1, h2, h3, h4⟩ => ⟨_, by omega, rfl, hlt, ρ', B', h1, h2, h3, h4⟩, fun x H' hy => ?_⟩
      obtain ⟨B3, R3, sm3, rep⟩ := yl x H' hy
      have q2 : (wsOf cv W X.K F B σ (w ++ w') D).at ((g (.sh ib.ds[i]) ρ2).bind fun ρ1 => turnK (forL g m (ib.ds.drop (i + 1))) (m ρ1)) := q2
      cases e1 : g (.sh ib.ds[i]) ρ2 with
      | none =>
        rw [e1] at q2
        exact q2.elim
      | some ρ3 =>
        rw [e1] at q2
        have q2 : (wsOf cv W X.K F B σ (w ++ w') D).at (turnK (forL g m (ib.ds.drop (i + 1))) (m ρ3)) := q2
        refine hg.ad F B3 H' σ2 ρ2 x _ ρ3 _ R3 (.sh rep) e1 fun σ3 R4 ag3 _ => ?_
        refine hb.ad F B3 H' σ3 ρ3 _ R4 ?_
        have agA : ∀ {σ4 : L2.St}, Agr w' σ3 σ4 → Agr (w ++ w') σ σ4 := fun a4 => ((ag2.tr (ag3.mono fun j h => List.mem_append_left _ h)).tr (a4.mono fun j h => List.mem_append_right _ h))
        have smA : ∀ {B4 : Hp}, Same B3 B4 → Same B1 B4 := fun s4 => (sm2.trans sm3).trans s4
        cases e2 : m ρ3 with
        | none =>
          rw [e2] at q2
          exact q2.elim
        | some o =>
          rw [e2] at q2
          cases o with
          | nx ρ4 => exact fun σ4 B4 H4 R5 s4 a4 => ⟨ρ4, B4, R5, smA s4, agA a4, q2⟩
          | ct ρ4 => exact fun σ4 B4 H4 R5 s4 a4 => ⟨ρ4, B4, R5, smA s4, agA a4, q2⟩
          | bk ρ4 => exact fun σ4 B4 H4 R5 s4 a4 => q2 σ4 B4 H4 R5 (sm.trans (smA s4)) (agA a4)
          | rt sv ρ4 => exact fun v σ4 B4 H4 R5 s4 a4 rv => q2 v σ4 B4 H4 R5 (sm.trans (smA s4)) (agA a4) rv
          | ex cx ρ4 => exact fun σ4 B4 H4 R5 s4 a4 => q2 σ4 B4 H4 R5 (sm.trans (smA s4)) (agA a4)
    · have ei : i = ib.ds.length := by omega
      refine .inl ⟨ok2.2 (by omega), ?_⟩
      rw [ei, List.drop_length] at q2
      exact q2 σ2 B2 H2 R2 (sm.trans sm2) ag2
  · rw [if_neg hpk] at q
    exact q.elim

/-! ### while -/
end
end Sim

namespace Sim
open PySem PySem.Spec PyProof.Rows L2

/-! ### a list that a slot owns is changed -/
theorem Rel.mutateO {K : PySem.W.Frag} {F B H : Hp} {σ : L2.St} {ρ : Sl} {i : Nat} {l : OC} (R : Rel K F B H σ ρ) (h : ρ[i]? = some (some (.ow l))) :
    ∃ a ho xs, σ[i]? = some (some (.ref a)) ∧ H a = some ho ∧ l.At K ho xs ∧ F a = none ∧ B a = none ∧ RepL K B xs l.ds ∧ ∀ ho' xs' l', OC.At K l' ho' xs' → RepL K B xs' l'.ds → Rel K F B (upd H a ho') σ (ρ.set i (some (.ow l'))) := by
  have s := R.slot i _ h
  generalize hg : σ[i]? = w at s
  cases s with
  | @fr a ho xs _ hF hB hH hO r =>
    refine ⟨a, ho, xs, rfl, hH, hO, hF, hB, r, fun ho' xs' l' hO' r' => ?_⟩
    have Rd : Rel K F B (upd H a ho') σ (ρ.set i none) := by
      refine ⟨fun b o e => ?_, fun b o e => ?_, R.dis, by rw [List.length_set]; exact R.len, fun j sv hj => ?_, (R.drop i).sep, R.tb.put fun u e => by rw [hH] at e; cases e; exact plain_at hO⟩
      · rw [upd_ne (fun z => by rw [z, hB] at e; cases e)]
        exact R.exB _ _ e
      · rw [upd_ne (fun z => by rw [z, hF] at e; cases e)]
        exact R.exF _ _ e
      · have s := (R.drop i).slot j sv hj
        generalize hgj : σ[j]? = wj at s
        cases s with
        | sh r => exact .sh r
        | @fr b o' ys ds hF' hB' hH' hO'' r'' =>
          refine .fr hF' hB' ?_ hO'' r''
          rw [upd_ne fun z => ?_]
          · exact hH'
          · subst z
            obtain ⟨n, oj⟩ := owns_set_none (σ := σ) (a := b) ⟨⟨_, hj⟩, hgj⟩
            exact n (R.sep j i b oj ⟨⟨_, h⟩, hg⟩)
    have f := Rd.put (v := .ref a) (i := i) (sv := .ow l') hg (.fr hF hB upd_same hO' r' fun j hj => by
      rw [List.set_set] at hj
      obtain ⟨n, oj⟩ := owns_set_none hj
      exact n (R.sep j i a oj ⟨⟨_, h⟩, hg⟩))
    rw [List.set_set] at f
    exact f
theorem Rel.mutate {K : PySem.W.Frag} {F B H : Hp} {σ : L2.St} {ρ : Sl} {i : Nat} {l : List D} (R : Rel K F B H σ ρ) (h : ρ[i]? = some (some (.fr l))) :
    ∃ a xs, σ[i]? = some (some (.ref a)) ∧ H a = some (.lst xs) ∧ B a = none ∧ RepL K B xs l ∧ ∀ xs' l', RepL K B xs' l' → Rel K F B (upd H a (.lst xs')) σ (ρ.set i (some (.fr l'))) := by
  obtain ⟨a, ho, xs, h1, h2, hO, _, h3, h4, h5⟩ := R.mutateO h
  have hO : ho = .lst xs := hO
  subst hO
  exact ⟨a, xs, h1, h2, h3, h4, fun xs' l' r' => h5 (.lst xs') xs' (.lst l') rfl r'⟩
/-- a method of a list, with its arguments' data -/
def OkM (K : PySem.W.Frag) (r : V → List V → Hp → VK → Prop) (g : List D → List D → Option (D × List D)) : Prop :=
  ∀ (B H : Hp) (a : Addr) (xs : List V) (l : List D) (vs : List V) (ds : List D) (d : D) (l' : List D) (Q : VK), Same B H → B a = none → H a = some (.lst xs) → RepL K B xs l → RepL K B vs ds → g l ds = some (d, l') →
    (∀ v xs', RepL K B xs' l' → Rep K B v d → Q v (upd H a (.lst xs'))) → r (.ref a) vs H Q
def mtK (i : Nat) (g : List D → List D → Option (D × List D)) (os : List Op) : M SV := fun ρ => match ρ[i]? with
  | some (some (.ow (.lst l))) => match vals os with
    | some ds => match g l ds with
      | some (d, l') => some (.ok (.sh d) (ρ.set i (some (.fr l'))))
      | none => none
    | none => none
  | _ => none
def vMt (i : Nat) (g : List D → List D → Option (D × List D)) (as : M (List Op)) : M SV := fun ρ => if isFr ρ i = true then bnd as (mtK i g) ρ else none
theorem wpm_mtK {i : Nat} {g : List D → List D → Option (D × List D)} {os : List Op} {ρ : Sl} {Q : SV → Sl → Prop} {E : Nat → Sl → Prop} (q : wpm (mtK i g os) ρ Q E) : ∃ l ds d l', ρ[i]? = some (some (.fr l)) ∧ vals os = some ds ∧ g l ds = some (d, l') ∧ Q (.sh d) (ρ.set i (some (.fr l'))) := by
  unfold wpm mtK at q
  cases e : ρ[i]? with
  | none =>
    simp only [e] at q
  | some o =>
    cases o with
    | none => simp only [e] at q
    | some sv =>
      cases sv with
      | sh d => simp only [e] at q
      | ow c =>
       cases c with
       | dk _ _ => simp only [e] at q
       | dt _ _ => simp only [e] at q
       | ob _ _ _ => simp only [e] at q
       | lst l =>
        simp only [e] at q
        cases e2 : vals os with
        | none => simp only [e2] at q
        | some ds =>
          simp only [e2] at q
          cases e3 : g l ds with
          | none => simp only [e3] at q
          | some r =>
            simp only [e3] at q
            exact ⟨l, ds, r.1, r.2, rfl, rfl, e3, q⟩
theorem isFr_at {ρ : Sl} {i : Nat} (h : isFr ρ i = true) : ∃ l, ρ[i]? = some (some (.fr l)) := by
  unfold isFr at h
  split at h
  · rename_i l e
    exact ⟨l, e⟩
  · cases h
def gApp (l : List D) : List D → Option (D × List D)
  | [d] => if l.length < 1000000 then some (.non, l ++ [d]) else none
  | _ => none
def gPop (l : List D) : List D → Option (D × List D)
  | [] => l[l.length - 1]?.map fun d => (d, l.dropLast)
  | _ => none
def gRvs (l : List D) : List D → Option (D × List D)
  | [] => some (.non, l.reverse)
  | _ => none
def gExt (l : List D) : List D → Option (D × List D)
  | [.lst m] => if l.length + m.length ≤ 1000000 then some (.non, l ++ m) else none
  | _ => none
section
variable {K : PySem.W.Frag}
theorem RepL.dropLast {H : Hp} {vs : List V} {ds : List D} (r : RepL K H vs ds) : RepL K H vs.dropLast ds.dropLast := by
  rw [List.dropLast_eq_take, List.dropLast_eq_take, r.length]
  exact r.take _
theorem okm_app : OkM K rAppend gApp := by
  intro B H a xs l vs ds d l' Q sB hB hH r rv hg q
  unfold gApp at hg
  split at hg
  · split at hg
    · rename_i hl
      cases hg
      cases rv with
      | cons rv rt =>
        cases rt
        exact ⟨a, xs, _, rfl, rfl, hH, by rw [r.length]; exact mill_lt hl, q _ _ (r.append (.cons rv .nil)) .non⟩
    · cases hg
  · cases hg
theorem okm_rvs : OkM K rReverse gRvs := by
  intro B H a xs l vs ds d l' Q sB hB hH r rv hg q
  unfold gRvs at hg
  split at hg
  · cases rv
    cases hg
    exact ⟨a, xs, rfl, rfl, hH, q _ _ r.reverse .non⟩
  · cases hg
end
section
variable {cv : Nat → Value} {X : Cx} {W : WX} {e a b o iter tg : Expr} {es : List Expr} {te ta tb : TE} {ts : TA} {f : M SV} {fa : M Op} {fs : M (List Op)} {pos apos p p2 : Pos}
theorem tyV_lst {K : PySem.W.Frag} {a : Addr} {xs : List V} {H : Hp} (h : H a = some (.lst xs)) : tyV K "list" (.ref a) H := Or.inl ⟨rfl, _, SqL.of h⟩
theorem adm_mt {i : Nat} {r : V → List V → Hp → VK → Prop} {g : List D → List D → Option (D × List D)} (ok : OkM X.K r g) (ha : SndA cv X W es ts fs) : Adm cv W X.K (tBM X.K "list" r (tVar i) ts) (vMt i g fs) (RV X.K) := by
  intro F B H σ ρ Q R q
  unfold wpm vMt at q
  by_cases hf : isFr ρ i = true
  · simp only [if_pos hf] at q
    obtain ⟨l0, h0⟩ := isFr_at hf
    obtain ⟨a, xs, hs, hH, hB, r, _⟩ := R.mutate h0
    refine ⟨.ref a, hs, tyV_lst hH, ?_⟩
    refine ha.ad F B H σ ρ _ R (wpm_mono (wpm_bnd q) (fun os ρ1 q vs B1 H1 R1 sm1 ov => ?_) fun _ _ q => q)
    obtain ⟨l, ds, d, l', e1, e2, e3, q⟩ := wpm_mtK q
    obtain ⟨a', xs', hs', hH', hB', r', mk⟩ := R1.mutate e1
    rw [hs] at hs'
    cases hs'
    refine ok B1 H1 a xs' l vs ds d l' Q R1.exB hB' hH' r' (ov.vals e2) e3 fun v ys ry rv => ?_
    exact q v B1 _ (mk ys l' ry) sm1 (.sh rv)
  · simp only [if_neg hf] at q
theorem adm_mt0 {i : Nat} {r : V → List V → Hp → VK → Prop} {g : List D → List D → Option (D × List D)} (ok : OkM X.K r g) : Adm cv W X.K (tBM0 X.K "list" r (tVar i)) (vMt i g aNil) (RV X.K) := by
  intro F B H σ ρ Q R q
  unfold wpm vMt at q
  by_cases hf : isFr ρ i = true
  · simp only [if_pos hf] at q
    have q2 : wpm (mtK i g []) ρ (fun a ρ' => ∀ v B' H', Rel X.K F B' H' σ ρ' → Same B B' → RV X.K F B' H' σ ρ' v a → Q v H') (fun c ρ' => ∀ B' H', Rel X.K F B' H' σ ρ' → Same B B' → W (cv c) none σ H') := q
    obtain ⟨l, ds, d, l', e1, e2, e3, q⟩ := wpm_mtK q2
    obtain ⟨a', xs', hs', hH', hB', r', mk⟩ := R.mutate e1
    cases e2
    exact ⟨.ref a', hs', tyV_lst hH', ok B H a' xs' l [] [] d l' Q R.exB hB' hH' r' .nil e3 fun v ys ry rv => q v B _ (mk ys l' ry) (Same.refl _) (.sh rv)⟩
  · simp only [if_neg hf] at q
/-- x[k] = e -/
def stK (i : Nat) (o p : Op) : SM := fun ρ => match o, p, ρ[i]? with
  | .val d, .val (.int k), some (some (.ow (.lst l))) => (ixN l.length k).map fun j => .nx (ρ.set i (some (.fr (l.set j d))))
  | _, _, _ => none
def frGuard (i : Nat) (m : SM) : SM := fun ρ => if isFr ρ i = true then m ρ else none
def sSetIx (i : Nat) (f k : M Op) : SM := sEx f fun o => frGuard i (sEx k fun p => stK i o p)
/-- xs[::-1] -/
def gRv : D → Option SV
  | .lst l => some (.fr l.reverse)
  | _ => none
def vRevL (a : M Op) : M SV := vOp1 gRv a
end
section
variable {cv : Nat → Value} {X : Cx} {W : WX} {e elt iter tg : Expr} {te : TE} {tt : TT} {f : M SV} {fa : M Op} {c : M Bool} {pos p p2 : Pos}

/-! ### comprehensions -/
def wipeS (ρ : Sl) : List Nat → Sl
  | [] => ρ
  | v :: vs => (wipeS ρ vs).set v none
def noFr (ρ : Sl) (vs : List Nat) : Prop := ∀ v ∈ vs, ∀ c, ρ[v]? ≠ some (some (.ow c))
def restS (ρ0 ρ : Sl) : List Nat → Sl
  | [] => ρ
  | v :: vs => (restS ρ0 ρ vs).set v (ρ0[v]?.getD none)
def pkOk (pk : List (Nat × List D)) (ρ : Sl) : Prop := ∀ q ∈ pk, ρ[q.1]? = some (some (.fr q.2))
open Classical in
noncomputable def lcL (vs : List Nat) (pk : List (Nat × List D)) (g : SV → Sl → Option Sl) (c : M Bool) (elt : M SV) : List D → List D → Sl → Option (List D × Sl)
  | [], acc, ρ => if pkOk pk (wipeS ρ vs) then some (acc, ρ) else none
  | d :: ds, acc, ρ => if pkOk pk (wipeS ρ vs) ∧ acc.length < 1000000 then
      match g (.sh d) (wipeS ρ vs) with
      | none => none
      | some ρ1 => match c ρ1 with
        | some (.ok true ρ2) => match elt ρ2 with
          | some (.ok sv ρ3) => lcL vs pk g c elt ds (acc ++ [sv.d]) ρ3
          | _ => none
        | some (.ok false ρ2) => lcL vs pk g c elt ds acc ρ2
        | _ => none
    else none
open Classical in
noncomputable def vLc (vs : List Nat) (it : M Itb) (g : SV → Sl → Option Sl) (c : M Bool) (elt : M SV) : M SV := bnd it fun ib ρ =>
  if noFr ρ vs ∧ (∀ q ∈ ib.pk, q.1 ∉ vs) ∧ pkOk ib.pk ρ then (lcL vs ib.pk g c elt ib.ds [] ρ).map fun r => .ok (.fr r.1) (restS ρ r.2 vs) else none
theorem wipeS_length (ρ : Sl) : ∀ vs : List Nat, (wipeS ρ vs).length = ρ.length
  | [] => rfl
  | v :: vs => by unfold wipeS; rw [List.length_set, wipeS_length ρ vs]
theorem restS_length (ρ0 ρ : Sl) : ∀ vs : List Nat, (restS ρ0 ρ vs).length = ρ.length
  | [] => rfl
  | v :: vs => by unfold restS; rw [List.length_set, restS_length ρ0 ρ vs]
theorem wipeS_some {ρ : Sl} {i : Nat} {x : SV} : ∀ {vs : List Nat}, (wipeS ρ vs)[i]? = some (some x) → ρ[i]? = some (some x) ∧ i ∉ vs
  | [], h => ⟨h, by simp⟩
  | v :: vs, h => by
    unfold wipeS at h
    by_cases hi : v = i
    · subst hi
      by_cases hv : v < (wipeS ρ vs).length
      · rw [List.getElem?_set_self hv] at h
        cases h
      · rw [List.getElem?_eq_none (by simpa using hv)] at h
        cases h
    · rw [List.getElem?_set_ne hi] at h
      obtain ⟨h1, h2⟩ := wipeS_some h
      refine ⟨h1, fun z => ?_⟩
      rcases List.mem_cons.mp z with z | z
      · exact hi z.symm
      · exact h2 z
theorem restS_some {ρ0 ρ : Sl} {i : Nat} {x : SV} : ∀ {vs : List Nat}, (restS ρ0 ρ vs)[i]? = some (some x) → (ρ[i]? = some (some x) ∧ i ∉ vs) ∨ (ρ0[i]? = some (some x) ∧ i ∈ vs)
  | [], h => .inl ⟨h, by simp⟩
  | v :: vs, h => by
    unfold restS at h
    by_cases hi : v = i
    · subst hi
      by_cases hv : v < (restS ρ0 ρ vs).length
      · rw [List.getElem?_set_self hv] at h
        refine .inr ⟨?_, List.mem_cons_self⟩
        cases e : ρ0[v]? with
        | none =>
          rw [e] at h
          cases h
        | some y =>
          rw [e] at h
          exact h
      · rw [List.getElem?_eq_none (by simpa using hv)] at h
        cases h
    · rw [List.getElem?_set_ne hi] at h
      rcases restS_some h with ⟨h1, h2⟩ | ⟨h1, h2⟩
      · refine .inl ⟨h1, fun z => ?_⟩
        rcases List.mem_cons.mp z with z | z
        · exact hi z.symm
        · exact h2 z
      · exact .inr ⟨h1, List.mem_cons_of_mem _ h2⟩
theorem Rel.wipe {K : PySem.W.Frag} {F B H : Hp} {σ : L2.St} {ρ : Sl} (R : Rel K F B H σ ρ) (vs : List Nat) : Rel K F B H (L2.wipe σ vs) (wipeS ρ vs) := by
  refine ⟨R.exB, R.exF, R.dis, by rw [wipeS_length, wipe_length]; exact R.len, fun i sv h => ?_, fun i j a h1 h2 => ?_, R.tb⟩
  · obtain ⟨h1, h2⟩ := wipeS_some h
    rw [wipe_out h2]
    exact R.slot i sv h1
  · obtain ⟨⟨l1, g1⟩, k1⟩ := h1
    obtain ⟨⟨l2, g2⟩, k2⟩ := h2
    obtain ⟨e1, n1⟩ := wipeS_some g1
    obtain ⟨e2, n2⟩ := wipeS_some g2
    rw [wipe_out n1] at k1
    rw [wipe_out n2] at k2
    exact R.sep i j a ⟨⟨l1, e1⟩, k1⟩ ⟨⟨l2, e2⟩, k2⟩
theorem wipe_eq {σ σ' : L2.St} : ∀ {vs : List Nat}, σ'.length = σ.length → Agr vs σ σ' → L2.wipe σ' vs = L2.wipe σ vs := fun {vs} hl ag => by
  refine List.ext_getElem? fun j => ?_
  by_cases hj : j ∈ vs
  · have key : ∀ (τ : L2.St) (us : List Nat), j ∈ us → (L2.wipe τ us)[j]? = if j < τ.length then some none else none := fun τ us => by
      induction us with
      | nil => exact fun z => nomatch z
      | cons u us ih =>
        intro hm
        unfold L2.wipe
        by_cases e : u = j
        · subst e
          by_cases hv : u < τ.length
          · rw [if_pos hv, List.getElem?_set_self (by rw [wipe_length]; exact hv)]
          · rw [if_neg hv]
            exact List.getElem?_eq_none (by rw [List.length_set, wipe_length]; omega)
        · rw [List.getElem?_set_ne e]
          exact ih ((List.mem_cons.mp hm).resolve_left fun z => e z.symm)
    rw [key σ' vs hj, key σ vs hj, hl]
  · rw [wipe_out hj, wipe_out hj]
    exact ag j hj
theorem Rel.grow {K : PySem.W.Frag} {F B H : Hp} {σ : L2.St} {ρ : Sl} {d : Addr} {xs ys : List V} (R : Rel K (upd F d (.lst xs)) B H σ ρ) : Rel K (upd F d (.lst ys)) B (upd H d (.lst ys)) σ ρ := by
  have hB : B d = none := R.dis d _ upd_same
  have hd : H d = some (.lst xs) := R.exF d _ upd_same
  have pl : ∀ u, H d = some u → PlainO u := fun u e => by rw [hd] at e; cases e; exact plain_lst
  refine ⟨fun a o e => ?_, fun a o e => ?_, fun a o e => ?_, R.len, fun i sv h => ?_, R.sep, (R.tb.put pl).both R.tb.nB fun p hp => ?_⟩
  rotate_left 4
  · have z := R.tb.ne hd (fun _ z => by cases z) hp
    have := R.tb.nF p hp
    rw [upd_ne z] at this ⊢
    exact this
  · rw [upd_ne fun z => by rw [z, hB] at e; cases e]
    exact R.exB _ _ e
  · by_cases z : a = d
    · subst z
      rw [upd_same] at e ⊢
      exact e
    · rw [upd_ne z] at e ⊢
      refine R.exF a o ?_
      rw [upd_ne z]
      exact e
  · by_cases z : a = d
    · rw [z]
      exact hB
    · rw [upd_ne z] at e
      refine R.dis a o ?_
      rw [upd_ne z]
      exact e
  · have s := R.slot i sv h
    generalize hg : σ[i]? = w at s
    cases s with
    | sh r => exact .sh r
    | @fr a o' xs' ds hF hB' hH hO r =>
      have z : a ≠ d := fun z => by
        rw [z, upd_same] at hF
        cases hF
      refine .fr ?_ hB' ?_ hO r
      · rw [upd_ne z] at hF ⊢
        exact hF
      · rw [upd_ne z]
        exact hH
theorem Rel.addF {K : PySem.W.Frag} {F B H : Hp} {σ : L2.St} {ρ : Sl} {d : Addr} {xs : List V} (R : Rel K F B H σ ρ) (hd : H d = none) : Rel K (upd F d (.lst xs)) B (upd H d (.lst xs)) σ ρ := by
  have R1 := R.new (o := .lst xs) hd
  refine ⟨R1.exB, fun a o e => ?_, fun a o e => ?_, R.len, fun i sv h => ?_, R.sep, R1.tb.toF upd_same fun _ z => by cases z⟩
  · by_cases z : a = d
    · subst z
      rw [upd_same] at e ⊢
      exact e
    · rw [upd_ne z] at e
      exact R1.exF _ _ e
  · by_cases z : a = d
    · rw [z]
      exact R.exB.free hd
    · rw [upd_ne z] at e
      exact R.dis a o e
  · have s := R.slot i sv h
    generalize hg : σ[i]? = w at s
    cases s with
    | sh r => exact .sh r
    | @fr a o' xs' ds hF hB' hH hO r =>
      have z : a ≠ d := fun z => by
        rw [z, hd] at hH
        cases hH
      refine .fr ?_ hB' ?_ hO r
      · rw [upd_ne z]
        exact hF
      · rw [upd_ne z]
        exact hH
theorem adm_lc {wi : TI} {tgt : TG} {it : M Itb} {g : SV → Sl → Option Sl} {w : List Nat} {vs : List Nat} (hi : AdmI cv W X.K wi it) (hg : AdmG X.K tgt g w) (hw : ∀ j, j ∈ w → j ∈ vs) (hc : Adm cv (fun _ _ _ _ => False) X.K tt c (fun _ _ _ _ _ b b' => b = b'))
    (he : Adm cv (fun _ _ _ _ => False) X.K te f (RV X.K)) : Adm cv W X.K (tLc wi tgt tt te vs) (vLc vs it g c f) (RV X.K) := by
  intro F B H σ ρ Q R q
  refine hi F B H σ ρ _ R (wpm_mono (wpm_bnd q) (fun ib ρ1 q J B1 H1 R1 sm1 ok => ?_) fun _ _ q => q)
  unfold wpm at q
  by_cases hcd : noFr ρ1 vs ∧ (∀ q ∈ ib.pk, q.1 ∉ vs) ∧ pkOk ib.pk ρ1
  · simp only [if_pos hcd] at q
    obtain ⟨nf, npk, pk1⟩ := hcd
    cases eL : lcL vs ib.pk g c f ib.ds [] ρ1 with
    | none =>
      simp only [eL, Option.map_none] at q
    | some res =>
      simp only [eL, Option.map_some] at q
      intro Da hD
      refine ⟨fun i k H2 => k = ib.ds.length - i ∧ i ≤ ib.ds.length ∧ ∃ ρ2 B2 accV acc, Rel X.K (upd F Da (.lst accV)) B2 H2 (L2.wipe σ vs) (wipeS ρ2 vs) ∧ Same B1 B2 ∧ RepL X.K B2 accV acc ∧ lcL vs ib.pk g c f (ib.ds.drop i) acc ρ2 = some res,
        ⟨ib.ds.length, by simp, Nat.zero_le _, ρ1, B1, [], [], (R1.wipe vs).addF hD, Same.refl _, .nil, by simpa using eL⟩, ?_⟩
      rintro i k H2 ⟨rfl, hle, ρ2, B2, accV, acc, R2, sm2, rl, e2⟩
      by_cases hlt : i < ib.ds.length
      · rw [List.drop_eq_getElem_cons hlt] at e2
        unfold lcL at e2
        by_cases hpk : pkOk ib.pk (wipeS ρ2 vs) ∧ acc.length < 1000000
        · rw [if_pos hpk] at e2
          have ok2 := ok _ B2 H2 _ _ R2 sm2 (fun q hq => ⟨wipe_out (npk q hq), hpk.1 q hq⟩) i
          obtain ⟨go, yl⟩ := ok2.1 _ (List.getElem?_eq_getElem hlt)
          refine .inr ⟨go, fun H' => ∃ ρ' B' accV' acc', Rel X.K (upd F Da (.lst accV')) B' H' (L2.wipe σ vs) (wipeS ρ' vs) ∧ Same B1 B' ∧ RepL X.K B' accV' acc' ∧ lcL vs ib.pk g c f (ib.ds.drop (i + 1)) acc' ρ' = some res,
            fun H' ⟨ρ', B', accV', acc', h1, h2, h3, h4⟩ => ⟨_, by omega, rfl, hlt, ρ', B', accV', acc', h1, h2, h3, h4⟩, fun x H' hy => ?_⟩
          obtain ⟨B3, R3, sm3, rep⟩ := yl x H' hy
          cases e3 : g (.sh ib.ds[i]) (wipeS ρ2 vs) with
          | none =>
            simp only [e3] at e2
            cases e2
          | some ρ3 =>
            simp only [e3] at e2
            refine hg _ B3 H' _ _ x _ ρ3 _ R3 (.sh rep) e3 fun σ3 R4 ag3 l3 => ?_
            have wp : L2.wipe σ3 vs = L2.wipe σ vs := by
              have h1 := wipe_eq (vs := vs) l3 (ag3.mono hw)
              have h2 : L2.wipe (L2.wipe σ vs) vs = L2.wipe σ vs := wipe_eq (wipe_length σ vs) fun j hj => wipe_out hj
              exact h1.trans h2
            refine ⟨wp, ?_⟩
            have back : ∀ {ρ5 : Sl} {B5 H5 : Hp} {av : List V}, Rel X.K (upd F Da (.lst av)) B5 H5 σ3 ρ5 → Rel X.K (upd F Da (.lst av)) B5 H5 (L2.wipe σ vs) (wipeS ρ5 vs) := fun {ρ5 B5 H5 av} R5 => by
              have h := R5.wipe vs
              rw [wp] at h
              exact h
            refine hc _ B3 H' σ3 ρ3 _ R4 ?_
            unfold wpm
            cases e4 : c ρ3 with
            | none =>
              simp only [e4] at e2
              cases e2
            | some o =>
              cases o with
              | ex cx ρ4 =>
                simp only [e4] at e2
                cases e2
              | ok b ρ4 =>
                intro b' B4 H4 R5 sm4 eb
                subst eb
                cases b' with
                | false =>
                  simp only [e4] at e2
                  exact ⟨ρ4, B4, accV, acc, back R5, (sm2.trans sm3).trans sm4, (rl.mono sm3 _ _).mono sm4 _ _, e2⟩
                | true =>
                  simp only [e4] at e2
                  refine he _ B4 H4 σ3 ρ4 _ R5 ?_
                  unfold wpm
                  cases e5 : f ρ4 with
                  | none =>
                    simp only [e5] at e2
                    cases e2
                  | some o =>
                    cases o with
                    | ex cx ρ5 =>
                      simp only [e5] at e2
                      cases e2
                    | ok sv ρ5 =>
                      intro y B5 H5 R6 sm5 rv
                      simp only [e5] at e2
                      obtain ⟨B6, R7, sm6, ry⟩ := rv.freeze R6
                      have hD5 : H5 Da = some (.lst accV) := R7.exF _ _ upd_same
                      have sm7 := (sm3.trans sm4).trans (sm5.trans sm6)
                      refine ⟨accV, hD5, ?_, ρ5, B6, accV ++ [y], acc ++ [sv.d], (back R7).grow, sm2.trans sm7, (rl.mono sm7 _ _).append (.cons ry .nil), e2⟩
                      rw [rl.length]
                      exact mill_lt hpk.2
        · rw [if_neg hpk] at e2
          cases e2
      · have ei : i = ib.ds.length := by omega
        rw [ei, List.drop_length] at e2
        unfold lcL at e2
        by_cases hpk : pkOk ib.pk (wipeS ρ2 vs)
        · rw [if_pos hpk] at e2
          cases e2
          have ok2 := ok _ B2 H2 _ _ R2 sm2 (fun q hq => ⟨wipe_out (npk q hq), hpk q hq⟩) i
          refine .inl ⟨ok2.2 (by omega), ?_⟩
          have hFD : F Da = none := R1.exF.free hD
          have hBD : B2 Da = none := R2.dis Da _ upd_same
          have ow : ∀ {j a}, Owns σ (restS ρ1 ρ2 vs) j a → Owns (L2.wipe σ vs) (wipeS ρ2 vs) j a := fun {j a} ⟨⟨l, g1⟩, g2⟩ => by
            rcases restS_some g1 with ⟨h1, h2⟩ | ⟨h1, h2⟩
            · refine ⟨⟨l, ?_⟩, by rw [wipe_out h2]; exact g2⟩
              have key : ∀ (us : List Nat), j ∉ us → (wipeS ρ2 us)[j]? = ρ2[j]? := fun us => by
                induction us with
                | nil => exact fun _ => rfl
                | cons u us ih =>
                  intro hm
                  unfold wipeS
                  rw [List.getElem?_set_ne fun z => hm (by rw [← z]; exact List.mem_cons_self)]
                  exact ih fun z => hm (List.mem_cons_of_mem _ z)
              rw [key vs h2]
              exact h1
            · exact (nf j h2 l h1).elim
          refine q (.ref Da) B2 H2 ⟨R2.exB, fun a o e => ?_, fun a o e => ?_, ?_, fun j sv h => ?_, fun j j' a o1 o2 => R2.sep j j' a (ow o1) (ow o2), R2.tb.both R2.tb.nB R.tb.nF⟩ (sm1.trans sm2) ?_
          · refine R2.exF a o ?_
            rw [upd_ne fun z => by rw [z, hFD] at e; cases e]
            exact e
          · refine R2.dis a o ?_
            rw [upd_ne fun z => by rw [z, hFD] at e; cases e]
            exact e
          · rw [restS_length, ← R.len]
            have h1 := R2.len
            rw [wipeS_length, wipe_length] at h1
            rw [h1]
            exact R.len.symm
          · rcases restS_some h with ⟨h1, h2⟩ | ⟨h1, h2⟩
            · have key : (wipeS ρ2 vs)[j]? = some (some sv) := by
                have key : ∀ (us : List Nat), j ∉ us → (wipeS ρ2 us)[j]? = ρ2[j]? := fun us => by
                  induction us with
                  | nil => exact fun _ => rfl
                  | cons u us ih =>
                    intro hm
                    unfold wipeS
                    rw [List.getElem?_set_ne fun z => hm (by rw [← z]; exact List.mem_cons_self)]
                    exact ih fun z => hm (List.mem_cons_of_mem _ z)
                rw [key vs h2]
                exact h1
              have s := R2.slot j sv key
              rw [wipe_out h2] at s
              generalize hgj : σ[j]? = wj at s
              cases s with
              | sh r => exact .sh r
              | @fr a o xs ds hF hB hH hO r =>
                refine .fr ?_ hB hH hO r
                by_cases z : a = Da
                · rw [z]
                  exact hFD
                · rw [upd_ne z] at hF
                  exact hF
            · have s := R1.slot j sv h1
              generalize hgj : σ[j]? = wj at s
              cases s with
              | sh r => exact .sh (r.mono sm2 _ _)
              | @fr a o xs ds hF hB hH hO r => exact (nf j h2 _ h1).elim
          · refine .fr hFD hBD (R2.exF _ _ upd_same) rfl rl fun j hj => ?_
            obtain ⟨_, xs, ds, _, hF, _⟩ := (ow hj).at R2
            rw [upd_same] at hF
            cases hF
        · rw [if_neg hpk] at e2
          cases e2
  · simp only [if_neg hcd] at q
abbrev W0 : WX := fun _ _ _ _ => False
theorem snd_lc {ifs : List Expr} {scope : Scope} {own : List (Str × Nat)} {wi : TI} {tgt : TG} {it : M Itb} {g : SV → Sl → Option Sl} {w : List Nat} (hca : X.calm = true) (hN : X.N.Nodup) (hi : SndI cv X W tg iter wi it) (ok : BlkOk X.N X.env.scope scope own)
    (hg : ∀ (s : Shared) (H : Hp) (C : Addr) (cl : List (Str × Addr)) (fp : List Addr), SndG (X.blk s H scope (compEnvC scope cl C X.env) fp) tg tgt g w)
    (ht : ∀ (s : Shared) (H : Hp) (C : Addr) (cl : List (Str × Addr)) (fp : List Addr), PTs (X.blk s H scope (compEnvC scope cl C X.env) fp) ifs tt ∧ Adm cv W0 X.K tt c (fun _ _ _ _ _ b b' => b = b'))
    (he : ∀ (s : Shared) (H : Hp) (C : Addr) (cl : List (Str × Addr)) (fp : List Addr), SndE cv (X.blk s H scope (compEnvC scope cl C X.env) fp) W0 elt te f)
    (s0 : Shared) (hw : ∀ j, j ∈ w → j ∈ own.map (·.2)) (hs : ∀ x, foldedSetIterable iter X.env x = pure x := by intro _; rfl) : SndE cv X W (.ListComp elt [⟨tg, iter, ifs, 0⟩] scope pos) (tLc wi tgt tt te (own.map (·.2))) (vLc (own.map (·.2)) it g c f) :=
  ⟨pe_lc hca hN hi.pi ok (fun s H C cl fp => (hg s H C cl fp).pg) (fun s H C cl fp => (ht s H C cl fp).1) (fun s H C cl fp => (he s H C cl fp).pe) hs,
    adm_lc hi.ad (hg s0 X.H_0 0 [] []).ad hw (ht s0 X.H_0 0 [] []).2 (he s0 X.H_0 0 [] []).ad⟩
theorem sns_setLc {i : Nat} {y : Str} {py spos : Pos} {ifs : List Expr} {scope : Scope} {own : List (Str × Nat)} {wi : TI} {tgt : TG} {it : M Itb} {g : SV → Sl → Option Sl} {w : List Nat} (hca : X.calm = true) (hN : X.N.Nodup) (hy : X.N[i]? = some y) (hyl : X.env.scope.names.lookup y = some .local)
    (hsw : swapsWith (.ListComp elt [⟨tg, iter, ifs, 0⟩] scope pos) (some (.Name y py)) spos.line X.env = pure true) (hi : SndI cv X W tg iter wi it) (ok : BlkOk X.N X.env.scope scope own)
    (hg : ∀ (s : Shared) (H : Hp) (C : Addr) (cl : List (Str × Addr)) (fp : List Addr), SndG (X.blk s H scope (compEnvC scope cl C X.env) fp) tg tgt g w)
    (ht : ∀ (s : Shared) (H : Hp) (C : Addr) (cl : List (Str × Addr)) (fp : List Addr), PTs (X.blk s H scope (compEnvC scope cl C X.env) fp) ifs tt ∧ Adm cv W0 X.K tt c (fun _ _ _ _ _ b b' => b = b'))
    (he : ∀ (s : Shared) (H : Hp) (C : Addr) (cl : List (Str × Addr)) (fp : List Addr), SndE cv (X.blk s H scope (compEnvC scope cl C X.env) fp) W0 elt te f)
    (s0 : Shared) (hw : ∀ j, j ∈ w → j ∈ own.map (·.2)) (hs : ∀ x, foldedSetIterable iter X.env x = pure x := by intro _; rfl) (hf : X.fn y = true ∨ X.env.scope.names.lookup y = some .local := by first | exact .inl rfl | exact .inr rfl | assumption) :
    SndS cv X W (.Assign [.Name y py] (.ListComp elt [⟨tg, iter, ifs, 0⟩] scope pos) spos) (tAsg (tLc wi tgt tt te (own.map (·.2))) (gName i)) (sAsg (vLc (own.map (·.2)) it g c f) (gN i)) [i] :=
  ⟨ps_setLc hca hN hy hyl hsw hi.pi ok (fun s H C cl fp => (hg s H C cl fp).pg) (fun s H C cl fp => (ht s H C cl fp).1) (fun s H C cl fp => (he s H C cl fp).pe) hs,
    adm_asg (adm_lc hi.ad (hg s0 X.H_0 0 [] []).ad hw (ht s0 X.H_0 0 [] []).2 (he s0 X.H_0 0 [] []).ad) (sng_name (pos := py) hN hy (.inl hyl) hf).ad⟩
theorem pts_no {X : Cx} {cv : Nat → Value} : PTs X [] tYes ∧ Adm cv W0 X.K tYes (ret true) (fun _ _ _ _ _ b b' => b = b') := ⟨pts_nil, fun F B H σ ρ Q R q => q true B H R (Same.refl _) rfl⟩
theorem pts_if {X : Cx} {cv : Nat → Value} {e : Expr} {t : TT} {m : M Bool} (h : SndB cv X W0 e t m) : PTs X [e] t ∧ Adm cv W0 X.K t m (fun _ _ _ _ _ b b' => b = b') := ⟨pts_one h.pt, h.ad⟩
end
end Sim

namespace Sim
open PySem PySem.Spec PyProof.Rows L2

/-! ### short words for what is printed -/
section
variable {cv : Nat → Value} {X : Cx} {W : WX} {e a b o iter tg : Expr} {es : List Expr} {st : Stmt} {te ta : TE} {ts : TA} {f : M SV} {fa : M Op} {fs : M (List Op)} {pos apos p p2 p3 : Pos}
variable {i : Nat}
theorem snd_m {name : Str} {id : String} {r : V → List V → Hp → VK → Prop} {g : List D → List D → Option (D × List D)} (slot : Slot "list" name id) (hty : typeOf (.builtin id) = pure (.type "method_descriptor")) (hm : MtR X id r) (ok : OkM X.K r g) (ho : PE X o (tVar i)) (ha : SndA cv X W (e :: es) ts fs)
    (hbase : attributeBase o name X.env (eval o X.env) = eval o X.env := by rfl)
    (hfew : ((backTo pos (starEach (e :: es) X.env)).all (fun x => !x.1) && (backToKw pos (keywordEach [] X.env)).all (fun x => x.1.isSome) && decide ((e :: es).length + ([] : List Keyword).length + (if ([] : List Keyword).isEmpty then 0 else 1) < 30)) = true := by rfl)
    (hline : (apos.endLine == pos.line) = true := by rfl) (hst : starEach (e :: es) X.env = (false, eval e X.env) :: starEach es X.env := by rfl) (hpl : (backTo pos (starEach es X.env)).any (·.1) = false := by rfl) :
    SndE cv X W (.Call (.Attribute o name apos) (e :: es) [] pos) (tBM X.K "list" r (tVar i) ts) (vMt i g fs) := ⟨pe_bm PySem.F.plainAttrs_list slot hty hm ho ha.pa hbase hfew hline hst hpl, adm_mt ok ha⟩
theorem snd_m0 {name : Str} {id : String} {r : V → List V → Hp → VK → Prop} {g : List D → List D → Option (D × List D)} (slot : Slot "list" name id) (hty : typeOf (.builtin id) = pure (.type "method_descriptor")) (hm : MtR X id r) (ok : OkM X.K r g) (ho : PE X o (tVar i))
    (hbase : attributeBase o name X.env (eval o X.env) = eval o X.env := by rfl) (hline : (apos.endLine == pos.line) = true := by rfl) :
    SndE cv X W (.Call (.Attribute o name apos) [] [] pos) (tBM0 X.K "list" r (tVar i)) (vMt i g aNil) := ⟨pe_bm0 PySem.F.plainAttrs_list slot hty hm ho hbase hline, adm_mt0 ok⟩
/-- xs[::-1] -/
theorem snd_revL {k : Nat} (ha : SndO cv X W e te fa) : SndE cv X W (.Subscript e (.Slice none none (some (.UnaryOp .USub (.Constant (.int 1) k p) p2)) p3) pos) (tRevL X.K te) (vRevL fa) := by
  refine ⟨pe_revL ha.pe, fun F B H σ ρ Q R q => ?_⟩
  refine ha.ad F B H σ ρ _ R (wpm_mono (wpm_bnd q) (fun o ρ1 q v B1 H1 R1 sm1 ov => ?_) fun _ _ q => q)
  obtain ⟨d, sv, e1, e2, q⟩ := wpm_lift1 q
  unfold gRv at e2
  split at e2
  · cases e2
    obtain ⟨a, xs, rfl, h1, r1⟩ := (ov.rep R1 e1).lst R1.exB
    exact ⟨a, xs, rfl, SqL.of h1, fun p hp => q _ _ _ (R1.new hp) sm1 (RV.newL R1 hp r1.reverse)⟩
  · cases e2
end

/-! ### the text's defs as they stand -/
structure DefAt (K : PySem.W.Frag) (mg : Str → Option Value) (x : Str) (st : Stmt) (ps : List Str) : Prop where
  ex : ∃ f fd, Fun K x x st f fd ∧ mg x = some (.ref f) ∧ Binds K fd ps []
def Has (P : Program) (w : World) (K : PySem.W.Frag) (mg : Str → Option Value) (base : Heap) (cv : Nat → Value) (k n : Nat) (io : Option Nat) (Φ : List D → Option CR) (x : Str) (ps : List Str) : Prop :=
  ∃ f fd, FnOk P w K mg base (L2N.CX P w) k f fd ps (spI cv K n io Φ) ∧ mg x = some (.ref f) ∧ PySem.W.keepIn K (.ref f) = true ∧ Binds K fd ps [] ∧ ∃ oc od osl, K.lookup f = some ⟨oc, od, .func fd, osl⟩
theorem fun_look {K : PySem.W.Frag} {x qual : Str} {st : Stmt} {f : Addr} {fd : FuncData} (F : Fun K x qual st f fd) : ∃ oc od osl, K.lookup f = some ⟨oc, od, .func fd, osl⟩ := by
  obtain ⟨oc, od, kV, doc, pm, an, cdv, ct, osl, e, l, c⟩ := F.ex
  exact ⟨oc, od, osl, l⟩
theorem defAt_mk {K : PySem.W.Frag} {h : Heap} {mg : Str → Option Value} {x : Str} {st : Stmt} {ps : List Str} {f : Addr} {od an : Option Addr} {sl : Array (Option Value)} {oc kV dc pm cd ct : Value} (X : K.In h) (G : h.Ns mainGlobals mg)
    (a : PySem.W.nsIn K mainGlobals x = some (some (.ref f))) (l : K.lookup f = some ⟨oc, od, .func (PySem.W.fnOf x x (defArgs st) (defBody st) (defScope st) .none kV dc pm an cd ct), sl⟩) (c : PySem.W.codeIn K cd x = true) (k : PySem.W.keepIn K (.ref f) = true)
    (b : ∀ (kV doc pm : Value) (an : Option Addr) (cdv ct : Value) (us : List Value), us.length = ps.length → bindArgs (PySem.W.fnOf x x (defArgs st) (defBody st) (defScope st) .none kV doc pm an cdv ct) ⟨us, []⟩ = pure (ps.zip us)) : DefAt K mg x st ps := by
  have F := fun_mk (st := st) l c k
  exact ⟨_, _, F, PySem.W.mg_of X G a, F.binds b⟩
theorem with_def {R : Prop} {K : PySem.W.Frag} {h : Heap} {mg : Str → Option Value} {x : Str} {st : Stmt} {ps : List Str} {f : Addr} {od an : Option Addr} {sl : Array (Option Value)} {oc kV dc pm cd ct : Value} (X : K.In h) (G : h.Ns mainGlobals mg)
    (a : PySem.W.nsIn K mainGlobals x = some (some (.ref f))) (l : K.lookup f = some ⟨oc, od, .func (PySem.W.fnOf x x (defArgs st) (defBody st) (defScope st) .none kV dc pm an cd ct), sl⟩) (c : PySem.W.codeIn K cd x = true) (k : PySem.W.keepIn K (.ref f) = true)
    (b : ∀ (kV doc pm : Value) (an : Option Addr) (cdv ct : Value) (us : List Value), us.length = ps.length → bindArgs (PySem.W.fnOf x x (defArgs st) (defBody st) (defScope st) .none kV doc pm an cdv ct) ⟨us, []⟩ = pure (ps.zip us)) (n : DefAt K mg x st ps → R) : R := n (defAt_mk X G a l c k b)
theorem with_no {R : Prop} {K : PySem.W.Frag} {h : Heap} {mg : Str → Option Value} {x : Str} (X : K.In h) (G : h.Ns mainGlobals mg) (a : PySem.W.nsIn K mainGlobals x = some none) (n : mg x = none → R) : R := n (PySem.W.mg_none_of X G a)
/-- the law's own promise -/
def spLaw (K : PySem.W.Frag) : Sp := fun vs H Q _ => ∃ (a : Addr) (ns : List Int), vs = [.ref a] ∧ SqL K H a (ns.map V.int) ∧ ns.length ≤ 63 ∧ LamX.Tabs lamT H ∧ ∀ H', Q (.bl true) H'
theorem spLaw_of {K : PySem.W.Frag} {cv : Nat → Value} {Φ : List D → Option CR} (plain : ∀ ns : List Int, ns.length ≤ 63 → Φ [.scr ns] = some (.ret (.sh (.bl true)) [])) {vs : List V} {H : Hp} {Q : VK} {E : XK} (h : spLaw K vs H Q E) : spI cv K 1 none Φ vs H Q E := by
  obtain ⟨a, ns, rfl, hS, hl, tb, q⟩ := h
  have hS : SqL K (noT H) a (ns.map V.int) := by
    rcases hS with (hS | ⟨o, hS⟩) | hS
    · exact .inl (.inl ((noT_no (notT tb hS)).trans hS))
    · exact .inl (.inr ⟨o, (noT_no (notT tb hS)).trans hS⟩)
    · exact .inr hS
  refine ⟨rfl, [.scr ns], _, fun _ => none, noT H, none, plain ns hl, noT_same, (fun _ _ e => nomatch e), ⟨(fun _ _ e => nomatch e), tb, fun p hp => noT_at ⟨p, hp, rfl⟩, fun _ _ => rfl⟩, ⟨rfl, fun i v d hv hd _ => ?_, (fun i e => nomatch e), fun _ => rfl⟩, fun v B' H' _ _ _ _ _ cr => ?_⟩
  · cases i with
    | zero =>
      cases hv
      cases hd
      exact .scr hS
    | succ i => simp at hv
  · cases cr with
    | sh r =>
      cases r
      exact q _
theorem law_mk {P : Program} {w : World} {K : PySem.W.Frag} {h : Heap} {mg : Str → Option Value} {y x : Str} {st : Stmt} {CX : CXT} {kk : Nat} {sp : Sp} {fa f : Addr} {od an : Option Addr} {sl : Array (Option Value)} {oc kV dc pm cd ct : Value} (X : K.In h) (G : h.Ns mainGlobals mg) (hfa : mg y = some (.ref fa))
    (a : PySem.W.nsIn K mainGlobals y = some (some (.ref f))) (l : K.lookup f = some ⟨oc, od, .func (PySem.W.fnOf y y (defArgs st) (defBody st) (defScope st) .none kV dc pm an cd ct), sl⟩) (c : PySem.W.codeIn K cd y = true) (k : PySem.W.keepIn K (.ref f) = true)
    (b : ∀ (kV doc pm : Value) (an : Option Addr) (cdv ct : Value) (us : List Value), us.length = ([x] : List Str).length → bindArgs (PySem.W.fnOf y y (defArgs st) (defBody st) (defScope st) .none kV doc pm an cdv ct) ⟨us, []⟩ = pure (([x] : List Str).zip us))
    (bt : ∀ (kV doc pm : Value) (an : Option Addr) (cdv ct : Value) (s : Shared) (v : Value), BindsTo s (PySem.W.fnOf y y (defArgs st) (defBody st) (defScope st) .none kV doc pm an cdv ct) ⟨[v], []⟩ [(x, v)])
    (H : ∀ base : Heap, K.In base → DefAt K mg y st [x] → K.lookup fa = some ⟨oc, od, .func (PySem.W.fnOf y y (defArgs st) (defBody st) (defScope st) .none kV dc pm an cd ct), sl⟩ → FnOk P w K mg base CX kk fa (PySem.W.fnOf y y (defArgs st) (defBody st) (defScope st) .none kV dc pm an cd ct) [x] sp) :
    ∃ fd : FuncData, (∀ (s : Shared) (u : Value), BindsTo s fd ⟨[u], []⟩ [(x, u)]) ∧ ∀ base : Heap, K.In base → base.Ns mainGlobals mg → FnOk P w K mg base CX kk fa fd [x] sp := by
  have e := hfa.symm.trans (PySem.W.mg_of X G a)
  cases e
  exact ⟨_, fun s v => bt _ _ _ _ _ _ s v, fun base hb _ => H base hb (defAt_mk X G a l c k b) l⟩
theorem has_law {P : Program} {w : World} {K : PySem.W.Frag} {mg : Str → Option Value} {base : Heap} {cv : Nat → Value} {k : Nat} {Φ : List D → Option CR} {x : Str} {ps : List Str} {fa : Addr} {fd : FuncData} {oc : Value} {od : Option Addr} {osl : Array (Option Value)} (H : Has P w K mg base cv k 1 none Φ x ps) (hmg : mg x = some (.ref fa))
    (lk : K.lookup fa = some ⟨oc, od, .func fd, osl⟩) (plain : ∀ ns : List Int, ns.length ≤ 63 → Φ [.scr ns] = some (.ret (.sh (.bl true)) [])) : FnOk P w K mg base (L2N.CX P w) k fa fd ps (spLaw K) := by
  obtain ⟨f, fd', G, m, _, _, oc', od', osl', lk'⟩ := H
  rw [hmg] at m
  cases m
  rw [lk] at lk'
  cases lk'
  exact G.imp fun vs H Q E h => spLaw_of plain h
theorem cx_no {P : Program} {w : World} {H : Hp} {s : Shared} {e : Value} {s' : Shared} (h : L2N.CX P w [] H s (fun _ _ _ => False) e s') : False := by
  obtain ⟨_, _, _, _, _, _, _, _, _, _, _, _, h⟩ := h
  exact h
section
variable {cv : Nat → Value} {X : Cx} {W : WX} {elt iter tg : Expr}
theorem snd_lc2 {pos : Pos} {ifs : List Expr} {scope : Scope} {own : List (Str × Nat)} {wi : TI} {tgt : TG} {it : M Itb} {g : SV → Sl → Option Sl} {w : List Nat} {c : M Bool} {f : M SV} {te : Shared → Hp → Addr → List (Str × Addr) → List Addr → TE} {tt : Shared → Hp → Addr → List (Str × Addr) → List Addr → TT} (hca : X.calm = true) (hN : X.N.Nodup) (hi : SndI cv X W tg iter wi it) (ok : BlkOk X.N X.env.scope scope own)
    (hg : ∀ (s : Shared) (H : Hp) (C : Addr) (cl : List (Str × Addr)) (fp : List Addr), SndG (X.blk s H scope (compEnvC scope cl C X.env) fp) tg tgt g w)
    (ht : ∀ (s : Shared) (H : Hp) (C : Addr) (cl : List (Str × Addr)) (fp : List Addr), PTs (X.blk s H scope (compEnvC scope cl C X.env) fp) ifs (tt s H C cl fp) ∧ Adm cv W0 X.K (tt s H C cl fp) c (fun _ _ _ _ _ b b' => b = b'))
    (he : ∀ (s : Shared) (H : Hp) (C : Addr) (cl : List (Str × Addr)) (fp : List Addr), SndE cv (X.blk s H scope (compEnvC scope cl C X.env) fp) W0 elt (te s H C cl fp) f)
    (s0 : Shared) (hw : ∀ j, j ∈ w → j ∈ own.map (·.2)) (hte : ∀ (s : Shared) (H : Hp) (C : Addr) (cl : List (Str × Addr)) (fp : List Addr), te s H C cl fp = te s0 X.H_0 0 [] []) (htt : ∀ (s : Shared) (H : Hp) (C : Addr) (cl : List (Str × Addr)) (fp : List Addr), tt s H C cl fp = tt s0 X.H_0 0 [] []) (hs : ∀ x, foldedSetIterable iter X.env x = pure x := by intro _; rfl) : SndE cv X W (.ListComp elt [⟨tg, iter, ifs, 0⟩] scope pos) (tLc wi tgt (tt s0 X.H_0 0 [] []) (te s0 X.H_0 0 [] []) (own.map (·.2))) (vLc (own.map (·.2)) it g c f) :=
  snd_lc hca hN hi ok hg (fun s H C cl fp => htt s H C cl fp ▸ ht s H C cl fp) (fun s H C cl fp => hte s H C cl fp ▸ he s H C cl fp) s0 hw hs
theorem sns_setLc2 {i : Nat} {y : Str} {py spos : Pos} {pos : Pos} {ifs : List Expr} {scope : Scope} {own : List (Str × Nat)} {wi : TI} {tgt : TG} {it : M Itb} {g : SV → Sl → Option Sl} {w : List Nat} {c : M Bool} {f : M SV} {te : Shared → Hp → Addr → List (Str × Addr) → List Addr → TE} {tt : Shared → Hp → Addr → List (Str × Addr) → List Addr → TT} (hca : X.calm = true) (hN : X.N.Nodup) (hy : X.N[i]? = some y) (hyl : X.env.scope.names.lookup y = some .local)
    (hsw : swapsWith (.ListComp elt [⟨tg, iter, ifs, 0⟩] scope pos) (some (.Name y py)) spos.line X.env = pure true) (hi : SndI cv X W tg iter wi it) (ok : BlkOk X.N X.env.scope scope own)
    (hg : ∀ (s : Shared) (H : Hp) (C : Addr) (cl : List (Str × Addr)) (fp : List Addr), SndG (X.blk s H scope (compEnvC scope cl C X.env) fp) tg tgt g w)
    (ht : ∀ (s : Shared) (H : Hp) (C : Addr) (cl : List (Str × Addr)) (fp : List Addr), PTs (X.blk s H scope (compEnvC scope cl C X.env) fp) ifs (tt s H C cl fp) ∧ Adm cv W0 X.K (tt s H C cl fp) c (fun _ _ _ _ _ b b' => b = b'))
    (he : ∀ (s : Shared) (H : Hp) (C : Addr) (cl : List (Str × Addr)) (fp : List Addr), SndE cv (X.blk s H scope (compEnvC scope cl C X.env) fp) W0 elt (te s H C cl fp) f)
    (s0 : Shared) (hw : ∀ j, j ∈ w → j ∈ own.map (·.2)) (hte : ∀ (s : Shared) (H : Hp) (C : Addr) (cl : List (Str × Addr)) (fp : List Addr), te s H C cl fp = te s0 X.H_0 0 [] []) (htt : ∀ (s : Shared) (H : Hp) (C : Addr) (cl : List (Str × Addr)) (fp : List Addr), tt s H C cl fp = tt s0 X.H_0 0 [] []) (hs : ∀ x, foldedSetIterable iter X.env x = pure x := by intro _; rfl) (hf : X.fn y = true ∨ X.env.scope.names.lookup y = some .local := by first | exact .inl rfl | exact .inr rfl | assumption) :
    SndS cv X W (.Assign [.Name y py] (.ListComp elt [⟨tg, iter, ifs, 0⟩] scope pos) spos) (tAsg (tLc wi tgt (tt s0 X.H_0 0 [] []) (te s0 X.H_0 0 [] []) (own.map (·.2))) (gName i)) (sAsg (vLc (own.map (·.2)) it g c f) (gN i)) [i] :=
  sns_setLc hca hN hy hyl hsw hi ok hg (fun s H C cl fp => htt s H C cl fp ▸ ht s H C cl fp) (fun s H C cl fp => hte s H C cl fp ▸ he s H C cl fp) s0 hw hs hf
end
end Sim

namespace Sim
open PySem PySem.Spec PyProof.Rows L2
/-! ### equations for running by hand -/
theorem gMul_ok {i j : Int} (h : MulOk i j) : gMul (.int i) (.int j) = some (.sh (.int (i * j))) := if_pos h
theorem gDiv_pos {i j : Int} (h : 0 < j) (h2 : j.natAbs.log2 < 9000) : gDiv (.int i) (.int j) = some (.sh (.int (i / j))) := by
  show (if DivOk i j then some (SV.sh (.int (i.fdiv j))) else none) = _
  rw [if_pos ⟨by omega, h2⟩, Int.fdiv_eq_ediv_of_nonneg _ (by omega)]
theorem gMod_pos {i j : Int} (h : 0 < j) : gMod (.int i) (.int j) = some (.sh (.int (i % j))) := by
  show (if j ≠ 0 then some (SV.sh (.int (i.fmod j))) else none) = _
  rw [if_pos (by omega), Int.fmod_eq_emod_of_nonneg _ (by omega)]
theorem mulOk_l {i j : Int} (h1 : -(2 ^ 64) < i) (h2 : i < 2 ^ 64) : MulOk i j := .inl ⟨h1, h2⟩
theorem mulOk_r {i j : Int} (h1 : -(2 ^ 64) < j) (h2 : j < 2 ^ 64) : MulOk i j := .inr (.inl ⟨h1, h2⟩)
theorem log2_lt {n k : Nat} (h : n < 2 ^ k) (hk : 0 < k) : n.log2 < k := by
  rcases Nat.eq_zero_or_pos n with rfl | hn
  · have e : Nat.log2 0 = 0 := by decide
    rw [e]
    exact hk
  · exact (Nat.log2_lt (by omega)).mpr h
/-- two numbers below 2^400000 -/
theorem mulOk_big {i j : Int} {k m : Nat} (h1 : i.natAbs < 2 ^ k) (h2 : j.natAbs < 2 ^ m) (hk : 0 < k) (hm : 0 < m) (h : k + m ≤ 1000000) : MulOk i j := by
  refine .inr (.inr ?_)
  have a := log2_lt h1 hk
  have b := log2_lt h2 hm
  omega
theorem log_9000 {j : Int} {k : Nat} (h : j.natAbs < 2 ^ k) (hk : 0 < k) (h9 : k ≤ 9000) : j.natAbs.log2 < 9000 := Nat.lt_of_lt_of_le (log2_lt h hk) h9
theorem atI_0 {α : Type} {x : α} {l : List α} : atI (x :: l) (0 : Int) = some x := atI_nat (j := 0) rfl
theorem atI_1 {α : Type} {x y : α} {l : List α} : atI (x :: y :: l) (1 : Int) = some y := atI_nat (j := 1) rfl
theorem atI_2 {α : Type} {x y z : α} {l : List α} : atI (x :: y :: z :: l) (2 : Int) = some z := atI_nat (j := 2) rfl
theorem atI_3 {α : Type} {x y z u : α} {l : List α} : atI (x :: y :: z :: u :: l) (3 : Int) = some u := atI_nat (j := 3) rfl
theorem bnd_ok {α β : Type} {f : M α} {k : α → M β} {ρ ρ' : Sl} {a : α} (h : f ρ = some (.ok a ρ')) : bnd f k ρ = k a ρ' := by
  unfold bnd
  rw [h]
theorem forL_cons {g : SV → Sl → Option Sl} {body : SM} {d : D} {ds : List D} {ρ ρ1 ρ2 : Sl} (h1 : g (.sh d) ρ = some ρ1) (h2 : body ρ1 = some (.nx ρ2)) : forL g body (d :: ds) ρ = forL g body ds ρ2 := by
  show ((g (.sh d) ρ).bind fun ρ1 => turnK (forL g body ds) (body ρ1)) = _
  rw [h1]
  show turnK (forL g body ds) (body ρ1) = _
  rw [h2]
  rfl
end Sim

namespace Sim
open PySem PySem.Spec PyProof.Rows L2
/-! ### the runs, applied: each step once what it stands on is known -/
def seqK (n : SM) : Option SO → Option SO
  | some (.nx ρ) => n ρ
  | o => o
def exK {α : Type} (k : α → SM) : Option (Out α) → Option SO
  | none => none
  | some (.ex c ρ) => some (.ex c ρ)
  | some (.ok a ρ) => k a ρ
def bnK {α β : Type} (k : α → M β) : Option (Out α) → Option (Out β)
  | none => none
  | some (.ex c ρ) => some (.ex c ρ)
  | some (.ok a ρ) => k a ρ
def okK (ρ : Sl) (o : Option SV) : Option (Out SV) := o.map fun sv => .ok sv ρ
def varK (i : Nat) (ρ : Sl) : Option (Option SV) → Option (Out SV)
  | some (some (.sh d)) => some (.ok (.sh d) ρ)
  | some (some (.ow c)) => some (.ok (.sh c.d) (ρ.set i (some (.sh c.d))))
  | _ => none
def mvK (i : Nat) (ρ : Sl) : Option (Option SV) → Option (Out SV)
  | some (some (.sh d)) => some (.ok (.sh d) ρ)
  | some (some (.ow c)) => some (.ok (.ow c) (ρ.set i none))
  | _ => none
def pkK (i : Nat) (ρ : Sl) : Option (Option SV) → Option (Out Op)
  | some (some _) => some (.ok (.slot i) ρ)
  | _ => none
def sdK : Option (Option SV) → Option D
  | some (some sv) => some sv.d
  | _ => none
def l1K (g : D → Option SV) (ρ : Sl) : Option D → Option (Out SV)
  | some x => okK ρ (g x)
  | none => none
def l2K (g : D → D → Option SV) (ρ : Sl) : Option D → Option D → Option (Out SV)
  | some x, some y => okK ρ (g x y)
  | _, _ => none
def lAK (g : List D → Option SV) (ρ : Sl) : Option (List D) → Option (Out SV)
  | some x => okK ρ (g x)
  | none => none
def gsK : Option D → Option (List D) → Option (List D)
  | some d, some ds => some (d :: ds)
  | _, _ => none
def tsK : Option (Out SV) → Option (Out Bool)
  | some (.ok (.sh (.bl b)) ρ) => some (.ok b ρ)
  | some (.ex c ρ) => some (.ex c ρ)
  | _ => none
def tpK (ρ : Sl) : Option (List D) → Option (Out SV)
  | some ds => if ds.length ≤ 1000000 then some (.ok (.sh (.tup ds)) ρ) else none
  | none => none
def lsK (ρ : Sl) : Option (List D) → Option (Out SV)
  | some ds => if ds.length ≤ 1000000 then some (.ok (.fr ds) ρ) else none
  | none => none
def clK (io : Option Nat) (Φ : List D → Option CR) (os : List Op) (ρ : Sl) : Option (List D) → Option (Out SV)
  | none => none
  | some ds => match Φ ds with
    | none => none
    | some res => if (ioOk io os ρ && (noBr io os ρ || resOk io os ρ res)) = true then some (outOf io os ρ res) else none
def rsK (io : Option Nat) (os : List Op) (ρ : Sl) : Option CR → Option (Out SV)
  | none => none
  | some res => if (ioOk io os ρ && (noBr io os ρ || resOk io os ρ res)) = true then some (outOf io os ρ res) else none
def ioK (io : Option Nat) (os : List Op) (ρ : Sl) : Option Nat → Bool
  | some i => isFr ρ i && !(brs io os).contains i
  | none => false
def puK (out : List D) (ρ : Sl) : Option Nat → Sl
  | some i => ρ.set i (some (.fr out))
  | none => ρ
def r1K (ρ : Sl) : Option (List D) → Option (Out Itb)
  | some [.int j] => (if RngOk j then some (Itb.mk (rngD 0 j.toNat) []) else none).map fun ib => .ok ib ρ
  | _ => none
def r2K (ρ : Sl) (x : Option (List D)) : Option (Out Itb) := (match x with
  | some [.int i, .int j] => if RngOk i ∧ RngOk j then some (Itb.mk (rngD i (j - i).toNat) []) else none
  | _ => none).map fun ib => .ok ib ρ
def itK (ρ : Sl) (x : Option Itb) : Option (Out Itb) := x.map fun ib => .ok ib ρ
def tIK (ρ : Sl) : Option D → Option (Out Itb)
  | some (.tup l) => some (.ok ⟨l, []⟩ ρ)
  | _ => none
def lxK (i : Nat) : Option (Option SV) → Option Itb
  | some (some (.ow (.lst l))) => some ⟨l, [(i, l)]⟩
  | some (some (.sh (.lst l))) => some ⟨l, []⟩
  | some (some (.sh (.scr l))) => some ⟨l.map .int, []⟩
  | _ => none
def zpK : Option Itb → Option Itb → Option Itb
  | some x, some y => some ⟨zipD x.ds y.ds, x.pk ++ y.pk⟩
  | _, _ => none
def pnK : Option (Out SV) → Option (Out (Option Int))
  | some (.ok (.sh (.int i)) ρ) => some (.ok (some i) ρ)
  | some (.ex c ρ) => some (.ex c ρ)
  | _ => none
def nxK (o : Option Sl) : Option SO := o.map .nx
def ruK (io : Option Nat) : Option SO → Option CR
  | some (.nx ρ) => (outS io ρ).map (.ret (.sh .non))
  | some (.rt sv ρ) => (outS io ρ).map (.ret sv)
  | some (.ex c ρ) => (outS io ρ).map (.exc c)
  | _ => none
def osK : Option (Option SV) → Option (List D)
  | some (some (.ow (.lst l))) => some l
  | _ => none
def frK : Option (Option SV) → Bool
  | some (some (.ow (.lst _))) => true
  | _ => false
def stIK (i : Nat) (ρ : Sl) (d : D) (k : Int) : Option (Option SV) → Option SO
  | some (some (.ow (.lst l))) => (ixN l.length k).map fun j => .nx (ρ.set i (some (.fr (l.set j d))))
  | _ => none
def mtIK (i : Nat) (ρ : Sl) (g : List D → List D → Option (D × List D)) (os : List Op) : Option (Option SV) → Option (Out SV)
  | some (some (.ow (.lst l))) => match vals os with
    | some ds => match g l ds with
      | some (d, l') => some (.ok (.sh d) (ρ.set i (some (.fr l'))))
      | none => none
    | none => none
  | _ => none
section
variable {α β : Type} {m n : SM} {f : M α} {k : α → M β} {q : α → SM} {ρ : Sl} {a : α} {c : Nat} {sv : SV} {d x y : D} {ds l : List D} {os : List Op} {o p : Op} {i j : Nat} {z : Int} {b : Bool}
theorem e_seq : sSeq m n ρ = seqK n (m ρ) := rfl
theorem k_seq1 : seqK n (some (.nx ρ)) = n ρ := rfl
theorem k_seq2 : seqK n (some (.rt sv ρ)) = some (.rt sv ρ) := rfl
theorem k_seq3 : seqK n (some (.ex c ρ)) = some (.ex c ρ) := rfl
theorem k_seq4 : seqK n (some (.bk ρ)) = some (.bk ρ) := rfl
theorem k_seq5 : seqK n (some (.ct ρ)) = some (.ct ρ) := rfl
theorem e_ex : sEx f q ρ = exK q (f ρ) := rfl
theorem k_ex1 : exK q (some (.ok a ρ)) = q a ρ := rfl
theorem k_ex2 : exK q (some (.ex c ρ)) = some (.ex c ρ) := rfl
theorem e_bnd : bnd f k ρ = bnK k (f ρ) := rfl
theorem k_bn1 : bnK k (some (.ok a ρ)) = k a ρ := rfl
theorem k_bn2 : bnK k (some (.ex c ρ)) = some (.ex c ρ) := rfl
theorem e_ret : ret a ρ = some (.ok a ρ) := rfl
theorem e_nx : sNx ρ = some (.nx ρ) := rfl
theorem e_bk : sBk ρ = some (.bk ρ) := rfl
theorem e_ct : sCt ρ = some (.ct ρ) := rfl
theorem e_c : vC d ρ = some (.ok (.sh d) ρ) := rfl
theorem e_var : vVar i ρ = varK i ρ ρ[i]? := by unfold vVar varK; generalize ρ[i]? = x; rcases x with _ | _ | _ | _ <;> rfl
theorem k_var1 : varK i ρ (some (some (.sh d))) = some (.ok (.sh d) ρ) := rfl
theorem k_var2 : varK i ρ (some (some (.fr l))) = some (.ok (.sh (.lst l)) (ρ.set i (some (.sh (.lst l))))) := rfl
theorem e_mv : vMv i ρ = mvK i ρ ρ[i]? := by unfold vMv mvK; generalize ρ[i]? = x; rcases x with _ | _ | _ | _ <;> rfl
theorem k_mv1 : mvK i ρ (some (some (.sh d))) = some (.ok (.sh d) ρ) := rfl
theorem k_mv2 : mvK i ρ (some (some (.fr l))) = some (.ok (.fr l) (ρ.set i none)) := rfl
theorem e_pk : oPk i ρ = pkK i ρ ρ[i]? := by unfold oPk pkK; generalize ρ[i]? = x; rcases x with _ | _ | _ <;> rfl
theorem k_pk : pkK i ρ (some (some sv)) = some (.ok (.slot i) ρ) := rfl
theorem e_get1 : get ρ (.val d) = some d := rfl
theorem e_get2 : get ρ (.slot i) = sdK ρ[i]? := by show slotD ρ i = _; unfold slotD sdK; generalize ρ[i]? = x; rcases x with _ | _ | _ <;> rfl
theorem k_sd1 : sdK (some (some (.sh d))) = some d := rfl
theorem k_sd2 : sdK (some (some (.fr l))) = some (.lst l) := rfl
theorem e_gets1 : gets ρ [] = some [] := rfl
theorem e_gets2 : gets ρ (o :: os) = gsK (get ρ o) (gets ρ os) := by conv => { lhs; unfold gets }; unfold gsK; generalize get ρ o = x; generalize gets ρ os = y; cases x <;> cases y <;> rfl
theorem k_gs : gsK (some d) (some ds) = some (d :: ds) := rfl
theorem e_vals1 : vals [] = some [] := rfl
theorem e_vals2 : vals (.val d :: os) = (vals os).map (d :: ·) := rfl
theorem e_oOf {f : M SV} : oOf f ρ = bnK (fun sv => ret (.val sv.d)) (f ρ) := rfl
theorem e_d1 : (SV.sh d).d = d := rfl
theorem e_d2 : (SV.fr l).d = .lst l := rfl
theorem e_d3 {ks : List L2.Key} {vs : List D} : (SV.ow (.dk ks vs)).d = .dck ks vs := rfl
theorem e_d4 {ks : List (List Int)} {vs : List D} : (SV.ow (.dt ks vs)).d = .dct ks vs := rfl
theorem e_d5 {c : Str} {ns : List Str} {fs : List D} : (SV.ow (.ob c ns fs)).d = .ob c ns fs := rfl
theorem k_var3 {ks : List L2.Key} {vs : List D} : varK i ρ (some (some (.ow (.dk ks vs)))) = some (.ok (.sh (.dck ks vs)) (ρ.set i (some (.sh (.dck ks vs))))) := rfl
theorem k_var4 {ks : List (List Int)} {vs : List D} : varK i ρ (some (some (.ow (.dt ks vs)))) = some (.ok (.sh (.dct ks vs)) (ρ.set i (some (.sh (.dct ks vs))))) := rfl
theorem k_var5 {c : Str} {ns : List Str} {fs : List D} : varK i ρ (some (some (.ow (.ob c ns fs)))) = some (.ok (.sh (.ob c ns fs)) (ρ.set i (some (.sh (.ob c ns fs))))) := rfl
theorem k_mv3 {c : OC} : mvK i ρ (some (some (.ow c))) = some (.ok (.ow c) (ρ.set i none)) := rfl
theorem k_sd3 {ks : List L2.Key} {vs : List D} : sdK (some (some (.ow (.dk ks vs)))) = some (.dck ks vs) := rfl
theorem k_sd4 {ks : List (List Int)} {vs : List D} : sdK (some (some (.ow (.dt ks vs)))) = some (.dct ks vs) := rfl
theorem k_sd5 {c : Str} {ns : List Str} {fs : List D} : sdK (some (some (.ow (.ob c ns fs)))) = some (.ob c ns fs) := rfl
def owK : Option (Option SV) → Bool
  | some (some (.ow _)) => true
  | _ => false
theorem e_isOw : isOw ρ i = owK ρ[i]? := by unfold isOw owK; generalize ρ[i]? = x; rcases x with _ | _ | _ | _ <;> rfl
theorem k_ow1 {c : OC} : owK (some (some (.ow c))) = true := rfl
theorem k_ow2 : owK (some (some (.sh d))) = false := rfl
theorem e_resOk {io : Option Nat} {res : CR} : resOk io os ρ res = (resT res || (noBrL io os ρ && resL res)) := rfl
theorem e_resL1 : resL (.ret (.sh d) l) = (isL d && isLL l) := rfl
theorem e_resL2 : resL (.ret (.fr ds) l) = (isLL ds && isLL l) := rfl
theorem e_noBrL {io : Option Nat} : noBrL io os ρ = (brs io os).all fun j => !isFr ρ j := rfl
theorem e_isL1 : isL (.lst l) = isLL l := by rw [isL]
theorem e_isL2 : isL (.tup l) = isLL l := by rw [isL]
theorem e_isL3 {i : Int} : isL (.int i) = true := by rw [isL]
theorem e_isL4 {i : Bool} : isL (.bl i) = true := by rw [isL]
theorem e_isL5 : isL .non = true := by rw [isL]
theorem e_isL6 {i : Str} : isL (.str i) = true := by rw [isL]
theorem e_isLL1 : isLL [] = true := by rw [isLL]
theorem e_isLL2 : isLL (d :: ds) = (isL d && isLL ds) := by rw [isLL]
theorem e_an : aNil ρ = some (.ok [] ρ) := rfl
theorem e_ac {a : M Op} {as : M (List Op)} : aCons a as ρ = bnK (fun o => bnd as fun os => ret (o :: os)) (a ρ) := rfl
theorem e_op1 {g : D → Option SV} {a : M Op} : vOp1 g a ρ = bnK (lift1 g) (a ρ) := rfl
theorem e_op2 {g : D → D → Option SV} {a b : M Op} : vOp2 g a b ρ = bnK (fun o => bnd b (lift2 g o)) (a ρ) := rfl
theorem e_bi {g : List D → Option SV} {as : M (List Op)} : vBi g as ρ = bnK (liftA g) (as ρ) := rfl
theorem e_l1 {g : D → Option SV} : lift1 g o ρ = l1K g ρ (get ρ o) := by unfold lift1 l1K okK; generalize get ρ o = x; cases x <;> rfl
theorem k_l1 {g : D → Option SV} : l1K g ρ (some x) = okK ρ (g x) := rfl
theorem e_l2 {g : D → D → Option SV} : lift2 g o p ρ = l2K g ρ (get ρ o) (get ρ p) := by unfold lift2 l2K okK; generalize get ρ o = x; generalize get ρ p = y; cases x <;> cases y <;> rfl
theorem k_l2 {g : D → D → Option SV} : l2K g ρ (some x) (some y) = okK ρ (g x y) := rfl
theorem e_lA {g : List D → Option SV} : liftA g os ρ = lAK g ρ (gets ρ os) := by unfold liftA lAK okK; generalize gets ρ os = x; cases x <;> rfl
theorem k_lA {g : List D → Option SV} : lAK g ρ (some ds) = okK ρ (g ds) := rfl
theorem k_ok : okK ρ (some sv) = some (.ok sv ρ) := rfl
theorem e_tst {f : M SV} : tst f ρ = tsK (f ρ) := by
  unfold tst bnd tsK
  cases f ρ with
  | none => rfl
  | some o =>
    cases o with
    | ex c ρ' => rfl
    | ok sv ρ' =>
      cases sv with
      | ow l => rfl
      | sh d => cases d <;> rfl
theorem k_ts1 : tsK (some (.ok (.sh (.bl b)) ρ)) = some (.ok b ρ) := rfl
theorem k_ts2 : tsK (some (.ex c ρ)) = some (.ex c ρ) := rfl
theorem e_tand {a b : M Bool} : tand a b ρ = bnK (fun x => if x = true then b else ret false) (a ρ) := rfl
theorem e_tor {a b : M Bool} : tor a b ρ = bnK (fun x => if x = true then ret true else b) (a ρ) := rfl
theorem e_tnot {a : M Bool} : tnot a ρ = bnK (fun x => ret (!x)) (a ρ) := rfl
theorem e_vand {a b : M SV} : vand a b ρ = bnK (fun x => if x = true then b else ret (.sh (.bl false))) (tst a ρ) := rfl
theorem e_vor {a b : M SV} : vor a b ρ = bnK (fun x => if x = true then ret (.sh (.bl true)) else b) (tst a ρ) := rfl
theorem e_vnot {a : M SV} : vnot a ρ = bnK (fun x => ret (.sh (.bl (!x)))) (tst a ρ) := rfl
theorem e_vif {t : M Bool} {a b : M SV} : vif t a b ρ = bnK (fun x => if x = true then a else b) (t ρ) := rfl
theorem e_iteT {α β : Type} {f g : α → β} {x : α} : (if True then f else g) x = f x := rfl
theorem e_iteF {α β : Type} {f g : α → β} {x : α} : (if False then f else g) x = g x := rfl
theorem e_tup {as : M (List Op)} : vTup as ρ = bnK (fun os ρ => tpK ρ (vals os)) (as ρ) := by
  unfold vTup bnd bnK
  cases as ρ with
  | none => rfl
  | some o =>
    cases o with
    | ex c ρ' => rfl
    | ok os ρ' =>
      show (match vals os with | some ds => _ | none => _) = tpK ρ' (vals os)
      unfold tpK
      cases vals os <;> rfl
theorem k_tp : tpK ρ (some ds) = if ds.length ≤ 1000000 then some (.ok (.sh (.tup ds)) ρ) else none := rfl
theorem e_lst {as : M (List Op)} : vLst as ρ = bnK (fun os ρ => lsK ρ (vals os)) (as ρ) := by
  unfold vLst bnd bnK
  cases as ρ with
  | none => rfl
  | some o =>
    cases o with
    | ex c ρ' => rfl
    | ok os ρ' =>
      show (match vals os with | some ds => _ | none => _) = lsK ρ' (vals os)
      unfold lsK
      cases vals os <;> rfl
theorem k_ls : lsK ρ (some ds) = if ds.length ≤ 1000000 then some (.ok (.fr ds) ρ) else none := rfl
theorem e_is {p : D → Bool} {a : M Op} : vIs p a ρ = bnK (lift1 (gIs p)) (a ρ) := rfl
theorem gIs_non {p : D → Bool} : gIs p .non = some (.sh (.bl (p .non))) := rfl
theorem gIs_bl {p : D → Bool} {b : Bool} : gIs p (.bl b) = some (.sh (.bl (p (.bl b)))) := rfl
theorem gIs_int {p : D → Bool} {i : Int} : gIs p (.int i) = some (.sh (.bl (p (.int i)))) := rfl
theorem gIs_str {p : D → Bool} {s : Str} : gIs p (.str s) = some (.sh (.bl (p (.str s)))) := rfl
theorem gIs_tup {p : D → Bool} {l : List D} : gIs p (.tup l) = some (.sh (.bl (p (.tup l)))) := rfl
theorem gIs_lst {p : D → Bool} {l : List D} : gIs p (.lst l) = some (.sh (.bl (p (.lst l)))) := rfl
theorem gIs_scr {p : D → Bool} {l : List Int} : gIs p (.scr l) = some (.sh (.bl (p (.scr l)))) := rfl
theorem e_call {io : Option Nat} {Φ : List D → Option CR} {as : M (List Op)} : vCall j io Φ as ρ = bnK (fun os ρ => if os.length = j then callM io Φ os ρ else none) (as ρ) := rfl
theorem e_callM {io : Option Nat} {Φ : List D → Option CR} : callM io Φ os ρ = clK io Φ os ρ (gets ρ os) := by unfold callM clK; generalize gets ρ os = x; cases x <;> rfl
theorem k_cl {io : Option Nat} {Φ : List D → Option CR} : clK io Φ os ρ (some ds) = rsK io os ρ (Φ ds) := by
  show (match Φ ds with | none => _ | some res => _) = _
  unfold rsK
  cases Φ ds <;> rfl
theorem k_rs {io : Option Nat} {r : CR} : rsK io os ρ (some r) = if (ioOk io os ρ && (noBr io os ρ || resOk io os ρ r)) = true then some (outOf io os ρ r) else none := rfl
theorem e_if {t : M Bool} : sIf t m n ρ = exK (fun b => if b = true then m else n) (t ρ) := rfl
theorem e_sret {f : M SV} : sRet f ρ = exK (fun sv ρ => some (.rt sv ρ)) (f ρ) := rfl
theorem e_sretN : sRetN ρ = some (.rt (.sh .non) ρ) := rfl
theorem e_drop {f : M SV} : sDrop f ρ = exK (fun _ ρ => some (.nx ρ)) (f ρ) := rfl
theorem e_asg {f : M SV} {g : SV → Sl → Option Sl} : sAsg f g ρ = exK (fun sv ρ => nxK (g sv ρ)) (f ρ) := rfl
theorem k_nx {ρ' : Sl} : nxK (some ρ') = some (.nx ρ') := rfl
theorem e_gN : gN i sv ρ = if i < ρ.length then some (ρ.set i (some sv)) else none := rfl
theorem e_gT {gs : List D → Sl → Option Sl} : gT j gs (.sh (.tup l)) ρ = if l.length = j then gs l ρ else none := rfl
theorem e_gsN : gsN [] ρ = some ρ := rfl
theorem e_gsC {g : SV → Sl → Option Sl} {gs : List D → Sl → Option Sl} : gsC g gs (d :: ds) ρ = (g (.sh d) ρ).bind (gs ds) := rfl
theorem e_par {as : M (List Op)} : sPar i j as ρ = exK (fun os ρ => match vals os with | some [x, y] => if i < ρ.length ∧ j < ρ.length then some (.nx ((ρ.set i (some (.sh x))).set j (some (.sh y)))) else none | _ => none) (as ρ) := rfl
theorem e_run {io : Option Nat} : runB io j m ds = ruK io (m (startS io j ds)) := by unfold runB ruK; generalize m (startS io j ds) = x; rcases x with _ | _ | _ | _ | _ | _ <;> rfl
theorem k_ru1 {io : Option Nat} : ruK io (some (.nx ρ)) = (outS io ρ).map (.ret (.sh .non)) := rfl
theorem k_ru2 {io : Option Nat} : ruK io (some (.rt sv ρ)) = (outS io ρ).map (.ret sv) := rfl
theorem k_ru3 {io : Option Nat} : ruK io (some (.ex c ρ)) = (outS io ρ).map (.exc c) := rfl
theorem e_out1 : outS none ρ = some [] := rfl
theorem e_out2 : outS (some i) ρ = osK ρ[i]? := by
  show (match ρ[i]? with | some (some (.ow (.lst l))) => some l | _ => none) = _
  unfold osK
  generalize ρ[i]? = x
  rcases x with _ | _ | _ | c <;> first | rfl | (cases c <;> rfl)
theorem k_os : osK (some (some (.fr l))) = some l := rfl
theorem e_start {io : Option Nat} : startS io j ds = startL io ds ++ List.replicate (j - ds.length) none := rfl
theorem e_stl1 : startL none ds = shL ds := rfl
theorem e_stl2 : startL (some i) ds = (shL ds).set i (frO ds[i]?) := rfl
theorem e_fro : frO (some (.lst l)) = some (.fr l) := rfl
theorem e_isFr : isFr ρ i = frK ρ[i]? := by unfold isFr frK; generalize ρ[i]? = x; rcases x with _ | _ | _ | _ | _ | _ | _ <;> rfl
theorem k_fr1 : frK (some (some (.fr l))) = true := rfl
theorem k_fr2 : frK (some (some (.sh d))) = false := rfl
theorem k_fr3 {ks : List L2.Key} {vs : List D} : frK (some (some (.ow (.dk ks vs)))) = false := rfl
theorem k_fr4 {ks : List (List Int)} {vs : List D} : frK (some (some (.ow (.dt ks vs)))) = false := rfl
theorem k_fr5 {c : Str} {ns : List Str} {fs : List D} : frK (some (some (.ow (.ob c ns fs)))) = false := rfl
theorem e_ioOk1 : ioOk none os ρ = true := rfl
theorem e_ioOk2 : ioOk (some j) os ρ = ioK (some j) os ρ (ioSlot (some j) os) := by
  show (match ioSlot (some j) os with | some i => _ | none => _) = _
  cases ioSlot (some j) os <;> rfl
theorem k_ioOk {io : Option Nat} : ioK io os ρ (some i) = (isFr ρ i && !(brs io os).contains i) := rfl
theorem e_noBr {io : Option Nat} : noBr io os ρ = (brs io os).all fun j => !isOw ρ j := rfl
theorem e_ios1 : ioSlot (some 0) (.slot i :: os) = some i := rfl
theorem e_ios2 : ioSlot (some (j + 1)) (o :: os) = ioSlot (some j) os := by cases o <;> rfl
theorem e_brs1 {io : Option Nat} : brs io [] = [] := by unfold brs; rfl
theorem e_brs2 {io : Option Nat} : brs io (.val d :: os) = brs (decO io) os := by rcases io with _ | _ | _ <;> rfl
theorem e_brs3 : brs (some 0) (.slot i :: os) = brs none os := by rfl
theorem e_brs4 : brs (some (j + 1)) (.slot i :: os) = i :: brs (some j) os := by rfl
theorem e_brs5 : brs none (.slot i :: os) = i :: brs none os := by rfl
theorem e_dec1 : decO none = none := rfl
theorem e_dec2 : decO (some 0) = none := rfl
theorem e_dec3 : decO (some (j + 1)) = some j := rfl
theorem e_put1 : putO (some j) os l ρ = puK l ρ (ioSlot (some j) os) := by
  show (match ioSlot (some j) os with | some i => _ | none => _) = _
  cases ioSlot (some j) os <;> rfl
theorem k_put : puK l ρ (some i) = ρ.set i (some (.fr l)) := rfl
theorem e_put2 : putO none os l ρ = ρ := by
  have e : ioSlot none os = none := by unfold ioSlot; cases os <;> rfl
  unfold putO
  rw [e]
theorem e_outOf1 {io : Option Nat} : outOf io os ρ (.ret sv l) = .ok sv (putO io os l ρ) := rfl
theorem e_outOf2 {io : Option Nat} : outOf io os ρ (.exc c l) = .ex c (putO io os l ρ) := rfl
theorem e_guard : frGuard i m ρ = if isFr ρ i = true then m ρ else none := rfl
theorem e_setIx {f k : M Op} : sSetIx i f k ρ = exK (fun o => frGuard i (sEx k fun p => stK i o p)) (f ρ) := rfl
theorem e_stK : stK i (.val d) (.val (.int z)) ρ = stIK i ρ d z ρ[i]? := by
  unfold stK stIK
  cases ρ[i]? with
  | none => rfl
  | some s =>
    cases s with
    | none => rfl
    | some sv => rcases sv with _ | c <;> first | rfl | (cases c <;> rfl)
theorem k_stI : stIK i ρ d z (some (some (.fr l))) = (ixN l.length z).map fun j => .nx (ρ.set i (some (.fr (l.set j d)))) := rfl
theorem e_mt {g : List D → List D → Option (D × List D)} {as : M (List Op)} : vMt i g as ρ = if isFr ρ i = true then bnd as (mtK i g) ρ else none := rfl
theorem e_mtK {g : List D → List D → Option (D × List D)} : mtK i g os ρ = mtIK i ρ g os ρ[i]? := by
  unfold mtK mtIK
  cases ρ[i]? with
  | none => rfl
  | some s =>
    cases s with
    | none => rfl
    | some sv => rcases sv with _ | c <;> first | rfl | (cases c <;> rfl)
theorem k_mtI {g : List D → List D → Option (D × List D)} (h : vals os = some ds) : mtIK i ρ g os (some (some (.fr l))) = (g l ds).map fun r => .ok (.sh r.1) (ρ.set i (some (.fr r.2))) := by
  show (match vals os with | some ds => _ | none => _) = _
  rw [h]
  show (match g l ds with | some (d, l') => _ | none => _) = _
  cases g l ds <;> rfl
theorem e_chain {g g' : D → D → Option SV} {a b cc : M Op} : vChain g g' a b cc ρ = bnK (fun x => bnd b fun y => bnd (tst (lift2 g x y)) fun k => if k = true then bnd cc fun z => lift2 g' y z else ret (.sh (.bl false))) (a ρ) := rfl
theorem e_for {it : M Itb} {g : SV → Sl → Option Sl} : sFor it g m ρ = exK (fun ib => if ib.pk = [] then forL g m ib.ds else fun _ => none) (it ρ) := rfl
theorem e_forL1 {g : SV → Sl → Option Sl} : forL g m [] ρ = some (.nx ρ) := rfl
theorem e_sub {z w : Int} : gSub (.int z) (.int w) = some (.sh (.int (z - w))) := rfl
theorem e_add {z w : Int} : gAdd (.int z) (.int w) = some (.sh (.int (z + w))) := rfl
theorem e_addL {l l' : List D} : gAdd (.lst l) (.lst l') = if l.length + l'.length ≤ 1000000 then some (.fr (l ++ l')) else none := rfl
theorem e_neg {z : Int} : gNeg (.int z) = some (.sh (.int (-z))) := rfl
theorem e_cmp {pr : Int → Int → Bool} {z w : Int} : gCmp pr (.int z) (.int w) = some (.sh (.bl (pr z w))) := rfl
theorem e_ixL {z : Int} : gIx (.lst l) (.int z) = (atI l z).map .sh := rfl
theorem e_ixT {z : Int} : gIx (.tup l) (.int z) = (atI l z).map .sh := rfl
theorem e_ixS {ns : List Int} {z : Int} : gIx (.scr ns) (.int z) = (atI ns z).map fun n => .sh (.int n) := rfl
theorem e_abs {z : Int} : gAbs [.int z] = some (.sh (.int (if z < 0 then -z else z))) := rfl
theorem e_max {z w : Int} : gMax [.int z, .int w] = some (.sh (.int (if w > z then w else z))) := rfl
theorem e_min {z w : Int} : gMin [.int z, .int w] = some (.sh (.int (if w < z then w else z))) := rfl
theorem e_intI {z : Int} : gInt [.int z] = some (.sh (.int z)) := rfl
theorem e_intB : gInt [.bl b] = some (.sh (.int (if b then 1 else 0))) := rfl
theorem e_lenL : gLen [.lst l] = some (.sh (.int l.length)) := rfl
theorem e_lenT : gLen [.tup l] = some (.sh (.int l.length)) := rfl
theorem e_lenS {ns : List Int} : gLen [.scr ns] = some (.sh (.int ns.length)) := rfl
theorem e_isT1 : isT (.int z) = true := rfl
theorem e_isT2 : isT (.tup l) = isTL l := by unfold isT; rfl
theorem e_isT3 : isT (.bl b) = true := rfl
theorem e_isTL1 : isTL [] = true := rfl
theorem e_isTL2 : isTL (d :: ds) = (isT d && isTL ds) := rfl
theorem e_resT1 : resT (.ret (.sh d) l) = (isT d && isTL l) := rfl
theorem e_resT2 : resT (.ret (.fr ds) l) = (isTL ds && isTL l) := rfl
theorem e_R1 {as : M (List Op)} : iR1 as ρ = bnK (fun os ρ => r1K ρ (gets ρ os)) (as ρ) := by
  show bnK (fun o ρ => (jR1 o ρ).map fun ib => .ok ib ρ) (as ρ) = _
  congr 1
  funext os ρ
  unfold jR1 r1K
  generalize gets ρ os = x
  rcases x with _ | x
  · rfl
  · rcases x with _ | ⟨d, x⟩
    · rfl
    · cases d <;> cases x <;> rfl
theorem k_R1 : r1K ρ (some [.int z]) = if RngOk z then some (.ok ⟨rngD 0 z.toNat, []⟩ ρ) else none := by
  show (if RngOk z then some (Itb.mk (rngD 0 z.toNat) []) else none).map (fun ib => Out.ok ib ρ) = _
  by_cases h : RngOk z
  · rw [if_pos h, if_pos h]; rfl
  · rw [if_neg h, if_neg h]; rfl
theorem e_R2 {as : M (List Op)} : iR2 as ρ = bnK (fun os ρ => r2K ρ (gets ρ os)) (as ρ) := rfl
theorem k_R2 {y z : Int} : r2K ρ (some [.int y, .int z]) = if RngOk y ∧ RngOk z then some (.ok ⟨rngD y (z - y).toNat, []⟩ ρ) else none := by
  show (if RngOk y ∧ RngOk z then some (Itb.mk (rngD y (z - y).toNat) []) else none).map (fun ib => Out.ok ib ρ) = _
  by_cases h : RngOk y ∧ RngOk z
  · rw [if_pos h, if_pos h]; rfl
  · rw [if_neg h, if_neg h]; rfl
theorem e_iLs {a : M Op} : iLs a ρ = bnK (fun o ρ => itK ρ (lsOf ρ o)) (a ρ) := rfl
theorem e_iTp {a : M Op} : iTp a ρ = bnK (fun o ρ => tIK ρ (get ρ o)) (a ρ) := by
  show bnK (fun o ρ => (jTp o ρ).map fun ib => .ok ib ρ) (a ρ) = _
  congr 1
  funext o ρ
  unfold jTp tIK
  generalize get ρ o = x
  rcases x with _ | x
  · rfl
  · cases x <;> rfl
theorem k_it {ib : Itb} : itK ρ (some ib) = some (.ok ib ρ) := rfl
theorem k_tI : tIK ρ (some (.tup l)) = some (.ok ⟨l, []⟩ ρ) := rfl
theorem e_lsV : lsOf ρ (.val (.lst l)) = some ⟨l, []⟩ := rfl
theorem e_eqI {i j : Int} : gEq (.int i) (.int j) = some (.sh (.bl (decide (i = j)))) := by
  unfold gEq eqD
  rw [if_pos ⟨rfl, rfl⟩]
  unfold toPy
  by_cases h : i = j <;> simp [PyData.eqv, h]
theorem e_neI {i j : Int} : gNe (.int i) (.int j) = some (.sh (.bl (!decide (i = j)))) := by
  unfold gNe eqD
  rw [if_pos ⟨rfl, rfl⟩]
  unfold toPy
  by_cases h : i = j <;> simp [PyData.eqv, h]
theorem e_eqB {i j : Bool} : gEq (.bl i) (.bl j) = some (.sh (.bl (decide (i = j)))) := by
  unfold gEq eqD
  rw [if_pos ⟨rfl, rfl⟩]
  unfold toPy
  cases i <;> cases j <;> simp [PyData.eqv]
theorem e_neB {i j : Bool} : gNe (.bl i) (.bl j) = some (.sh (.bl (!decide (i = j)))) := by
  unfold gNe eqD
  rw [if_pos ⟨rfl, rfl⟩]
  unfold toPy
  cases i <;> cases j <;> simp [PyData.eqv]
theorem gStr_ok {i : Int} (h : i.natAbs.log2 < 1920) : gStr [.int i] = some (.sh (.str (toString i))) := by
  show (if i.natAbs.log2 < 1920 then some (SV.sh (.str (toString i))) else none) = _
  rw [if_pos h]
theorem isInt_int {i : Int} : isInt (.int i) = true := rfl
theorem isInt_bl : isInt (.bl b) = true := rfl
theorem isInt_str {s : Str} : isInt (.str s) = false := rfl
theorem isInt_non : isInt .non = false := rfl
theorem isInt_tup : isInt (.tup l) = false := rfl
theorem isInt_lst : isInt (.lst l) = false := rfl
theorem isBl_int {i : Int} : isBl (.int i) = false := rfl
theorem isBl_bl : isBl (.bl b) = true := rfl
theorem isBl_tup : isBl (.tup l) = false := rfl
theorem isTup_int {i : Int} : isTup (.int i) = false := rfl
theorem isTup_bl : isTup (.bl b) = false := rfl
theorem isTup_str {s : Str} : isTup (.str s) = false := rfl
theorem isTup_non : isTup .non = false := rfl
theorem isTup_tup : isTup (.tup l) = true := rfl
theorem isTup_lst : isTup (.lst l) = false := rfl
theorem k_turn1 : turnK n (some (.nx ρ)) = n ρ := rfl
theorem k_turn2 : turnK n (some (.ct ρ)) = n ρ := rfl
theorem k_turn3 : turnK n (some (.rt sv ρ)) = some (.rt sv ρ) := rfl
theorem k_turn4 : turnK n (some (.bk ρ)) = some (.nx ρ) := rfl
theorem k_turn5 : turnK n (some (.ex c ρ)) = some (.ex c ρ) := rfl
theorem k_app : mtIK i ρ gApp [.val d] (some (some (.fr l))) = if l.length < 1000000 then some (.ok (.sh .non) (ρ.set i (some (.fr (l ++ [d]))))) else none := by
  rw [k_mtI (ds := [d]) rfl]
  show (if l.length < 1000000 then some (D.non, l ++ [d]) else none).map _ = _
  by_cases h : l.length < 1000000
  · rw [if_pos h, if_pos h]; rfl
  · rw [if_neg h, if_neg h]; rfl
theorem k_ext {l' : List D} : mtIK i ρ gExt [.val (.lst l')] (some (some (.fr l))) = if l.length + l'.length ≤ 1000000 then some (.ok (.sh .non) (ρ.set i (some (.fr (l ++ l'))))) else none := by
  rw [k_mtI (ds := [.lst l']) rfl]
  show (if l.length + l'.length ≤ 1000000 then some (D.non, l ++ l') else none).map _ = _
  by_cases h : l.length + l'.length ≤ 1000000
  · rw [if_pos h, if_pos h]; rfl
  · rw [if_neg h, if_neg h]; rfl
theorem k_rvs : mtIK i ρ gRvs [] (some (some (.fr l))) = some (.ok (.sh .non) (ρ.set i (some (.fr l.reverse)))) := by
  rw [k_mtI (ds := []) rfl]
  rfl
theorem k_pop : mtIK i ρ gPop [] (some (some (.fr l))) = l[l.length - 1]?.map fun d => .ok (.sh d) (ρ.set i (some (.fr l.dropLast))) := by
  rw [k_mtI (ds := []) rfl]
  show (l[l.length - 1]?.map fun d => (d, l.dropLast)).map _ = _
  cases l[l.length - 1]? <;> rfl
theorem e_lsS : lsOf ρ (.slot i) = lxK i ρ[i]? := by
  show (match ρ[i]? with | some (some (.ow (.lst l))) => some (Itb.mk l [(i, l)]) | some (some (.sh (.lst l))) => some (Itb.mk l []) | some (some (.sh (.scr l))) => some (Itb.mk (l.map .int) []) | _ => none) = lxK i ρ[i]?
  generalize ρ[i]? = x
  rcases x with _ | _ | x
  · rfl
  · rfl
  · rcases x with x | x
    · cases x <;> rfl
    · rfl
theorem k_ls1 : lxK i (some (some (.fr l))) = some ⟨l, [(i, l)]⟩ := rfl
theorem k_ls2 : lxK i (some (some (.sh (.lst l)))) = some ⟨l, []⟩ := rfl
theorem k_ls3 {ns : List Int} : lxK i (some (some (.sh (.scr ns)))) = some ⟨ns.map .int, []⟩ := rfl
theorem e_iZp {as : M (List Op)} : iZp as ρ = bnK (fun os ρ => itK ρ (jZp os ρ)) (as ρ) := rfl
theorem e_iEn {as : M (List Op)} : iEn as ρ = bnK (fun os ρ => itK ρ (jEn os ρ)) (as ρ) := rfl
theorem e_iRv {as : M (List Op)} : iRv as ρ = bnK (fun os ρ => itK ρ (jRev os ρ)) (as ρ) := rfl
theorem e_jZp : jZp [o, p] ρ = zpK (lsOf ρ o) (lsOf ρ p) := by
  show ((lsOf ρ o).bind fun x => (lsOf ρ p).map fun y => Itb.mk (zipD x.ds y.ds) (x.pk ++ y.pk)) = _
  unfold zpK
  cases lsOf ρ o <;> cases lsOf ρ p <;> rfl
theorem k_zp {ib jb : Itb} : zpK (some ib) (some jb) = some ⟨zipD ib.ds jb.ds, ib.pk ++ jb.pk⟩ := rfl
theorem e_jEn : jEn [o] ρ = (lsOf ρ o).map fun ib => ⟨enumD 0 ib.ds, ib.pk⟩ := rfl
theorem e_jRev : jRev [o] ρ = (lsOf ρ o).map fun ib => ⟨ib.ds.reverse, ib.pk⟩ := rfl
theorem e_sl {a : M Op} {lo hi : M (Option Int)} : vSl a lo hi ρ = bnK (fun x => bnd lo fun l => bnd hi fun h => lift1 (fun d => gSl d l h) x) (a ρ) := rfl
theorem e_pNo : pNo ρ = some (.ok none ρ) := rfl
theorem e_pIn {f : M SV} : pIn f ρ = pnK (f ρ) := by
  unfold pIn bnd pnK
  cases f ρ with
  | none => rfl
  | some o =>
    cases o with
    | ex c ρ' => rfl
    | ok sv ρ' =>
      cases sv with
      | ow l => rfl
      | sh d => cases d <;> rfl
theorem k_pn : pnK (some (.ok (.sh (.int z)) ρ)) = some (.ok (some z) ρ) := rfl
theorem e_slL {lo hi : Option Int} : gSl (.lst l) lo hi = some (.fr (cutD l lo hi)) := rfl
theorem cut_1 {α : Type} {x : α} {l : List α} : cutD (x :: l) (some 1) none = l := by
  unfold cutD
  have e1 : HT.sIx (x :: l).length 0 (some 1) = 1 := by
    show (if (1 : Int) < 0 then ((1 : Int) + ((x :: l).length : Int)).toNat else min (1 : Int).toNat (x :: l).length) = 1
    rw [if_neg (by decide)]
    show min 1 (l.length + 1) = 1
    omega
  have e2 : HT.sIx (x :: l).length (x :: l).length none = l.length + 1 := rfl
  rw [e1, e2]
  show List.take (l.length + 1 - 1) l = l
  exact List.take_of_length_le (by omega)
/-- what has no dict, not deep -/
theorem okPy_of (h1 : (toPy d).canLay0 = true) (h2 : (toPy d).depth ≤ 64) : okPy d = true := by
  show ((toPy d).canLay0 && decide ((toPy d).depth ≤ 64)) = true
  rw [h1, decide_eq_true h2]
  rfl
theorem canLay_of_okPy (h : okPy d = true) : (toPy d).canLay0 = true := (Bool.and_eq_true_iff.mp h).1
theorem eq_self' (h : okPy d = true) : gEq d d = some (.sh (.bl true)) := by
  unfold gEq eqD
  rw [if_pos ⟨h, h⟩, SeqAt.eqv_refl _ (canLay_of_okPy h)]
theorem ne_self' (h : okPy d = true) : gNe d d = some (.sh (.bl false)) := by
  unfold gNe eqD
  rw [if_pos ⟨h, h⟩, SeqAt.eqv_refl _ (canLay_of_okPy h)]
  rfl
theorem okPy_all {k : Nat} (hk : k < 64) : ∀ {l : List D}, (∀ d ∈ l, (toPy d).canLay0 = true ∧ (toPy d).depth ≤ k) → PyData.canLayAll0 (toPyL l) = true ∧ PyData.depthAll (toPyL l) ≤ k
  | [], _ => ⟨rfl, Nat.zero_le _⟩
  | d :: l, h => by
    have h1 := h d List.mem_cons_self
    have h2 := okPy_all hk (l := l) fun e he => h e (List.mem_cons_of_mem _ he)
    refine ⟨?_, ?_⟩
    · show ((toPy d).canLay0 && PyData.canLayAll0 (toPyL l)) = true
      rw [h1.1, h2.1]
      rfl
    · show max _ _ ≤ k
      exact Nat.max_le.mpr ⟨h1.2, h2.2⟩
theorem isLst_lst : isLst (.lst l) = true := rfl
theorem isLst_tup : isLst (.tup l) = false := rfl
theorem isLst_int : isLst (.int z) = false := rfl
end
end Sim

namespace Sim
open PySem PySem.Spec PyProof.Rows L2
/-! ### max of four whole numbers -/
section
variable {prog : Program} {w : World} {A : Around} {E : Value → Shared → Prop} {s : Shared}
def mx (i j : Int) : Int := if j > i then j else i
end
def gMax4 : List D → Option SV
  | [.int a, .int b, .int c, .int d] => some (.sh (.int (mx (mx (mx a b) c) d)))
  | _ => none
theorem e_max4 {a b c d : Int} : gMax4 [.int a, .int b, .int c, .int d] = some (.sh (.int (mx (mx (mx a b) c) d))) := rfl
end Sim

namespace Sim
open PySem PySem.Spec PyProof.Rows L2
/-! ### list(reversed(list)) -/
section
variable {prog : Program} {w : World} {A : Around} {E : Value → Shared → Prop} {s : Shared}
end
section
variable {X : Cx}
end
section
variable {cv : Nat → Value} {X : Cx} {W : WX} {e a b c tg : Expr} {te ta : TE} {ts : TA} {f : M SV} {fa : M Op} {fs : M (List Op)} {pos pos2 p p2 : Pos}
end
/-! ### list.count of any data -/
section
end
section
variable {X : Cx}
end
/-! ### is None -/
def gIsN : D → D → Option SV
  | .non, .non => some (.sh (.bl true))
  | .lst _, .non => some (.sh (.bl false))
  | .tup _, .non => some (.sh (.bl false))
  | .int _, .non => some (.sh (.bl false))
  | _, _ => none
/-! ### range of three -/
def RgB (i j c : Int) (n : Nat) : Bool := decide (c ≠ 0) && decide (c.natAbs < 1073741824) && Builtin.Range.small i j c && decide (Builtin.Range.rangeSize i j c = n)
theorem RgB.is {i j c : Int} {n : Nat} (h : RgB i j c n = true) : L2.RgC i j c n := by
  unfold RgB at h
  simp only [Bool.and_eq_true, decide_eq_true_eq] at h
  exact ⟨h.1.1.1, h.1.1.2, h.1.2, h.2⟩
def rngC (i c : Int) (n : Nat) : List D := (List.range n).map fun k => .int (i + (k : Nat) * c)
def jR3 (os : List Op) (ρ : Sl) : Option Itb := match gets ρ os with
  | some [.int i, .int j, .int c] => if RgB i j c (Builtin.Range.rangeSize i j c).toNat = true then some ⟨rngC i c (Builtin.Range.rangeSize i j c).toNat, []⟩ else none
  | _ => none
def iR3 (as : M (List Op)) : M Itb := liftI as jR3
section
variable {cv : Nat → Value} {X : Cx} {W : WX} {a b c tg : Expr} {ts : TA} {fs : M (List Op)} {pos p : Pos}
end
section
variable {K : PySem.W.Frag}
end
/-! ### a method that changes nothing, of any value -/
def ckL : D → Bool
  | .lst _ => true
  | .scr _ => true
  | _ => false
def ckS : D → Bool
  | .str _ => true
  | _ => false
def mfK (g : D → List D → Option SV) (ρ : Sl) : Option D → Option (List D) → Option (Out SV)
  | some x, some xs => okK ρ (g x xs)
  | _, _ => none
def mpF (g : D → List D → Option SV) (o : Op) (os : List Op) : M SV := fun ρ => mfK g ρ (get ρ o) (gets ρ os)
def ckO (ck : D → Bool) : Option D → Bool
  | some d => ck d
  | none => false
def mpN (ck : D → Bool) (g : D → List D → Option SV) (fs : M (List Op)) (o : Op) : M SV := fun ρ => if ckO ck (get ρ o) = true then bnd fs (mpF g o) ρ else none
def vMp (ck : D → Bool) (g : D → List D → Option SV) (fo : M Op) (fs : M (List Op)) : M SV := bnd fo (mpN ck g fs)
section
variable {cv : Nat → Value} {X : Cx} {W : WX} {e o : Expr} {es : List Expr} {to : TE} {ts : TA} {fo : M Op} {fs : M (List Op)} {pos apos : Pos} {T : String} {ck : D → Bool} {r : V → List V → Hp → VK → Prop} {g : D → List D → Option SV}
end
/-! ### runs -/
section
variable {ρ : Sl} {o : Op} {os : List Op} {ck : D → Bool} {g : D → List D → Option SV} {x : D} {xs : List D} {fo : M Op} {fs : M (List Op)}
theorem e_mp : vMp ck g fo fs ρ = bnK (mpN ck g fs) (fo ρ) := rfl
theorem e_mpN : mpN ck g fs o ρ = if ckO ck (get ρ o) = true then bnd fs (mpF g o) ρ else none := rfl
theorem e_mpF : mpF g o os ρ = mfK g ρ (get ρ o) (gets ρ os) := rfl
theorem k_mf : mfK g ρ (some x) (some xs) = okK ρ (g x xs) := rfl
theorem k_ck : ckO ck (some x) = ck x := rfl
theorem ckL_1 {l : List D} : ckL (.lst l) = true := rfl
theorem ckS_1 {s : Str} : ckS (.str s) = true := rfl
theorem e_revL {fa : M Op} : vRevL fa = vOp1 gRv fa := rfl
theorem e_gRv {l : List D} : gRv (.lst l) = some (.fr l.reverse) := rfl
theorem e_iR3 {as : M (List Op)} : iR3 as ρ = bnK (fun os ρ => itK ρ (jR3 os ρ)) (as ρ) := rfl
def r3K : Option (List D) → Option Itb
  | some [.int i, .int j, .int c] => if RgB i j c (Builtin.Range.rangeSize i j c).toNat = true then some ⟨rngC i c (Builtin.Range.rangeSize i j c).toNat, []⟩ else none
  | _ => none
theorem e_jR3 : jR3 os ρ = r3K (gets ρ os) := rfl
theorem k_R3 {i j c : Int} : r3K (some [.int i, .int j, .int c]) = if RgB i j c (Builtin.Range.rangeSize i j c).toNat = true then some ⟨rngC i c (Builtin.Range.rangeSize i j c).toNat, []⟩ else none := rfl
theorem isN_1 : gIsN .non .non = some (.sh (.bl true)) := rfl
theorem isN_2 {l : List D} : gIsN (.lst l) .non = some (.sh (.bl false)) := rfl
end
end Sim

namespace Sim
open PySem PySem.Spec PyProof.Rows L2
/-! ### a call that is handed a new list, to be changed and then forgotten -/
section
variable {K : PySem.W.Frag} {F B H : Hp} {σ : L2.St} {ρ : Sl}
end
def cfK (ρ : Sl) : Option CR → Option (Out SV)
  | some (.ret r _) => some (.ok r ρ)
  | _ => none
def vCallFK (Φ : List D → Option CR) (sv : SV) : M SV := fun ρ => match sv with
  | .ow (.lst l) => cfK ρ (Φ [.lst l])
  | _ => none
def vCallF (Φ : List D → Option CR) (f : M SV) : M SV := bnd f (vCallFK Φ)
section
variable {cv : Nat → Value} {X : Cx} {W : WX} {e : Expr} {te : TE} {f : M SV} {pos p : Pos}
end
theorem e_callF {Φ : List D → Option CR} {f : M SV} {ρ : Sl} : vCallF Φ f ρ = bnK (vCallFK Φ) (f ρ) := rfl
theorem k_callF {Φ : List D → Option CR} {l : List D} {ρ : Sl} : vCallFK Φ (.fr l) ρ = cfK ρ (Φ [.lst l]) := rfl
theorem k_cf {r : SV} {out : List D} {ρ : Sl} : cfK ρ (some (.ret r out)) = some (.ok r ρ) := rfl
end Sim

namespace Sim
open PySem PySem.Spec PyProof.Rows L2
/-! ### dicts whose keys are tuples of whole numbers: read alone -/
section
variable {X : Cx} {pins : List (Addr × Obj)} {σ : L2.St} {H : Hp} {s : Shared} {a b : Addr}
end
def dctV (ks : List (List Int)) (vs : List D) (k : List Int) : Option D := (ks.zip vs).lookup k
def gIn (neg : Bool) : D → D → Option SV
  | .tup l, .dct ks _ => (intL l).map fun k => .sh (.bl (neg ^^ decide (k ∈ ks)))
  | _, _ => none
def gDx : D → D → Option SV
  | .dct ks vs, .tup l => (intL l).bind fun k => (dctV ks vs k).map .sh
  | _, _ => none
section
variable {K : PySem.W.Frag} {H : Hp}
theorem OpRep.dct {B : Hp} {v : V} (e : Same B H) {ks : List (List Int)} {vs : List D} (h : OpRep K B H v (.dct ks vs)) : ∃ a xs, v = .ref a ∧ H a = some (.dT ((ks.map keyL).zip xs)) ∧ ks.length = vs.length ∧ RepL K B xs vs := by
  cases h with
  | sh r =>
    cases r with
    | dct h hl r => exact ⟨_, _, rfl, e _ _ h, hl, r⟩
  | @own a o xs c _ hB hH hO r e =>
    cases c with
    | dt ks' vs' =>
      cases e
      obtain ⟨rfl, hl⟩ := hO
      exact ⟨_, _, rfl, hH, hl, r⟩
    | lst _ => cases e
    | dk _ _ => cases e
    | ob _ _ _ => cases e
end
section
variable {cv : Nat → Value} {X : Cx} {W : WX} {a b : Expr} {ta tb : TE} {fa fb : M Op} {pos : Pos}
end
/-! ### instances: read alone -/
def gFld0 (c f : Str) : D → Option SV
  | .ob c' ns fs => if c' = c then ((ns.zip fs).lookup f).map .sh else none
  | _ => none
def obF : D → D
  | .lv n => lvFull n
  | d => d
def gFld (c f : Str) (d : D) : Option SV := gFld0 c f (obF d)
theorem obF_cases (d : D) : (∃ n, d = .lv n ∧ obF d = lvFull n) ∨ obF d = d := by
  cases d with
  | lv n => exact .inl ⟨n, rfl, rfl⟩
  | _ => exact .inr rfl
section
variable {K : PySem.W.Frag} {H : Hp}
theorem OpRep.lvF {B : Hp} {v : V} {n : Int} (h : OpRep K B H v (.lv n)) : OpRep K B H v (lvFull n) := by
  cases h with
  | sh r => exact .sh r.full
  | @own a o xs c _ hB hH hO r e => cases c <;> cases e
theorem OpRep.ob {B : Hp} {v : V} (e : Same B H) {c : Str} {ns : List Str} {fs : List D} (h : OpRep K B H v (.ob c ns fs)) : ∃ a C dx xs, v = .ref a ∧ PySem.W.nsIn K mainGlobals c = some (some (.ref C)) ∧ H a = some (.ins C dx (ns.zip xs)) ∧ ns.length = fs.length ∧ RepL K B xs fs := by
  cases h with
  | sh r =>
    cases r with
    | ob hc h hl r => exact ⟨_, _, _, _, rfl, hc, e _ _ h, hl, r⟩
  | @own a o xs cc _ hB hH hO r e =>
    cases cc with
    | ob c' ns' fs' =>
      cases e
      obtain ⟨C, dx, hc, rfl, hl⟩ := hO
      exact ⟨_, _, _, _, rfl, hc, hH, hl, r⟩
    | lst _ => cases e
    | dk _ _ => cases e
    | dt _ _ => cases e
end
section
variable {cv : Nat → Value} {X : Cx} {W : WX} {e : Expr} {es : List Expr} {te : TE} {ts : TA} {fe : M Op} {fs : M (List Op)} {pos apos : Pos} {C : Addr} {c f m : Str}
theorem OpRep.obF {K : PySem.W.Frag} {B H : Hp} {v : V} {d : D} (h : OpRep K B H v d) : OpRep K B H v (Sim.obF d) := by
  rcases obF_cases d with ⟨n, rfl, e⟩ | e
  · rw [e]
    exact h.lvF
  · rw [e]
    exact h
end
/-! ### a method of an instance -/
def isOb0 (c m : Str) : D → Bool
  | .ob c' ns _ => decide (c' = c) && !(ns.contains m)
  | _ => false
def isOb (c m : Str) : Option D → Bool
  | some d => isOb0 c m (obF d)
  | none => false
def okO : Option (Out SV) → Option (Out SV)
  | some (.ok a ρ) => some (.ok a ρ)
  | _ => none
def mtC (n : Nat) (Φ : List D → Option CR) (o : Op) (os : List Op) : M SV := fun ρ => if os.length = n then okO (callM none Φ (o :: os) ρ) else none
def mtO (c m : Str) (n : Nat) (Φ : List D → Option CR) (fs : M (List Op)) (o : Op) : M SV := fun ρ => if isOb c m (get ρ o) = true then bnd fs (mtC n Φ o) ρ else none
def vMeth (c m : Str) (n : Nat) (Φ : List D → Option CR) (fo : M Op) (fs : M (List Op)) : M SV := bnd fo (mtO c m n Φ fs)
section
variable {cv : Nat → Value} {X : Cx} {W : WX} {o e : Expr} {es : List Expr} {to : TE} {ts : TA} {fo : M Op} {fs : M (List Op)} {pos apos : Pos} {C : Addr} {c m : Str}
end
/-! ### an instance made: all that is new is shared from then on -/
def NewR (K : PySem.W.Frag) (B H H' : Hp) (x : Addr) (v : V) (d : D) : Prop := Rep K (fun a => if a = x ∨ H a = none then H' a else B a) v d
theorem NewR.of {K : PySem.W.Frag} {B H H' : Hp} {x : Addr} {v : V} {d : D} (h : Rep K (fun a => if a = x ∨ H a = none then H' a else none) v d) : NewR K B H H' x v d :=
  Rep.mono (fun a o e => by
    by_cases hc : a = x ∨ H a = none
    · simp only [if_pos hc] at e ⊢
      exact e
    · simp only [if_neg hc] at e
      cases e) _ _ h
section
variable {cv : Nat → Value} {X : Cx} {W : WX} {e : Expr} {es : List Expr} {ts : TA} {fs : M (List Op)} {pos p : Pos} {C f : Addr} {c : Str}
def mkO (n : Nat) (Φ : List D → Option D) (ρ : Sl) : Option (List D) → Option (Out SV)
  | some ds => if ds.length = n then (Φ ds).map fun d => .ok (.sh d) ρ else none
  | none => none
def vMk (n : Nat) (Φ : List D → Option D) (fs : M (List Op)) : M SV := bnd fs fun os ρ => mkO n Φ ρ (vals os)
end
def mkQ (ρ : Sl) : Option D → Option (Out SV)
  | some d => some (.ok (.sh d) ρ)
  | none => none
section
variable {ρ : Sl} {o : Op} {os : List Op} {fo : M Op} {fs : M (List Op)} {c m f : Str} {n : Nat} {Φ : List D → Option CR} {Ψ : List D → Option D}
theorem e_meth : vMeth c m n Φ fo fs ρ = bnK (mtO c m n Φ fs) (fo ρ) := rfl
theorem e_mtO : mtO c m n Φ fs o ρ = if isOb c m (get ρ o) = true then bnd fs (mtC n Φ o) ρ else none := rfl
theorem k_isOb {ns : List Str} {fd : List D} : isOb c m (some (.ob c ns fd)) = !(ns.contains m) := by
  show (decide (c = c) && _) = _
  rw [decide_eq_true rfl, Bool.true_and]
theorem e_mtC : mtC n Φ o os ρ = if os.length = n then okO (callM none Φ (o :: os) ρ) else none := rfl
theorem k_okO {sv : SV} : okO (some (.ok sv ρ)) = some (.ok sv ρ) := rfl
theorem e_mk : vMk n Ψ fs ρ = bnK (fun os ρ => mkO n Ψ ρ (vals os)) (fs ρ) := rfl
theorem k_mk {ds : List D} : mkO n Ψ ρ (some ds) = if ds.length = n then mkQ ρ (Ψ ds) else none := by
  show (if ds.length = n then (Ψ ds).map (fun d => Out.ok (SV.sh d) ρ) else none) = _
  cases Ψ ds <;> rfl
theorem k_mkQ {d : D} : mkQ ρ (some d) = some (.ok (.sh d) ρ) := rfl
theorem k_fld {ns : List Str} {fd : List D} : gFld c f (.ob c ns fd) = ((ns.zip fd).lookup f).map .sh := by
  show (if c = c then _ else none) = _
  rw [if_pos rfl]
end
end Sim

namespace Sim
open PySem PySem.Spec PyProof.Rows L2
/-! ### classes as the top has made them -/
structure ClsIs (K : PySem.W.Frag) (mg : Str → Option Value) (c : Str) (C : Addr) : Prop where
  hC : PySem.W.nsIn K mainGlobals c = some (some (.ref C))
  cl : Cls K C
  mgC : mg c = some (.ref C)
  mks : PySem.W.makesIn K C = true
  kp : PySem.W.keepIn K (.ref C) = true
def FldAt (K : PySem.W.Frag) (c f : Str) : Prop := ∃ C, PySem.W.nsIn K mainGlobals c = some (some (.ref C)) ∧ Cls K C ∧ NoAttr K C f
def MethAt (K : PySem.W.Frag) (c m : Str) (st : Stmt) (ps : List Str) : Prop := ∃ C f fd, PySem.W.nsIn K mainGlobals c = some (some (.ref C)) ∧ Cls K C ∧ Meth K C m f ∧ Fun K m (c ++ "." ++ m) st f fd ∧ Binds K fd ps []
section
variable {K : PySem.W.Frag} {h : Heap} {mg : Str → Option Value} {c : Str} {C : Addr} {R : Prop}
theorem MethAt.mk {m : Str} {st : Stmt} {ps : List Str} (I : ClsIs K mg c C) (M : MethAt K c m st ps) : ∃ f fd, Meth K C m f ∧ Fun K m (c ++ "." ++ m) st f fd ∧ Binds K fd ps [] := by
  obtain ⟨C', f, fd, h1, _, h2, h3, h4⟩ := M
  have e := I.hC
  rw [h1] at e
  cases e
  exact ⟨f, fd, h2, h3, h4⟩
end
end Sim

namespace Sim
open PySem PySem.Spec PyProof.Rows L2
/-! ### the levels, as plain data -/
def dtP (ps : List (List Int × Int)) : List (List L2.Key × V) := ps.map fun p => (keyL p.1, V.int p.2)
/-! ### the promise of take -/
def lvF (n : Int) (kA nA tA : Addr) : List (Str × V) := [("n", .int n), ("kinds", .ref kA), ("numbers", .ref nA), ("times", .ref tA)]
theorem FldAt.na {K : PySem.W.Frag} {mg : Str → Option Value} {c f : Str} {C : Addr} (I : ClsIs K mg c C) (F : FldAt K c f) : NoAttr K C f := by
  obtain ⟨C', h1, _, h3⟩ := F
  have e := I.hC
  rw [h1] at e
  cases e
  exact h3
end Sim

namespace Sim
open PySem PySem.Spec PyProof.Rows L2
/-! ### for Level.__init__ -/
def newP (H0 H : Hp) (x : Addr) : Hp := fun a => if a = x ∨ H0 a = none then H a else none
theorem newP_at {H0 H : Hp} {x a : Addr} (h : a = x ∨ H0 a = none) : newP H0 H x a = H a := if_pos h
abbrev kD (ks : List (Int × Int)) : List D := ks.map fun q => D.tup [.int q.1, .int q.2]
theorem kD_T : ∀ ks : List (Int × Int), isTL (kD ks) = true
  | [] => rfl
  | q :: ks => kD_T ks
/-- what stands while the symbols are laid in -/
structure LvI (K : PySem.W.Frag) (C x dx kA nA tA : Addr) (n : Int) (T : List Int) (H0 H : Hp) (s : List (Int × Int) × List (List Int × Int)) : Prop where
  ox : H x = some (.ins C dx (lvF n kA nA tA))
  on : H nA = some (.dT (dtP s.2))
  ot : H tA = some (.lst (T.map V.int))
  ok : ∃ xs, H kA = some (.lst xs) ∧ RepL K (newP H0 H x) xs (kD s.1)
  kp : ∀ b o, H0 b = some o → b ≠ x → ¬ inT b → H b = some o
  tb : LamX.Tabs lamT H
  t0 : LamX.Tabs lamT H0
section
variable {K : PySem.W.Frag} {C x dx kA nA tA : Addr} {n : Int} {T : List Int} {H0 H H' : Hp} {s : List (Int × Int) × List (List Int × Int)}
theorem LvI.mono (I : LvI K C x dx kA nA tA n T H0 H s) (e : SameN H H') (tb : LamX.Tabs lamT H') : LvI K C x dx kA nA tA n T H0 H' s := by
  obtain ⟨xs, h1, h2⟩ := I.ok
  refine ⟨e _ _ I.ox (notT I.tb I.ox), e _ _ I.on (notT I.tb I.on), e _ _ I.ot (notT I.tb I.ot), ⟨xs, e _ _ h1 (notT I.tb h1), RepL.tmono (fun a ys q => ?_) _ _ (kD_T _) h2⟩, fun b o h hb nt => e _ _ (I.kp b o h hb nt) nt, tb, I.t0⟩
  unfold newP at q ⊢
  split at q
  · rename_i hc
    rw [if_pos hc]
    exact e a _ q (notT I.tb q)
  · cases q
theorem LvI.put {xs : List V} {t : Addr} {u v : Int} {ps : List (List Int × Int)} (I : LvI K C x dx kA nA tA n T H0 H s) (hk : H kA = some (.lst xs)) (hr : RepL K (newP H0 H x) xs (kD s.1)) (k0 : H0 kA = none) (n0 : H0 nA = none) (xk : x ≠ kA) (xn : x ≠ nA) (tk : tA ≠ kA) (tn : tA ≠ nA)
    (h1 : H' t = some (.tup [.int u, .int v])) (h2 : H t = none) (h3 : H' kA = some (.lst (xs ++ [.ref t]))) (h4 : H' nA = some (.dT (dtP ps))) (h5 : ∀ b o, H b = some o → b ≠ kA → b ≠ nA → H' b = some o) : LvI K C x dx kA nA tA n T H0 H' (s.1 ++ [(u, v)], ps) := by
  have ht0 : H0 t = none := by
    cases e : H0 t with
    | none => rfl
    | some o =>
      by_cases h : t = x
      · subst h
        rw [I.ox] at h2
        cases h2
      · by_cases z : inT t
        · exact (notT_none I.tb h2 z).elim
        · rw [I.kp _ _ e h z] at h2
          cases h2
  refine ⟨h5 _ _ I.ox xk xn, h4, h5 _ _ I.ot tk tn, ⟨_, h3, ?_⟩, fun b o h hb nt => h5 _ _ (I.kp b o h hb nt) (ne_of_none h k0) (ne_of_none h n0), tabs_of I.tb (fun b o h np => h5 b o h (fun z => ?_) fun z => ?_), I.t0⟩
  rotate_left
  · rw [z, hk] at h
    cases h
    exact np plain_lst
  · rw [z, I.on] at h
    cases h
    exact np plain_dT
  have e1 : RepL K (newP H0 H' x) xs (kD s.1) := RepL.tmono (fun a ys q => by
    unfold newP at q ⊢
    split at q
    · rename_i hc
      rw [if_pos hc]
      exact h5 _ _ q (ne_of q hk (by intro z; cases z)) (ne_of q I.on (by intro z; cases z))
    · cases q) _ _ (kD_T _) hr
  have e2 : kD (s.1 ++ [(u, v)]) = kD s.1 ++ [D.tup [.int u, .int v]] := List.map_append
  show RepL K (newP H0 H' x) (xs ++ [.ref t]) (kD (s.1 ++ [(u, v)]))
  rw [e2]
  exact e1.append (.cons (.tup (.inl (by rw [newP_at (.inr ht0)]; exact h1)) (.cons (.int u) (.cons (.int v) .nil))) .nil)
theorem dtP_zip : ∀ ps : List (List Int × Int), dtP ps = ((ps.map (·.1)).map keyL).zip (ps.map fun p => V.int p.2)
  | [] => rfl
  | p :: ps => by
    show (keyL p.1, V.int p.2) :: dtP ps = (keyL p.1, V.int p.2) :: _
    rw [dtP_zip ps]
    rfl
theorem ints_rep {H : Hp} : ∀ ps : List (List Int × Int), RepL K H (ps.map fun p => V.int p.2) (ps.map fun p => D.int p.2)
  | [] => .nil
  | p :: ps => .cons (.int _) (ints_rep ps)
theorem LvI.fin (I : LvI K C x dx kA nA tA n (lvT n) H0 H (lvEnd n)) (hC : PySem.W.nsIn K mainGlobals "Level" = some (some (.ref C))) (k0 : H0 kA = none) (n0 : H0 nA = none) (t0 : H0 tA = none) {B : Hp} : NewR K B H0 H x (.ref x) (lvOb n) := by
  refine NewR.of ?_
  obtain ⟨xs, h1, h2⟩ := I.ok
  have e1 : newP H0 H x x = some (.ins C dx (lvNames.zip [.int n, .ref kA, .ref nA, .ref tA])) := by
    rw [newP_at (.inl rfl)]
    exact I.ox
  have e2 : newP H0 H x kA = some (.lst xs) := by
    rw [newP_at (.inr k0)]
    exact h1
  have e3 : newP H0 H x nA = some (.dT ((((lvEnd n).2.map (·.1)).map keyL).zip ((lvEnd n).2.map fun p => V.int p.2))) := by
    rw [newP_at (.inr n0), ← dtP_zip]
    exact I.on
  have e4 : newP H0 H x tA = some (.lst ((lvT n).map V.int)) := by
    rw [newP_at (.inr t0)]
    exact I.ot
  exact Rep.lv_of (.ob hC e1 rfl (.cons (.int n) (.cons (.lst e2 h2) (.cons (.dct e3 (by rw [List.length_map, List.length_map]) (ints_rep _)) (.cons (.lst e4 (RepL.ints _)) .nil)))))
end
end Sim


namespace Sim
open PySem PySem.Spec PyProof.Rows L2
/-! ### the levels' data, told fast -/
end Sim

namespace Sim
open PySem PySem.Spec PyProof.Rows L2
/-! ### errors of the text's own classes -/
structure ExcIs (K : PySem.W.Frag) (mg : Str → Option Value) (x : Str) (C : Addr) : Prop where
  mgC : mg x = some (.ref C)
  xC : PySem.W.excIn K C [.type "ValueError", .type "Exception", .type "BaseException", .type "object"] "ValueError.__new__" = true
  kC : PySem.W.keepIn K (.ref C) = true
  bC : PySem.W.subIn K (.ref C) (.type "BaseException") = some true
  tC : PySem.W.typeIn K (.ref C) = some (.type "type")
  ec : ExcC K C
section
variable {cv : Nat → Value} {X : Cx} {W : WX} {x m : Str} {C : Addr} {p p2 pos pos2 : Pos} {c j : Nat}
end

/-! ### a def called where an error is handled: it sees the error, and raises nothing -/
section
variable {P : Program} {w' : World} {K : PySem.W.Frag} {mg : Str → Option Value} {base : Heap} {cv : Nat → Value}
end
section
variable {X : Cx} {CX : CXT} {k : Nat} {f : Addr} {fd : FuncData} {ps : List Str} {cls : Value} {sp : Addr → Sp} {E : L2.St → XK} {x : Str} {q pos : Pos} {e : Expr} {es : List Expr} {t : TA} {pe : Addr × Obj}
end
section
variable {cv : Nat → Value} {X : Cx} {W : WX} {e : Expr} {es : List Expr} {ts : TA} {fs : M (List Op)} {pos p pt : Pos} {pe : Addr × Obj}
end
end Sim

namespace Sim
open PySem PySem.Spec PyProof.Rows L2
/-! ### try: .. except X as e: .. -/
section
variable {K : PySem.W.Frag} {F B H : Hp} {σ : L2.St} {ρ : Sl} {i : Nat}
theorem Agr.set {w : List Nat} {σ1 : L2.St} {x : Option V} (h : Agr w σ σ1) : Agr (w ++ [i]) σ (σ1.set i x) := fun j hj => by
  rw [List.mem_append, not_or, List.mem_singleton] at hj
  rw [List.getElem?_set_ne (Ne.symm hj.2)]
  exact h j hj.1
end
section
variable {cv : Nat → Value} {X : Cx} {W : WX} {i : Nat} {m : SM} {n : Nat → Addr → SM} {w w' : List Nat} {cs : List Nat} {tb : WX → TS} {ts : Nat → Addr → TS} {x y : Str} {np pos pos' : Pos} {body suite : List Stmt} {b₀ : Stmt}
end
end Sim

namespace Sim
open PySem PySem.Spec PyProof.Rows L2
section
variable {cv : Nat → Value} {X : Cx} {W : WX} {i : Nat} {m : SM} {n : Nat → Addr → SM} {w w' : List Nat} {cs : List Nat} {x y : Str} {np pos pos' : Pos} {body suite : List Stmt} {b₀ : Stmt}
end
theorem all_nil {P : Nat → Prop} : ∀ c, c ∈ ([] : List Nat) → P c := fun _ h => nomatch h
theorem all_cons {P : Nat → Prop} {a : Nat} {l : List Nat} (h : P a) (t : ∀ c, c ∈ l → P c) : ∀ c, c ∈ a :: l → P c := fun c hc => by
  rcases List.mem_cons.mp hc with rfl | hc
  · exact h
  · exact t c hc
section
variable {cv : Nat → Value} {dv : Nat → Addr} {X : Cx} {W : WX} {pos pt pp : Pos} {pe : Addr × Obj} {cs : List Nat} {c : Nat} {p : Nat → Bool}
end
section
variable {K : PySem.W.Frag} {h : Heap} {mg : Str → Option Value} {x : Str} {C : Addr} {R : Prop}
end
end Sim

namespace Sim
open PySem PySem.Spec PyProof.Rows L2
/-! ### list.index of a truth -/
/-! ### what a walk wants of the errors -/
abbrev ExcIs.adr {K : PySem.W.Frag} {mg : Str → Option Value} {x : Str} {C : Addr} (_ : ExcIs K mg x C) : Addr := C
section
variable {K : PySem.W.Frag} {h : Heap} {mg : Str → Option Value} {x y : Str} {C D : Addr} {b : Bool} {T : String} {R : Prop}
end
end Sim

namespace Sim
open PySem PySem.Spec PyProof.Rows L2
/-! ### dicts that a slot owns -/
def keyD : D → Option L2.Key
  | .int i => some (.inl i)
  | .str s => some (.inr s)
  | _ => none
def setVs {κ : Type} [DecidableEq κ] (k : κ) (d : D) : List κ → List D → List D
  | k' :: ks, v :: vs => (if k' = k then d else v) :: setVs k d ks vs
  | _, _ => []
def putKs {κ : Type} [DecidableEq κ] (ks : List κ) (k : κ) : List κ := if k ∈ ks then ks else ks ++ [k]
def putVs {κ : Type} [DecidableEq κ] (ks : List κ) (vs : List D) (k : κ) (d : D) : List D := if k ∈ ks then setVs k d ks vs else vs ++ [d]
def lookD {κ : Type} [DecidableEq κ] (ks : List κ) (vs : List D) (k : κ) : Option D := (ks.zip vs).lookup k
section
variable {κ : Type} [DecidableEq κ]
end
theorem OpRep.dck {K : PySem.W.Frag} {B H : Hp} {v : V} (e : Same B H) {ks : List L2.Key} {vs : List D} (h : OpRep K B H v (.dck ks vs)) : ∃ a xs, v = .ref a ∧ H a = some (.dK (ks.zip xs)) ∧ ks.length = vs.length ∧ RepL K B xs vs := by
  cases h with
  | sh r =>
    cases r with
    | dck h hl r => exact ⟨_, _, rfl, e _ _ h, hl, r⟩
  | @own a o xs c _ hB hH hO r e =>
    cases c with
    | dk ks' vs' =>
      cases e
      obtain ⟨rfl, hl⟩ := hO
      exact ⟨_, _, rfl, hH, hl, r⟩
    | lst _ => cases e
    | dt _ _ => cases e
    | ob _ _ _ => cases e
/-! #### {} and {k: v} -/
def vDnK : M SV := ret (.ow (.dk [] []))
def vDnT : M SV := ret (.ow (.dt [] []))
section
variable {cv : Nat → Value} {X : Cx} {W : WX} {a b e o : Expr} {ta tb te : TE} {fa fb : M Op} {f : M SV} {pos pos' p p2 : Pos}
/-- what was set aside is changed, and nobody's -/
theorem Rel.free {K : PySem.W.Frag} {F B H : Hp} {σ : L2.St} {ρ : Sl} {d : Addr} {o o' : HO} (R : Rel K (upd F d o) B H σ ρ) (hF : F d = none) (ho : PlainO o := by exact plain_dK) : Rel K F B (upd H d o') σ ρ ∧ B d = none ∧ ∀ i, ¬ Owns σ ρ i d := by
  have hB : B d = none := R.dis d o upd_same
  have no : ∀ i, ¬ Owns σ ρ i d := fun i w => by
    obtain ⟨_, _, _, _, h, _⟩ := w.at R
    rw [upd_same] at h
    cases h
  have hd : H d = some o := R.exF d _ upd_same
  refine ⟨⟨fun a x e => ?_, fun a x e => ?_, fun a x e => ?_, R.len, fun i sv h => ?_, R.sep, (R.tb.put fun u e => by rw [hd] at e; cases e; exact ho).both R.tb.nB fun p hp => ?_⟩, hB, no⟩
  rotate_left 4
  · have := R.tb.nF p hp
    rw [upd_ne (R.tb.ne hd ho.1 hp)] at this
    exact this
  · rw [upd_ne fun z => by rw [z, hB] at e; cases e]
    exact R.exB a x e
  · rw [upd_ne fun z => by rw [z, hF] at e; cases e]
    refine R.exF a x ?_
    rw [upd_ne fun z => by rw [z, hF] at e; cases e]
    exact e
  · refine R.dis a x ?_
    rw [upd_ne fun z => by rw [z, hF] at e; cases e]
    exact e
  · have s := R.slot i sv h
    generalize hg : σ[i]? = w at s
    cases s with
    | sh r => exact .sh r
    | @fr a oo xs' c hF' hB' hH hO r =>
      have z : a ≠ d := fun z => by
        rw [z, upd_same] at hF'
        cases hF'
      rw [upd_ne z] at hF'
      exact .fr hF' hB' (by rw [upd_ne z]; exact hH) hO r
/-! #### d[k] = v -/
def dpK (i : Nat) (o p : Op) : SM := fun ρ => match o, p, ρ[i]? with
  | .val d, .val dk, some (some (.ow (.dk ks vs))) => (keyD dk).bind fun k => if ks.length < 1000000 then some (.nx (ρ.set i (some (.ow (.dk (putKs ks k) (putVs ks vs k d)))))) else none
  | _, _, _ => none
def isDk (ρ : Sl) (i : Nat) : Bool := match ρ[i]? with
  | some (some (.ow (.dk _ _))) => true
  | _ => false
def isDt (ρ : Sl) (i : Nat) : Bool := match ρ[i]? with
  | some (some (.ow (.dt _ _))) => true
  | _ => false
def sDPutK (i : Nat) (f k : M Op) : SM := sEx f fun o ρ => if isDk ρ i = true then sEx k (fun p => dpK i o p) ρ else none
/-- .. of a tuple that is made there -/
def dtK (i : Nat) (o : Op) (ps : List Op) : SM := fun ρ => match o, vals ps, ρ[i]? with
  | .val d, some kd, some (some (.ow (.dt ks vs))) => (intL kd).bind fun k => if ks.length < 1000000 ∧ kd.length ≤ 1000000 then some (.nx (ρ.set i (some (.ow (.dt (putKs ks k) (putVs ks vs k d)))))) else none
  | _, _, _ => none
def sDPutT (i : Nat) (f : M Op) (k : M (List Op)) : SM := sEx f fun o ρ => if isDt ρ i = true then sEx k (fun p => dtK i o p) ρ else none
end
end Sim

namespace Sim
open PySem PySem.Spec PyProof.Rows L2
/-! ### dicts whose keys are whole numbers and texts: read -/
def memK {κ : Type} [DecidableEq κ] (k : κ) (ks : List κ) : Bool := decide (k ∈ ks)
def gInK (neg : Bool) : D → D → Option SV
  | d, .dck ks _ => (keyD d).map fun (k : L2.Key) => .sh (.bl (neg ^^ memK k ks))
  | _, _ => none
def gDxK : D → D → Option SV
  | .dck ks vs, d => (keyD d).bind fun k => (lookD ks vs k).map .sh
  | _, _ => none
section
variable {X : Cx} {K : PySem.W.Frag}
end
section
variable {cv : Nat → Value} {X : Cx} {W : WX} {a b c e o : Expr} {es : List Expr} {ta tb tc te to : TE} {fa fb fc : M Op} {f : M SV} {fs : M (List Op)} {ts : TA} {pos apos p p2 : Pos}
/-! d.get(k, x) -/
end
/-! len(d) -/
/-! ### x in a list, a tuple, a text -/
section
variable {X : Cx} {K : PySem.W.Frag}
/-! ### list.index -/
/-! ### sorted, of whole numbers -/
/-! ### divmod, tuple -/
/-! ### ' '.join(..) -/
end
end Sim

namespace Sim
open PySem PySem.Spec PyProof.Rows L2
/-! ### x[k] += e, of a list that a slot owns -/
section
variable {X : Cx}
end
section
variable {cv : Nat → Value} {X : Cx} {W : WX} {e k o : Expr} {te tk : TE} {f : M SV} {fk : M Op} {pos tpos : Pos} {op : Operator} {g : Int → Int → Int} {i : Nat}
end
/-! ### instances that a slot owns -/
section
variable {cv : Nat → Value} {X : Cx} {W : WX} {e o : Expr} {te : TE} {fe : M SV} {pos apos : Pos} {i : Nat} {C : Addr} {c f : Str}
end
/-! ### __init__ -/
section
variable {P : Program} {w' : World} {K : PySem.W.Frag} {mg : Str → Option Value} {base : Heap} {cv : Nat → Value}
end
section
variable {ρ : Sl} {c f : Str} {i L : Nat} {m : SM} {ds : List D} {d : D} {ns : List Str} {fs : List D} {c' : Nat}
end
end Sim

namespace Sim
open PySem PySem.Spec PyProof.Rows L2
/-! ### methods that may raise -/
section
variable {X : Cx} {o e : Expr} {es : List Expr} {ta : TE} {t : TA} {pos apos : Pos} {C f : Addr} {m : Str} {k : Nat} {fd : FuncData} {ps : List Str} {sp : Sp} {E : L2.St → XK} {CX : CXT}
end
section
variable {cv : Nat → Value} {X : Cx} {W : WX} {o e : Expr} {es : List Expr} {to : TE} {ts : TA} {fo : M Op} {fs : M (List Op)} {pos apos : Pos} {C : Addr} {c m : Str}
end
/-! ### making that may raise -/
section
variable {X : Cx} {e : Expr} {es : List Expr} {t : TA} {pos p : Pos} {C f : Addr} {x : Str} {k : Nat} {fd : FuncData} {ps : List Str} {sp : Sp} {E : L2.St → XK} {CX : CXT}
end
end Sim

namespace Sim
open PySem PySem.Spec PyProof.Rows L2
/-! ### a tuple of names, in a block -/
theorem sng_tupK {K : PySem.W.Frag} {X : Cx} {es : List Expr} {pos : Pos} {w : List Nat} {k len : Nat} {tgs : TGs} {gs : List D → Sl → Option Sl} (hK : X.K = K) (hc : X.calm = true) (h : SndGs X es tgs gs w)
    (hn : (assignEach es X.env).length = len := by rfl) (hst : (assignEach es X.env).findIdx? (·.1) = none := by rfl) : SndG X (.Tuple es k pos) (gTup K len tgs) (gT len gs) w := by
  subst hK
  exact sng_tup hc h hn hst
/-! ### three names, exchanged -/
section
variable {cv : Nat → Value} {X : Cx} {W : WX} {a b c : Expr}
end
end Sim

namespace Sim
open PySem PySem.Spec PyProof.Rows L2
/-! ### runs that the kernel can work out: what they tell the runs tell -/
def Le {β : Type} (f g : Sl → Option β) : Prop := ∀ ρ r, f ρ = some r → g ρ = some r
section
variable {f f' g g' h h' : M SV} {a a' b b' c c' : M Op} {as as' : M (List Op)} {t t' u u' : M Bool} {m m' n n' : SM} {q q' : M (Option Int)} {it it' : M Itb}
/-! #### statements -/
end
/-! #### comprehensions -/
/-! #### data, held against each other -/
mutual
def eqS : D → D → Bool
  | .non, .non => true
  | .bl a, .bl b => a == b
  | .int a, .int b => a == b
  | .str a, .str b => a == b
  | .tup l, .tup m => eqSL l m
  | .lst l, .lst m => eqSL l m
  | .ob c ns fs, .ob c' ns' fs' => c == c' && (ns == ns' && eqSL fs fs')
  | .lv a, .lv b => a == b
  | _, _ => false
def eqSL : List D → List D → Bool
  | [], [] => true
  | d :: ds, e :: es => eqS d e && eqSL ds es
  | _, _ => false
end
mutual
theorem eqS_eq : ∀ (d e : D), eqS d e = true → d = e
  | .non, e, h => by cases e <;> first | rfl | (unfold eqS at h; cases h)
  | .bl a, e, h => by
    cases e with
    | bl b => unfold eqS at h; rw [beq_iff_eq.mp h]
    | _ => unfold eqS at h; cases h
  | .int a, e, h => by
    cases e with
    | int b => unfold eqS at h; rw [beq_iff_eq.mp h]
    | _ => unfold eqS at h; cases h
  | .str a, e, h => by
    cases e with
    | str b => unfold eqS at h; rw [beq_iff_eq.mp h]
    | _ => unfold eqS at h; cases h
  | .tup l, e, h => by
    cases e with
    | tup m => unfold eqS at h; rw [eqSL_eq l m h]
    | _ => unfold eqS at h; cases h
  | .lst l, e, h => by
    cases e with
    | lst m => unfold eqS at h; rw [eqSL_eq l m h]
    | _ => unfold eqS at h; cases h
  | .ob c ns fs, e, h => by
    cases e with
    | ob c' ns' fs' =>
      unfold eqS at h
      rw [Bool.and_eq_true, Bool.and_eq_true] at h
      rw [beq_iff_eq.mp h.1, beq_iff_eq.mp h.2.1, eqSL_eq fs fs' h.2.2]
    | _ => unfold eqS at h; cases h
  | .lv a, e, h => by
    cases e with
    | lv b => unfold eqS at h; rw [beq_iff_eq.mp h]
    | _ => unfold eqS at h; cases h
  | .scr _, e, h => by unfold eqS at h; cases h
  | .dct _ _, e, h => by unfold eqS at h; cases h
  | .dck _ _, e, h => by unfold eqS at h; cases h
  | .adr _, e, h => by unfold eqS at h; cases h
  | .fn _ _ _, e, h => by unfold eqS at h; cases h
theorem eqSL_eq : ∀ (l m : List D), eqSL l m = true → l = m
  | [], m, h => by
    cases m with
    | nil => rfl
    | cons _ _ => unfold eqSL at h; cases h
  | d :: ds, m, h => by
    cases m with
    | nil => unfold eqSL at h; cases h
    | cons e es =>
      unfold eqSL at h
      rw [Bool.and_eq_true] at h
      rw [eqS_eq d e h.1, eqSL_eq ds es h.2]
end
end Sim

namespace Sim
open PySem PySem.Spec PyProof.Rows L2
/-! ### the new runs, applied -/
def isDtK : Option (Option SV) → Bool
  | some (some (.ow (.dt _ _))) => true
  | _ => false
def isDkK : Option (Option SV) → Bool
  | some (some (.ow (.dk _ _))) => true
  | _ => false
def dtIK (i : Nat) (ρ : Sl) (d : D) (kk : List Int) : Option (Option SV) → Option SO
  | some (some (.ow (.dt ks vs))) => if ks.length < 1000000 ∧ kk.length ≤ 1000000 then some (.nx (ρ.set i (some (.ow (.dt (putKs ks kk) (putVs ks vs kk d)))))) else none
  | _ => none
def dkIK (i : Nat) (ρ : Sl) (d : D) (kk : L2.Key) : Option (Option SV) → Option SO
  | some (some (.ow (.dk ks vs))) => if ks.length < 1000000 then some (.nx (ρ.set i (some (.ow (.dk (putKs ks kk) (putVs ks vs kk d)))))) else none
  | _ => none
section
variable {ρ : Sl} {i j l : Nat} {d x y z : D} {ks : List (List Int)} {kk : List L2.Key} {vs ds : List D} {a b : Int} {key : L2.Key} {f k : M Op} {as : M (List Op)} {o p : Op}
theorem e_dnK : vDnK ρ = some (.ok (.ow (.dk [] [])) ρ) := rfl
theorem e_dnT : vDnT ρ = some (.ok (.ow (.dt [] [])) ρ) := rfl
theorem e_dputT : sDPutT i f as ρ = exK (fun o ρ => if isDt ρ i = true then sEx as (fun p => dtK i o p) ρ else none) (f ρ) := rfl
theorem e_dputK : sDPutK i f k ρ = exK (fun o ρ => if isDk ρ i = true then sEx k (fun p => dpK i o p) ρ else none) (f ρ) := rfl
theorem e_isDt : isDt ρ i = isDtK ρ[i]? := by unfold isDt isDtK; generalize ρ[i]? = x; rcases x with _ | _ | _ | c <;> first | rfl | (cases c <;> rfl)
theorem e_isDk : isDk ρ i = isDkK ρ[i]? := by unfold isDk isDkK; generalize ρ[i]? = x; rcases x with _ | _ | _ | c <;> first | rfl | (cases c <;> rfl)
theorem k_isDt : isDtK (some (some (.ow (.dt ks vs)))) = true := rfl
theorem k_isDk : isDkK (some (some (.ow (.dk kk vs)))) = true := rfl
theorem e_dtK2 : dtK i (.val d) [.val (.int a), .val (.int b)] ρ = dtIK i ρ d [a, b] ρ[i]? := by
  unfold dtK dtIK
  show (match Op.val d, some [D.int a, D.int b], ρ[i]? with | .val d, some kd, some (some (.ow (.dt ks vs))) => (intL kd).bind fun k => if ks.length < 1000000 ∧ kd.length ≤ 1000000 then some (SO.nx (ρ.set i (some (.ow (.dt (putKs ks k) (putVs ks vs k d)))))) else none | _, _, _ => none) = _
  generalize ρ[i]? = x
  rcases x with _ | _ | _ | c <;> first | rfl | (cases c <;> rfl)
theorem e_dpK : dpK i (.val d) (.val x) ρ = (keyD x).bind fun k => dkIK i ρ d k ρ[i]? := by
  unfold dpK dkIK
  generalize ρ[i]? = w
  generalize hk : keyD x = kx
  rcases w with _ | _ | _ | c
  · cases kx <;> rfl
  · cases kx <;> rfl
  · cases kx <;> rfl
  · cases c with
    | dk ks vs =>
      show ((keyD x).bind fun k => if ks.length < 1000000 then some (SO.nx (ρ.set i (some (.ow (.dk (putKs ks k) (putVs ks vs k d)))))) else none) = _
      rw [hk]
    | _ => cases kx <;> rfl
theorem k_dtI : dtIK i ρ d [a, b] (some (some (.ow (.dt ks vs)))) = if ks.length < 1000000 then some (.nx (ρ.set i (some (.ow (.dt (putKs ks [a, b]) (putVs ks vs [a, b] d)))))) else none := by
  show (if ks.length < 1000000 ∧ 2 ≤ 1000000 then _ else _) = _
  by_cases h : ks.length < 1000000
  · rw [if_pos h, if_pos ⟨h, by decide⟩]
  · rw [if_neg h, if_neg fun q => h q.1]
theorem k_dkI : dkIK i ρ d key (some (some (.ow (.dk kk vs)))) = if kk.length < 1000000 then some (.nx (ρ.set i (some (.ow (.dk (putKs kk key) (putVs kk vs key d)))))) else none := rfl
theorem e_keyI {n : Int} : keyD (.int n) = some (.inl n) := rfl
theorem e_keyS {s : Str} : keyD (.str s) = some (.inr s) := rfl
theorem e_inK {neg : Bool} : gInK neg x (.dck kk vs) = (keyD x).map fun (k : L2.Key) => .sh (.bl (neg ^^ memK k kk)) := rfl
theorem e_dxK : gDxK (.dck kk vs) x = (keyD x).bind fun k => (lookD kk vs k).map .sh := rfl
theorem e_inT {neg : Bool} {l : List D} : gIn neg (.tup l) (.dct ks vs) = (intL l).map fun k => .sh (.bl (neg ^^ decide (k ∈ ks))) := rfl
theorem e_dxT {l : List D} : gDx (.dct ks vs) (.tup l) = (intL l).bind fun k => (dctV ks vs k).map .sh := rfl
theorem e_intL2 : intL [.int a, .int b] = some [a, b] := rfl
end
/-! ### dicts told by pairs -/
end Sim

namespace Sim
open PySem PySem.Spec PyProof.Rows L2
/-! ### lists worked out before they are used, fast looks into dicts -/
/-! #### what is changed is worked out -/
/-! #### loops whose states are worked out -/
/-! #### comparisons of whole numbers -/
end Sim

namespace Sim
open PySem PySem.Spec PyProof.Rows L2
/-! ### min of a list of pairs -/
section
variable {X : Cx}
end
end Sim

namespace Sim
open PySem PySem.Spec PyProof.Rows L2
/-! ### sorted, of tuples of whole numbers -/
section
variable {X : Cx}
end
end Sim

namespace Sim
open PySem PySem.Spec PyProof.Rows L2

/-! ### a list so many times -/
def repL (n : Nat) (l : List D) : List D := (List.replicate n l).flatten
def gRep : D → D → Option SV
  | .lst l, .int k => if -(2 ^ 62) ≤ k ∧ k < 2 ^ 62 ∧ l.length * k.toNat ≤ 1000000 then some (.fr (repL k.toNat l)) else none
  | _, _ => none
theorem RepL.rep {K : PySem.W.Frag} {H : Hp} {xs : List V} {ds : List D} (r : RepL K H xs ds) : ∀ n : Nat, RepL K H (List.replicate n xs).flatten (repL n ds)
  | 0 => .nil
  | n + 1 => by
    unfold repL
    rw [List.replicate_succ, List.replicate_succ, List.flatten_cons, List.flatten_cons]
    exact r.append (RepL.rep r n)
section
variable {cv : Nat → Value} {X : Cx} {W : WX} {K : PySem.W.Frag} {a b : Expr} {ta tb : TE} {fa fb : M Op} {pos : Pos}
theorem ok_rep : Ok2 K rRep gRep := by
  intro F B H σ ρ x y dx dy sv Q R hx hy hg q
  unfold gRep at hg
  split at hg
  · rename_i l k
    split at hg
    · rename_i hc
      cases hg
      obtain ⟨a, xs, rfl, h1, r1⟩ := hx.lst R.exB
      refine ⟨a, k, xs, rfl, hy.int, h1, by omega, by omega, ?_, fun p hp => q _ B _ (R.new hp) (Same.refl _) (RV.newL R hp (r1.rep _))⟩
      rw [r1.length]
      exact mill_le hc.2.2
    · cases hg
  · cases hg
theorem snd_rep (ha : SndO cv X W a ta fa) (hb : SndO cv X W b tb fb) : SndE cv X W (.BinOp a .Mult b pos) (tOp rRep ta tb) (vOp2 gRep fa fb) := snd_bin op_rep ok_rep ha hb
end
theorem repL_1 (d : D) (n : Nat) : repL n [d] = List.replicate n d := by
  unfold repL
  induction n with
  | zero => rfl
  | succ n ih => rw [List.replicate_succ, List.flatten_cons, ih, List.replicate_succ]; rfl
theorem e_rep1 {d : D} {k : Int} (h : -(2 ^ 62) ≤ k ∧ k < 2 ^ 62 ∧ k.toNat ≤ 1000000) : gRep (.lst [d]) (.int k) = some (.fr (List.replicate k.toNat d)) := by
  show (if -(2 ^ 62) ≤ k ∧ k < 2 ^ 62 ∧ 1 * k.toNat ≤ 1000000 then some (SV.fr (repL k.toNat [d])) else none) = _
  rw [if_pos ⟨h.1, h.2.1, by omega⟩, repL_1]
end Sim

namespace Sim
open PySem PySem.Spec PyProof.Rows L2

/-! ### more runs that the kernel works out fast -/
/-! #### comprehensions, the states worked out -/
/-! #### an item of a list -/
/-! #### d[k] = v -/
end Sim

namespace Sim
open PySem PySem.Spec PyProof.Rows L2

/-! ### a, b, .. = a list -/
def gLs (n : Nat) (gs : List D → Sl → Option Sl) : SV → Sl → Option Sl := fun sv ρ => match sv with
  | .sh (.lst l) => if l.length = n then gs l ρ else none
  | .ow (.lst l) => if l.length = n then gs l ρ else none
  | _ => none
theorem e_gLs1 {n : Nat} {gs : List D → Sl → Option Sl} {l : List D} {ρ : Sl} : gLs n gs (.sh (.lst l)) ρ = if l.length = n then gs l ρ else none := rfl
theorem e_gLs2 {n : Nat} {gs : List D → Sl → Option Sl} {l : List D} {ρ : Sl} : gLs n gs (.fr l) ρ = if l.length = n then gs l ρ else none := rfl
end Sim

namespace Sim
open PySem PySem.Spec PyProof.Rows L2

/-! ### a making that may raise -/
inductive MkR where
  | ok (d : D)
  | ex (c : Nat)
def mkRO (ρ : Sl) : MkR → Out SV
  | .ok d => .ok (.sh d) ρ
  | .ex c => .ex c ρ
def mkOE (n : Nat) (Φ : List D → Option MkR) (ρ : Sl) : Option (List D) → Option (Out SV)
  | some ds => if ds.length = n then (Φ ds).map (mkRO ρ) else none
  | none => none
def vMkE (n : Nat) (Φ : List D → Option MkR) (fs : M (List Op)) : M SV := bnd fs fun os ρ => mkOE n Φ ρ (vals os)
section
variable {cv : Nat → Value} {X : Cx} {W : WX} {e : Expr} {es : List Expr} {ts : TA} {fs : M (List Op)} {pos p : Pos} {C f : Addr} {c : Str}
end
/-! ### a def under another name -/
theorem e_mkE {n : Nat} {Φ : List D → Option MkR} {fs : M (List Op)} {ρ : Sl} : vMkE n Φ fs ρ = bnK (fun os ρ => mkOE n Φ ρ (vals os)) (fs ρ) := rfl
theorem k_mkE {n : Nat} {Φ : List D → Option MkR} {ρ : Sl} {ds : List D} : mkOE n Φ ρ (some ds) = if ds.length = n then (Φ ds).map (mkRO ρ) else none := rfl
theorem k_mkR1 {ρ : Sl} {d : D} : mkRO ρ (.ok d) = .ok (.sh d) ρ := rfl
theorem k_mkR2 {ρ : Sl} {c : Nat} : mkRO ρ (.ex c) = .ex c ρ := rfl
end Sim

namespace Sim
open PySem PySem.Spec PyProof.Rows L2

/-! ### texts: partition, split, int, walked -/
section
variable {K : PySem.W.Frag}
end
def signD (s : Str) : List D := s.cps.toList.map fun c => .str ⟨#[c]⟩
def jStr (o : Op) (ρ : Sl) : Option Itb := match get ρ o with
  | some (.str s) => some ⟨signD s, []⟩
  | _ => none
def iSg (a : M Op) : M Itb := liftI a jStr
section
variable {cv : Nat → Value} {X : Cx} {W : WX} {e tg : Expr} {te : TE} {f : M Op}
end
theorem k_jSg {s : Str} {ρ : Sl} : jStr (.val (.str s)) ρ = some ⟨signD s, []⟩ := rfl
theorem e_iSg {f : M Op} {ρ : Sl} : iSg f ρ = bnK (fun o ρ => itK ρ (jStr o ρ)) (f ρ) := rfl
end Sim

namespace Sim
open PySem PySem.Spec PyProof.Rows L2
/-! ### a call of three arguments, the second one a new list that is changed and then forgotten -/
section
variable {K : PySem.W.Frag} {F B H : Hp} {σ : L2.St} {ρ : Sl}
theorem Rel.hold {a : Addr} {o : HO} (R : Rel K F B H σ ρ) (hB : B a = none) (hH : H a = some o) (no : ∀ i, ¬ Owns σ ρ i a) (ho : ∀ ps, o ≠ .tbl ps := by intro _ z; cases z) : Rel K (upd F a o) B H σ ρ := by
  refine ⟨R.exB, fun b p e => ?_, fun b p e => ?_, R.len, fun i sv h => ?_, R.sep, R.tb.toF hH ho⟩
  · by_cases z : b = a
    · subst z
      rw [upd_same] at e
      rw [hH]
      exact e
    · rw [upd_ne z] at e
      exact R.exF _ _ e
  · by_cases z : b = a
    · rw [z]
      exact hB
    · rw [upd_ne z] at e
      exact R.dis b p e
  · have s := R.slot i sv h
    generalize hg : σ[i]? = w at s
    cases s with
    | sh r => exact .sh r
    | @fr b o' xs' c hF hB' hH' hO r =>
      have z : b ≠ a := fun z => by
        subst z
        exact no i ⟨⟨c, h⟩, hg⟩
      refine .fr ?_ hB' hH' hO r
      rw [upd_ne z]
      exact hF
end
def vCallGK (Φ : List D → Option CR) (o1 : Op) (sv : SV) (o3 : Op) : M SV := fun ρ => match o1, sv, o3 with
  | .val d1, .ow (.lst l), .val d3 => cfK ρ (Φ [d1, .lst l, d3])
  | _, _, _ => none
def vCallG (Φ : List D → Option CR) (f1 : M Op) (f2 : M SV) (f3 : M Op) : M SV := bnd f1 fun o1 => bnd f2 fun sv => bnd f3 fun o3 => vCallGK Φ o1 sv o3
section
variable {cv : Nat → Value} {X : Cx} {W : WX} {e1 e2 e3 : Expr} {t1 t2 t3 : TE} {f1 f3 : M Op} {f2 : M SV} {pos p : Pos}
end
theorem e_callG {Φ : List D → Option CR} {f1 f3 : M Op} {f2 : M SV} {ρ : Sl} : vCallG Φ f1 f2 f3 ρ = bnK (fun o1 => bnd f2 fun sv => bnd f3 fun o3 => vCallGK Φ o1 sv o3) (f1 ρ) := rfl
theorem k_callG {Φ : List D → Option CR} {l : List D} {d1 d3 : D} {ρ : Sl} : vCallGK Φ (.val d1) (.fr l) (.val d3) ρ = cfK ρ (Φ [d1, .lst l, d3]) := rfl
end Sim

namespace Sim
open PySem PySem.Spec PyProof.Rows L2
/-! ### dict(zip(xs, ys)): keys whole numbers or texts, none twice -/
section
variable {cv : Nat → Value} {X : Cx} {W : WX} {a b : Expr} {ta : TA} {fs : M (List Op)} {p p2 pos pos2 : Pos}
end
end Sim

namespace Sim
open PySem PySem.Spec PyProof.Rows L2
/-! ### walks over what is a list or a tuple -/
section
variable {cv : Nat → Value} {X : Cx} {W : WX} {e tg : Expr} {te : TE} {f : M Op}
end
end Sim

namespace Sim
open PySem PySem.Spec PyProof.Rows L2
/-! ### a tuple behind a tuple -/
section
variable {cv : Nat → Value} {X : Cx} {W : WX} {a b : Expr} {ta tb : TE} {fa fb : M Op} {pos : Pos}
end
end Sim

namespace Sim
open PySem PySem.Spec PyProof.Rows L2
/-! ### the changed argument is handed back: its list is the caller's no more -/
def dropO (io : Option Nat) (os : List Op) (ρ : Sl) : Sl := match ioSlot io os with
  | some i => ρ.set i none
  | none => ρ
def outB (io : Option Nat) (os : List Op) (ρ : Sl) : CR → Out SV
  | .ret r _ => .ok r (dropO io os ρ)
  | .exc c _ => .ex c (dropO io os ρ)
def callB (kj : Nat) (Φ : List D → Option CR) (os : List Op) : M SV := fun ρ => match gets ρ os with
  | none => none
  | some ds => match Φ ds with
    | none => none
    | some res => if (ioOk (some kj) os ρ && (noBr (some kj) os ρ || resOk (some kj) os ρ res)) = true then some (outB (some kj) os ρ res) else none
def vCallB (n kj : Nat) (Φ : List D → Option CR) (as : M (List Op)) : M SV := bnd as fun os ρ => if os.length = n then callB kj Φ os ρ else none
section
variable {cv : Nat → Value} {X : Cx} {W : WX} {e : Expr} {es : List Expr} {ts : TA} {fs : M (List Op)} {pos p : Pos}
end
def runG (kj : Nat) (L : Nat) (m : SM) (ds : List D) : Option CR := match m (startS (some kj) L ds) with
  | some (.nx _) => some (.ret (.sh .non) [])
  | some (.rt sv _) => some (.ret sv [])
  | some (.ex c _) => some (.exc c [])
  | _ => none
section
variable {P : Program} {w' : World} {K : PySem.W.Frag} {mg : Str → Option Value} {base : Heap} {cv : Nat → Value}
end
/-! equations of the runs -/
section
variable {ρ : Sl} {i j kj L : Nat} {ds : List D} {m : SM} {os : List Op} {Φ : List D → Option CR} {as : M (List Op)} {sv : SV} {r : CR}
def clB (kj : Nat) (Φ : List D → Option CR) (os : List Op) (ρ : Sl) : Option (List D) → Option (Out SV)
  | none => none
  | some ds => match Φ ds with
    | none => none
    | some res => if (ioOk (some kj) os ρ && (noBr (some kj) os ρ || resOk (some kj) os ρ res)) = true then some (outB (some kj) os ρ res) else none
def rsB (kj : Nat) (os : List Op) (ρ : Sl) : Option CR → Option (Out SV)
  | none => none
  | some res => if (ioOk (some kj) os ρ && (noBr (some kj) os ρ || resOk (some kj) os ρ res)) = true then some (outB (some kj) os ρ res) else none
def drK (ρ : Sl) : Option Nat → Sl
  | some i => ρ.set i none
  | none => ρ
def ruG : Option SO → Option CR
  | some (.nx _) => some (.ret (.sh .non) [])
  | some (.rt sv _) => some (.ret sv [])
  | some (.ex c _) => some (.exc c [])
  | _ => none
theorem e_callB : vCallB j kj Φ as ρ = bnK (fun os ρ => if os.length = j then callB kj Φ os ρ else none) (as ρ) := rfl
theorem e_clB : callB kj Φ os ρ = clB kj Φ os ρ (gets ρ os) := by unfold callB clB; generalize gets ρ os = x; cases x <;> rfl
theorem k_clB : clB kj Φ os ρ (some ds) = rsB kj os ρ (Φ ds) := by
  show (match Φ ds with | none => _ | some res => _) = _
  unfold rsB
  cases Φ ds <;> rfl
theorem k_rsB : rsB kj os ρ (some r) = if (ioOk (some kj) os ρ && (noBr (some kj) os ρ || resOk (some kj) os ρ r)) = true then some (outB (some kj) os ρ r) else none := rfl
theorem e_outB1 {io : Option Nat} {out : List D} : outB io os ρ (.ret sv out) = .ok sv (dropO io os ρ) := rfl
theorem e_outB2 {io : Option Nat} {c : Nat} {out : List D} : outB io os ρ (.exc c out) = .ex c (dropO io os ρ) := rfl
theorem e_dropO {io : Option Nat} : dropO io os ρ = drK ρ (ioSlot io os) := by unfold dropO drK; cases ioSlot io os <;> rfl
theorem k_dr : drK ρ (some i) = ρ.set i none := rfl
theorem e_runG : runG kj L m ds = ruG (m (startS (some kj) L ds)) := by unfold runG ruG; generalize m (startS (some kj) L ds) = x; rcases x with _ | _ | _ | _ | _ | _ <;> rfl
theorem k_rg1 : ruG (some (.nx ρ)) = some (.ret (.sh .non) []) := rfl
theorem k_rg2 : ruG (some (.rt sv ρ)) = some (.ret sv []) := rfl
theorem k_rg3 {c : Nat} : ruG (some (.ex c ρ)) = some (.exc c []) := rfl
end
end Sim

namespace Sim
open PySem PySem.Spec PyProof.Rows L2
/-! ### is not, of truths -/
/-! ### sorted, of roads: pairs of pairs of whole numbers -/
abbrev R4 := (Int × Int) × (Int × Int)
def flat (r : R4) : List Int := [r.1.1, r.1.2, r.2.1, r.2.2]
section
variable {X : Cx}
end
end Sim

namespace Sim
open PySem PySem.Spec PyProof.Rows L2
/-! ### a lambda of one parameter that captures whole numbers, handed on to a def that calls it -/
section
variable {X : Cx} {pins : List (Addr × Obj)} {σ : L2.St} {H : Hp} {s : Shared}
end
/-! #### the call of what was handed on -/
section
variable {P0 : Program} {w0 : World} {K : PySem.W.Frag} {mg : Str → Option Value} {base : Heap}
end
/-! #### the def that gets the lambda -/
/-! #### the def that makes the lambda -/
section
variable {cv : Nat → Value} {X : Cx} {W : WX} {e1 e2 e3 : Expr} {t1 t2 t3 : TE} {f1 f2 f3 : M Op}
end
end Sim

namespace Sim
open PySem PySem.Spec PyProof.Rows L2
/-! ### defs that make lambdas, defs that get them: as they stand in the text -/
section
variable {P : Program} {w' : World} {K : PySem.W.Frag} {mg : Str → Option Value} {base : Heap} {cv : Nat → Value}
end
/-! runs of lambdas, for the simp set -/
section
variable {ρ : Sl} {i : Nat} {f : Addr} {Ψ : List D → Option CR} {fs : M (List Op)} {os : List Op}
end
end Sim

namespace Sim
open PySem PySem.Spec PyProof.Rows L2
/-! ### a list of a range -/
def LrOk (i j : Int) : Prop := 0 ≤ i ∧ i ≤ 1000000 ∧ 0 ≤ j ∧ j ≤ 1000000
instance (i j : Int) : Decidable (LrOk i j) := by unfold LrOk; infer_instance
theorem LrOk.ok {i j : Int} (h : LrOk i j) : RgOk i j := RgOk.of_le h.1 (by have := h.2.2.2; omega) (by have := h.2.1; omega) h.2.2.1
section
variable {K : PySem.W.Frag}
end
section
variable {cv : Nat → Value} {X : Cx} {W : WX} {a b : Expr} {p pos p2 pos2 : Pos} {ta tb : TE} {fa fb : M Op}
end
section
end
/-! ### methods that raise: their runs -/
end Sim

namespace Sim
open PySem PySem.Spec PyProof.Rows L2
/-! ### d[k] = v and d.get(k, x) where k is any expression that tells a tuple of whole numbers (laws that read no module's tuple) -/
section
variable {cv : Nat → Value} {X : Cx} {W : WX} {a b c e o : Expr} {ta tb tc te to : TE} {fa fb fc : M Op} {f : M SV} {pos apos p p2 : Pos}
end
end Sim

namespace Sim
open PySem PySem.Spec PyProof.Rows L2
/-! ### lists of new lists of whole numbers that are read for a while and then changed: two views of a state -/
def frzO : Option SV → Option SV
  | some sv => some (.sh sv.d)
  | none => none
def frzS (ρ : Sl) : Sl := ρ.map frzO
def isFlat : D → Bool
  | .non => true
  | .bl _ => true
  | .int _ => true
  | .str _ => true
  | _ => false
def flatO : Option SV → Option SV
  | some (.sh d) => if isFlat d = true then some (.sh d) else none
  | some (.ow (.lst l)) => if l.all isFlat = true then some (.ow (.lst l)) else none
  | _ => none
def jn (o : Option (Option SV)) : Option SV := match o with
  | some x => x
  | none => none
def survS (w : List Nat) (β ρ : Sl) : Sl := (List.range ρ.length).map fun j => if j ∈ w then flatO (jn ρ[j]?) else jn β[j]?
theorem jn_some {o : Option (Option SV)} {sv : SV} (h : jn o = some sv) : o = some (some sv) := by
  cases o with
  | none => cases h
  | some x => exact congrArg some h
theorem flatO_some {o : Option SV} {sv : SV} (h : flatO o = some sv) : o = some sv ∧ ((∃ d, sv = .sh d ∧ isFlat d = true) ∨ ∃ l, sv = .ow (.lst l) ∧ l.all isFlat = true) := by
  unfold flatO at h
  split at h
  · rename_i d
    split at h
    · rename_i hd
      cases h
      exact ⟨rfl, .inl ⟨d, rfl, hd⟩⟩
    · cases h
  · rename_i l
    split at h
    · rename_i hl
      cases h
      exact ⟨rfl, .inr ⟨l, rfl, hl⟩⟩
    · cases h
  · cases h
theorem survS_some {w : List Nat} {β ρ : Sl} {j : Nat} {sv : SV} (h : (survS w β ρ)[j]? = some (some sv)) : (j ∉ w ∧ β[j]? = some (some sv)) ∨ (j ∈ w ∧ ρ[j]? = some (some sv) ∧ ((∃ d, sv = .sh d ∧ isFlat d = true) ∨ ∃ l, sv = .ow (.lst l) ∧ l.all isFlat = true)) := by
  unfold survS at h
  rw [List.getElem?_map] at h
  cases e : (List.range ρ.length)[j]? with
  | none =>
    rw [e] at h
    cases h
  | some k =>
    rw [e] at h
    obtain ⟨hl, hk⟩ := List.getElem?_eq_some_iff.mp e
    rw [List.getElem_range] at hk
    subst hk
    have h : (if j ∈ w then flatO (jn ρ[j]?) else jn β[j]?) = some sv := Option.some.inj h
    by_cases hw : j ∈ w
    · rw [if_pos hw] at h
      obtain ⟨h1, h2⟩ := flatO_some h
      exact .inr ⟨hw, jn_some h1, h2⟩
    · rw [if_neg hw] at h
      exact .inl ⟨hw, jn_some h⟩
section
variable {K : PySem.W.Frag} {F B B' B0 H H' : Hp} {σ σ' : L2.St} {ρ β : Sl} {v : V} {d : D} {sv : SV}
theorem Rep.flat (h : isFlat d = true) (r : Rep K B v d) : Rep K B' v d := by
  cases r with
  | non => exact .non
  | bl b => exact .bl b
  | int i => exact .int i
  | str s => exact .str s
  | _ => cases h
theorem RepL.flat : ∀ {vs : List V} {ds : List D}, ds.all isFlat = true → RepL K B vs ds → RepL K B' vs ds
  | _, _, _, .nil => .nil
  | _, _, h, .cons r t => by
    rw [List.all_cons, Bool.and_eq_true] at h
    exact .cons (r.flat h.1) (RepL.flat h.2 t)
theorem frzS_some {j : Nat} (h : (frzS ρ)[j]? = some (some sv)) : ∃ s0, ρ[j]? = some (some s0) ∧ sv = .sh s0.d := by
  unfold frzS at h
  rw [List.getElem?_map] at h
  cases e : ρ[j]? with
  | none =>
    rw [e] at h
    cases h
  | some x =>
    rw [e] at h
    cases x with
    | none => cases h
    | some s0 =>
      cases h
      exact ⟨s0, rfl, rfl⟩
/-- the places that slots own -/
def OwnA (σ : L2.St) (ρ : Sl) (a : Addr) : Prop := ∃ i, Owns σ ρ i a
open Classical in
noncomputable def heldB (σ : L2.St) (ρ : Sl) (B H : Hp) : Hp := fun a => if OwnA σ ρ a then H a else B a
theorem held_y {a : Addr} (h : OwnA σ ρ a) : heldB σ ρ B H a = H a := if_pos h
theorem held_n {a : Addr} (h : ¬ OwnA σ ρ a) : heldB σ ρ B H a = B a := if_neg h
/-- all that slots own is shared from now on -/
theorem Rel.freezeAll (R : Rel K F B H σ ρ) : Rel K F (heldB σ ρ B H) H σ (frzS ρ) ∧ Same B (heldB σ ρ B H) := by
  have own : ∀ {a}, OwnA σ ρ a → F a = none ∧ B a = none ∧ ∃ o, H a = some o ∧ PlainO o := fun {a} h => by
    obtain ⟨i, o⟩ := h
    obtain ⟨ho, xs, c, h1, h2, h3, h4, h5, h6⟩ := o.at R
    exact ⟨h2, h3, ho, h4, plain_at h5⟩
  have sm : Same B (heldB σ ρ B H) := fun a o e => by
    rw [held_n fun z => ?_]
    · exact e
    · rw [(own z).2.1] at e
      cases e
  refine ⟨⟨fun a o e => ?_, R.exF, fun a o e => ?_, by unfold frzS; rw [List.length_map]; exact R.len, fun i sv h => ?_, fun i j a o1 o2 => ?_, R.tb.both (fun p hp => ?_) R.tb.nF⟩, sm⟩
  · by_cases z : OwnA σ ρ a
    · rw [held_y z] at e
      exact e
    · rw [held_n z] at e
      exact R.exB _ _ e
  · have z : ¬ OwnA σ ρ a := fun z => by
      rw [(own z).1] at e
      cases e
    rw [held_n z]
    exact R.dis _ _ e
  · obtain ⟨s0, h1, rfl⟩ := frzS_some h
    have s := R.slot i s0 h1
    generalize hg : σ[i]? = w at s
    cases s with
    | sh r => exact .sh (r.mono sm _ _)
    | @fr a o xs c hF hB hH hO r =>
      refine .sh (OC.rep (o := o) ?_ hO (r.mono sm _ _))
      rw [held_y ⟨i, ⟨⟨c, h1⟩, hg⟩⟩]
      exact hH
  · obtain ⟨⟨c, g1⟩, _⟩ := o1
    obtain ⟨s0, _, z⟩ := frzS_some g1
    cases z
  · have z : ¬ OwnA σ ρ p.1 := fun z => by
      obtain ⟨_, _, o, e, pl⟩ := own z
      exact R.tb.ne e pl.1 hp rfl
    rw [held_n z]
    exact R.tb.nB p hp
open Classical in
/-- some places, nobody's yet, are shared from now on -/
noncomputable def addP (P : Addr → Prop) (B H : Hp) : Hp := fun a => if P a then H a else B a
theorem addP_y {P : Addr → Prop} {a : Addr} (h : P a) : addP P B H a = H a := if_pos h
theorem addP_n {P : Addr → Prop} {a : Addr} (h : ¬ P a) : addP P B H a = B a := if_neg h
theorem Rel.shareP {P : Addr → Prop} (R : Rel K F B H σ ρ) (hP : ∀ a, P a → F a = none ∧ B a = none ∧ ¬ OwnA σ ρ a ∧ ∃ o, H a = some o ∧ PlainO o) : Rel K F (addP P B H) H σ ρ ∧ Same B (addP P B H) := by
  have sm : Same B (addP P B H) := fun a o e => by
    rw [addP_n fun z => ?_]
    · exact e
    · rw [(hP a z).2.1] at e
      cases e
  refine ⟨⟨fun a o e => ?_, R.exF, fun a o e => ?_, R.len, fun i sv h => ?_, R.sep, R.tb.both (fun p hp => ?_) R.tb.nF⟩, sm⟩
  · by_cases z : P a
    · rw [addP_y z] at e
      exact e
    · rw [addP_n z] at e
      exact R.exB _ _ e
  · have z : ¬ P a := fun z => by
      rw [(hP a z).1] at e
      cases e
    rw [addP_n z]
    exact R.dis _ _ e
  · have s := R.slot i sv h
    generalize hg : σ[i]? = w at s
    cases s with
    | sh r => exact .sh (r.mono sm _ _)
    | @fr a o xs c hF hB hH hO r =>
      refine .fr hF ?_ hH hO (r.mono sm _ _)
      rw [addP_n fun z => (hP a z).2.2.1 ⟨i, ⟨c, h⟩, hg⟩]
      exact hB
  · have z : ¬ P p.1 := fun z => by
      obtain ⟨_, _, _, o, e, pl⟩ := hP _ z
      exact R.tb.ne e pl.1 hp rfl
    rw [addP_n z]
    exact R.tb.nB p hp
/-- some places, nobody's yet, are held aside -/
theorem Rel.holdP {P : Addr → Prop} (R : Rel K F B H σ ρ) (hP : ∀ a, P a → F a = none ∧ B a = none ∧ ¬ OwnA σ ρ a ∧ ∃ o, H a = some o ∧ PlainO o) : Rel K (addP P F H) B H σ ρ := by
  refine ⟨R.exB, fun a o e => ?_, fun a o e => ?_, R.len, fun i sv h => ?_, R.sep, R.tb.both R.tb.nB fun p hp => ?_⟩
  · by_cases z : P a
    · rw [addP_y z] at e
      exact e
    · rw [addP_n z] at e
      exact R.exF _ _ e
  · by_cases z : P a
    · exact (hP a z).2.1
    · rw [addP_n z] at e
      exact R.dis _ _ e
  · have s := R.slot i sv h
    generalize hg : σ[i]? = w at s
    cases s with
    | sh r => exact .sh r
    | @fr a o xs c hF hB hH hO r =>
      refine .fr ?_ hB hH hO r
      rw [addP_n fun z => (hP a z).2.2.1 ⟨i, ⟨c, h⟩, hg⟩]
      exact hF
  · have z : ¬ P p.1 := fun z => by
      obtain ⟨_, _, _, o, e, pl⟩ := hP _ z
      exact R.tb.ne e pl.1 hp rfl
    rw [addP_n z]
    exact R.tb.nF p hp
theorem Rel.lessF {F' : Hp} (R : Rel K F' B H σ ρ) (e : Same F F') : Rel K F B H σ ρ := by
  have no : ∀ {a}, F' a = none → F a = none := fun {a} h => by
    cases g : F a with
    | none => rfl
    | some o =>
      rw [e _ _ g] at h
      cases h
  refine ⟨R.exB, fun a o h => R.exF _ _ (e _ _ h), fun a o h => R.dis _ _ (e _ _ h), R.len, fun i sv h => ?_, R.sep, R.tb.both R.tb.nB fun p hp => no (R.tb.nF p hp)⟩
  have s := R.slot i sv h
  generalize hg : σ[i]? = w at s
  cases s with
  | sh r => exact .sh r
  | fr hF hB hH hO r => exact .fr (no hF) hB hH hO r
end
end Sim

namespace Sim
open PySem PySem.Spec PyProof.Rows L2
/-! ### trees of new lists: made, read, changed, handed back -/
theorem plain_tup {xs : List V} : PlainO (.tup xs) := ⟨fun _ z => (by cases z), fun c q z => (by unfold LamX.CodeO at z; cases z)⟩
inductive OT where
  | sh (d : D)
  | nd (l : List OT)
  | tp (l : List OT)
mutual
def OT.d : OT → D
  | .sh d => d
  | .nd l => .lst (otds l)
  | .tp l => .tup (otds l)
def otds : List OT → List D
  | [] => []
  | t :: ts => t.d :: otds ts
end
def otsh : List D → List OT
  | [] => []
  | d :: ds => .sh d :: otsh ds
mutual
inductive TrAt (K : PySem.W.Frag) (B H : Hp) : V → OT → (Addr → Prop) → Prop
  | sh {v : V} {d : D} (r : Rep K B v d) : TrAt K B H v (.sh d) (fun _ => False)
  | nd {a : Addr} {xs : List V} {l : List OT} {P : Addr → Prop} (h : H a = some (.lst xs)) (t : TrsAt K B H xs l P) (n : ¬ P a) : TrAt K B H (.ref a) (.nd l) (fun b => b = a ∨ P b)
  | tp {a : Addr} {xs : List V} {l : List OT} {P : Addr → Prop} (h : H a = some (.tup xs)) (t : TrsAt K B H xs l P) (n : ¬ P a) : TrAt K B H (.ref a) (.tp l) (fun b => b = a ∨ P b)
inductive TrsAt (K : PySem.W.Frag) (B H : Hp) : List V → List OT → (Addr → Prop) → Prop
  | nil : TrsAt K B H [] [] (fun _ => False)
  | cons {v : V} {t : OT} {vs : List V} {ts : List OT} {P Q : Addr → Prop} (h : TrAt K B H v t P) (s : TrsAt K B H vs ts Q) (dj : ∀ a, P a → ¬ Q a) : TrsAt K B H (v :: vs) (t :: ts) (fun b => P b ∨ Q b)
end
section
variable {K : PySem.W.Frag} {F B B' B0 H H' : Hp} {σ σ' : L2.St} {ρ β : Sl} {v : V} {d : D} {sv : SV}
mutual
theorem TrAt.mono (sB : Same B B') : ∀ (t : OT) (v : V) (P : Addr → Prop), (∀ a o, P a → H a = some o → H' a = some o) → TrAt K B H v t P → TrAt K B' H' v t P
  | .sh d, _, _, _, .sh r => .sh (r.mono sB _ _)
  | .nd l, _, _, e, .nd h t n => .nd (e _ _ (.inl rfl) h) (TrsAt.mono sB l _ _ (fun a o p => e a o (.inr p)) t) n
  | .tp l, _, _, e, .tp h t n => .tp (e _ _ (.inl rfl) h) (TrsAt.mono sB l _ _ (fun a o p => e a o (.inr p)) t) n
theorem TrsAt.mono (sB : Same B B') : ∀ (l : List OT) (vs : List V) (P : Addr → Prop), (∀ a o, P a → H a = some o → H' a = some o) → TrsAt K B H vs l P → TrsAt K B' H' vs l P
  | [], _, _, _, .nil => .nil
  | t :: ts, _, _, e, .cons h s dj => .cons (TrAt.mono sB t _ _ (fun a o p => e a o (.inl p)) h) (TrsAt.mono sB ts _ _ (fun a o p => e a o (.inr p)) s) dj
end
mutual
theorem TrAt.lst : ∀ (t : OT) (v : V) (P : Addr → Prop), TrAt K B H v t P → ∀ a, P a → ∃ o, H a = some o ∧ PlainO o
  | .sh d, _, _, .sh r, _, h => h.elim
  | .nd l, _, _, .nd h t n, a, p => by
    rcases p with rfl | p
    · exact ⟨_, h, plain_lst⟩
    · exact TrsAt.lst l _ _ t a p
  | .tp l, _, _, .tp h t n, a, p => by
    rcases p with rfl | p
    · exact ⟨_, h, plain_tup⟩
    · exact TrsAt.lst l _ _ t a p
theorem TrsAt.lst : ∀ (l : List OT) (vs : List V) (P : Addr → Prop), TrsAt K B H vs l P → ∀ a, P a → ∃ o, H a = some o ∧ PlainO o
  | [], _, _, .nil, _, h => h.elim
  | t :: ts, _, _, .cons h s dj, a, p => by
    rcases p with p | p
    · exact TrAt.lst t _ _ h a p
    · exact TrsAt.lst ts _ _ s a p
end
mutual
theorem TrAt.rep (sB : Same B B') : ∀ (t : OT) (v : V) (P : Addr → Prop), (∀ a, P a → B' a = H a) → TrAt K B H v t P → Rep K B' v t.d
  | .sh d, _, _, _, .sh r => by
    unfold OT.d
    exact r.mono sB _ _
  | .nd l, _, _, e, .nd h t n => by
    unfold OT.d
    exact .lst ((e _ (.inl rfl)).trans h) (TrsAt.rep sB l _ _ (fun a p => e a (.inr p)) t)
  | .tp l, _, _, e, .tp h t n => by
    unfold OT.d
    exact .tup (.inl ((e _ (.inl rfl)).trans h)) (TrsAt.rep sB l _ _ (fun a p => e a (.inr p)) t)
theorem TrsAt.rep (sB : Same B B') : ∀ (l : List OT) (vs : List V) (P : Addr → Prop), (∀ a, P a → B' a = H a) → TrsAt K B H vs l P → RepL K B' vs (otds l)
  | [], _, _, _, .nil => by
    unfold otds
    exact .nil
  | t :: ts, _, _, e, .cons h s dj => by
    unfold otds
    exact .cons (TrAt.rep sB t _ _ (fun a p => e a (.inl p)) h) (TrsAt.rep sB ts _ _ (fun a p => e a (.inr p)) s)
end
theorem TrAt.congr {t : OT} {P P' : Addr → Prop} (e : ∀ a, P a ↔ P' a) (h : TrAt K B H v t P) : TrAt K B H v t P' := by
  have : P = P' := funext fun a => propext (e a)
  subst this
  exact h
theorem TrsAt.congr {vs : List V} {l : List OT} {P P' : Addr → Prop} (e : ∀ a, P a ↔ P' a) (h : TrsAt K B H vs l P) : TrsAt K B H vs l P' := by
  have : P = P' := funext fun a => propext (e a)
  subst this
  exact h
theorem TrsAt.length : ∀ {l : List OT} {vs : List V} {P : Addr → Prop}, TrsAt K B H vs l P → vs.length = l.length
  | [], _, _, .nil => rfl
  | t :: ts, _, _, .cons h s dj => by rw [List.length_cons, List.length_cons, TrsAt.length s]
theorem TrsAt.at_ : ∀ {l : List OT} {xs : List V} {P : Addr → Prop} {i : Nat} {t : OT}, TrsAt K B H xs l P → l[i]? = some t → ∃ v Q, xs[i]? = some v ∧ TrAt K B H v t Q ∧ (∀ a, Q a → P a) ∧
    ∀ B' H' v' t' Q', Same B B' → (∀ a o, P a → ¬ Q a → H a = some o → H' a = some o) → TrAt K B' H' v' t' Q' → (∀ a, Q' a → P a → Q a) → TrsAt K B' H' (xs.set i v') (l.set i t') (fun a => (P a ∧ ¬ Q a) ∨ Q' a)
  | [], _, _, _, _, _, h => by simp at h
  | t0 :: ts, _, _, 0, t, .cons (v := v) (vs := vs) (P := P) (Q := Q) h s dj, hi => by
    have : t0 = t := by simpa using hi
    subst this
    refine ⟨v, P, rfl, h, fun a p => .inl p, fun B' H' v' t' Q' sB e r q => ?_⟩
    refine (TrsAt.cons r (TrsAt.mono sB ts vs Q (fun a o p => e a o (.inr p) fun z => dj a z p) s) fun a h1 h2 => dj a (q a h1 (.inr h2)) h2).congr fun a => ?_
    constructor
    · rintro (h | h)
      · exact .inr h
      · exact .inl ⟨.inr h, fun z => dj a z h⟩
    · rintro (⟨h1 | h1, h2⟩ | h)
      · exact (h2 h1).elim
      · exact .inr h1
      · exact .inl h
  | t0 :: ts, _, _, i + 1, t, .cons (v := v) (vs := vs) (P := P) (Q := Q) h s dj, hi => by
    obtain ⟨u, R, h1, h2, h3, h4⟩ := TrsAt.at_ (i := i) (t := t) s (by simpa using hi)
    refine ⟨u, R, by simpa using h1, h2, fun a r => .inr (h3 a r), fun B' H' v' t' Q' sB e r q => ?_⟩
    have k := h4 B' H' v' t' Q' sB (fun a o p n => e a o (.inr p) n) r fun a x p => q a x (.inr p)
    refine (TrsAt.cons (TrAt.mono sB t0 v P (fun a o p => e a o (.inl p) fun z => dj a p (h3 a z)) h) k fun a p z => ?_).congr fun a => ?_
    · rcases z with ⟨z, _⟩ | z
      · exact dj a p z
      · exact dj a p (h3 a (q a z (.inl p)))
    · constructor
      · rintro (h | ⟨h, n⟩ | h)
        · exact .inl ⟨.inl h, fun z => dj a h (h3 a z)⟩
        · exact .inl ⟨.inr h, n⟩
        · exact .inr h
      · rintro (⟨h1 | h1, h2⟩ | h)
        · exact .inl h1
        · exact .inr (.inl ⟨h1, h2⟩)
        · exact .inr (.inr h)
theorem TrsAt.append : ∀ {l m : List OT} {xs ys : List V} {P Q : Addr → Prop}, TrsAt K B H xs l P → TrsAt K B H ys m Q → (∀ a, P a → ¬ Q a) → TrsAt K B H (xs ++ ys) (l ++ m) (fun a => P a ∨ Q a)
  | [], m, _, ys, _, Q, .nil, k, _ => k.congr fun a => ⟨.inr, fun h => h.elim (fun z => z.elim) id⟩
  | t :: ts, m, _, ys, _, Q, .cons (P := P) (Q := P') h s dj, k, dd => by
    refine (TrsAt.cons h (TrsAt.append s k fun a p => dd a (.inr p)) fun a p z => ?_).congr fun a => ?_
    · rcases z with z | z
      · exact dj a p z
      · exact dd a (.inl p) z
    · constructor
      · rintro (h | h | h)
        · exact .inl (.inl h)
        · exact .inl (.inr h)
        · exact .inr h
      · rintro ((h | h) | h)
        · exact .inl h
        · exact .inr (.inl h)
        · exact .inr (.inr h)
theorem TrsAt.one {t : OT} {P : Addr → Prop} (h : TrAt K B H v t P) : TrsAt K B H [v] [t] P := (TrsAt.cons h .nil fun a _ z => z).congr fun a => ⟨fun h => h.elim id fun z => z.elim, .inl⟩
theorem TrsAt.reverse : ∀ {l : List OT} {xs : List V} {P : Addr → Prop}, TrsAt K B H xs l P → TrsAt K B H xs.reverse l.reverse P
  | [], _, _, .nil => .nil
  | t :: ts, _, _, .cons (P := P) (Q := Q) h s dj => by
    rw [List.reverse_cons, List.reverse_cons]
    exact ((TrsAt.reverse s).append (TrsAt.one h) fun a q p => dj a p q).congr fun a => ⟨fun h => h.elim .inr .inl, fun h => h.elim .inr .inl⟩
theorem TrsAt.shs : ∀ {ds : List D} {xs : List V}, RepL K B xs ds → TrsAt K B H xs (otsh ds) (fun _ => False)
  | [], _, .nil => .nil
  | d :: ds, _, .cons r t => (TrsAt.cons (.sh r) (TrsAt.shs t) fun a z => z.elim).congr fun a => ⟨fun h => h.elim id id, .inl⟩
theorem TrAt.root {l : List OT} {P : Addr → Prop} {v : V} (h : TrAt K B H v (.nd l) P) : ∃ a xs Q, v = .ref a ∧ H a = some (.lst xs) ∧ TrsAt K B H xs l Q ∧ ¬ Q a ∧ ∀ b, P b ↔ (b = a ∨ Q b) := by
  cases h with
  | nd h t n => exact ⟨_, _, _, rfl, h, t, n, fun b => Iff.rfl⟩
theorem TrAt.rootT {l : List OT} {P : Addr → Prop} {v : V} (h : TrAt K B H v (.tp l) P) : ∃ a xs Q, v = .ref a ∧ H a = some (.tup xs) ∧ TrsAt K B H xs l Q ∧ ¬ Q a ∧ ∀ b, P b ↔ (b = a ∨ Q b) := by
  cases h with
  | tp h t n => exact ⟨_, _, _, rfl, h, t, n, fun b => Iff.rfl⟩
/-- a tree: nobody shares it, nobody else owns it -/
structure TrOk (K : PySem.W.Frag) (F B H : Hp) (σ : L2.St) (ρ : Sl) (v : V) (T : OT) (P : Addr → Prop) : Prop where
  tr : TrAt K B H v T P
  out : ∀ a, P a → F a = none ∧ B a = none ∧ ¬ OwnA σ ρ a
theorem TrOk.hP {T : OT} {P : Addr → Prop} (h : TrOk K F B H σ ρ v T P) : ∀ a, P a → F a = none ∧ B a = none ∧ ¬ OwnA σ ρ a ∧ ∃ o, H a = some o ∧ PlainO o := fun a p => by
  obtain ⟨h1, h2, h3⟩ := h.out a p
  exact ⟨h1, h2, h3, TrAt.lst _ _ _ h.tr a p⟩
/-- what a value becomes as a tree -/
def otOf : SV → Option OT
  | .sh d => some (.sh d)
  | .ow (.lst l) => some (.nd (otsh l))
  | _ => none
theorem RV.tr {T : OT} (h : RV K F B H σ ρ v sv) (e : otOf sv = some T) : ∃ P, TrOk K F B H σ ρ v T P := by
  cases h with
  | sh r =>
    cases e
    exact ⟨_, .sh r, fun a z => z.elim⟩
  | @fr a o xs c hF hB hH hO r no =>
    cases c with
    | lst l =>
      cases e
      have hO : o = .lst xs := hO
      subst hO
      exact ⟨_, .nd hH (TrsAt.shs r) (fun z => z), fun b hb => by
        rcases hb with rfl | z
        · exact ⟨hF, hB, fun ⟨i, o⟩ => no i o⟩
        · exact z.elim⟩
    | dk _ _ => cases e
    | dt _ _ => cases e
    | ob _ _ _ => cases e
/-- the tree is held aside -/
theorem TrOk.hold {T : OT} {P : Addr → Prop} (h : TrOk K F B H σ ρ v T P) (R : Rel K F B H σ ρ) : Rel K (addP P F H) B H σ ρ := R.holdP h.hP
theorem TrOk.same {T : OT} {P : Addr → Prop} (h : TrOk K F B H σ ρ v T P) : Same F (addP P F H) := fun a o e => by
  rw [addP_n fun z => ?_]
  · exact e
  · rw [(h.out a z).1] at e
    cases e
/-- .. and is there again -/
theorem TrOk.later {T : OT} {P : Addr → Prop} {ρ' : Sl} (h : TrOk K F B H σ ρ v T P) (R : Rel K (addP P F H) B' H' σ' ρ') (sB : Same B B') : Rel K F B' H' σ' ρ' ∧ TrOk K F B' H' σ' ρ' v T P := by
  have inF : ∀ a, P a → ∀ o, H a = some o → addP P F H a = some o := fun a p o e => (addP_y p).trans e
  refine ⟨R.lessF h.same, TrAt.mono sB _ _ _ (fun a o p e => R.exF _ _ (inF a p o e)) h.tr, fun a p => ?_⟩
  obtain ⟨xs, e, _⟩ := TrAt.lst _ _ _ h.tr a p
  have e' := inF a p _ e
  refine ⟨(h.out a p).1, R.dis _ _ e', fun ⟨i, o⟩ => ?_⟩
  obtain ⟨_, _, _, _, z, _⟩ := o.at R
  rw [e'] at z
  cases z
/-- a value that is told beside a tree that is held aside -/
theorem RV.unholdP {P : Addr → Prop} (hs : Same F (addP P F H)) {B' H' : Hp} {σ' : L2.St} {ρ' : Sl} (h : RV K (addP P F H) B' H' σ' ρ' v sv) : RV K F B' H' σ' ρ' v sv := by
  cases h with
  | sh r => exact .sh r
  | @fr a o xs c hF hB hH hO r no =>
    refine .fr ?_ hB hH hO r no
    cases g : F a with
    | none => rfl
    | some u =>
      rw [hs _ _ g] at hF
      cases hF
theorem TrOk.unholdP {P Q : Addr → Prop} {T : OT} (hs : Same F (addP P F H)) (hP : ∀ a, P a → ∃ o, H a = some o ∧ PlainO o) {B' H' : Hp} {σ' : L2.St} {ρ' : Sl} (h : TrOk K (addP P F H) B' H' σ' ρ' v T Q) : TrOk K F B' H' σ' ρ' v T Q ∧ ∀ a, Q a → ¬ P a := by
  refine ⟨⟨h.tr, fun a q => ?_⟩, fun a q p => ?_⟩
  · obtain ⟨h1, h2, h3⟩ := h.out a q
    refine ⟨?_, h2, h3⟩
    cases g : F a with
    | none => rfl
    | some u =>
      rw [hs _ _ g] at h1
      cases h1
  · obtain ⟨h1, _⟩ := h.out a q
    obtain ⟨xs, e, _⟩ := hP a p
    rw [addP_y p, e] at h1
    cases h1
/-- a place that nobody knows is written -/
theorem Rel.poke {a : Addr} {xs ys : List V} (R : Rel K F B H σ ρ) (hF : F a = none) (hB : B a = none) (no : ¬ OwnA σ ρ a) (hH : H a = some (.lst xs)) : Rel K F B (upd H a (.lst ys)) σ ρ := by
  refine ⟨fun b o e => ?_, fun b o e => ?_, R.dis, R.len, fun j sv hj => ?_, R.sep, R.tb.put fun u e => by rw [hH] at e; cases e; exact plain_lst⟩
  · rw [upd_ne (fun z => by rw [z, hB] at e; cases e)]
    exact R.exB _ _ e
  · rw [upd_ne (fun z => by rw [z, hF] at e; cases e)]
    exact R.exF _ _ e
  · have s := R.slot j sv hj
    generalize hg : σ[j]? = w at s
    cases s with
    | sh r => exact .sh r
    | @fr b o' zs c hF' hB' hH' hO r =>
      refine .fr hF' hB' ?_ hO r
      rw [upd_ne fun z => ?_]
      · exact hH'
      · subst z
        exact no ⟨j, ⟨c, hj⟩, hg⟩
/-- two views: β with what is shared for good, ρ with all frozen -/
structure Rel2 (K : PySem.W.Frag) (F B0 B H : Hp) (σ : L2.St) (β ρ : Sl) : Prop where
  base : Rel K F B0 H σ β
  full : Rel K F B H σ ρ
  sm : Same B0 B
  fz : ∀ a, OwnA σ β a → B a = H a
structure Tr2 (K : PySem.W.Frag) (F B0 B H : Hp) (σ : L2.St) (β : Sl) (v : V) (T : OT) (P : Addr → Prop) : Prop where
  t : TrOk K F B0 H σ β v T P
  inB : ∀ a, P a → B a = H a
def full2 (x : Nat) (β : Sl) (T : OT) : Sl := (frzS β).set x (some (.sh T.d))
/-- a view of all that is frozen, the tree with it -/
theorem mk2 {x : Nat} {T : OT} {P : Addr → Prop} (R : Rel K F B0 H σ β) (h : TrOk K F B0 H σ β v T P) (hx : σ[x]? = some (some v)) :
    ∃ B, Rel2 K F B0 B H σ β (full2 x β T) ∧ Tr2 K F B0 B H σ β v T P := by
  obtain ⟨R1, s1⟩ := R.shareP (P := P) h.hP
  obtain ⟨R2, s2⟩ := R1.freezeAll
  have inT : ∀ a, P a → heldB σ β (addP P B0 H) H a = H a := fun a ha => by
    rw [held_n (h.out a ha).2.2]
    exact addP_y ha
  have rep := TrAt.rep (s1.trans s2) _ _ _ inT h.tr
  exact ⟨_, ⟨R, R2.put (sv := .sh T.d) hx (.sh rep), s1.trans s2, fun a ha => held_y ha⟩, h, inT⟩
/-- behind what was done in the full view -/
theorem Rel2.back {w : List Nat} {ρ' : Sl} {T : OT} {P : Addr → Prop} (R : Rel2 K F B0 B H σ β ρ) (T2 : Tr2 K F B0 B H σ β v T P) (R' : Rel K F B' H' σ' ρ') (s : Same B B') (a : Agr w σ σ') (hl : ρ'.length = β.length) :
    ∃ B2, Rel2 K F B0 B2 H' σ' (survS w β ρ') (frzS ρ') ∧ Tr2 K F B0 B2 H' σ' (survS w β ρ') v T P := by
  obtain ⟨R2, s2⟩ := R'.freezeAll
  have bH : ∀ {b}, B b = H b → ∀ {o}, H b = some o → B' b = some o ∧ H' b = some o := fun {b} e {o} eo => by
    have e1 : B b = some o := e.trans eo
    exact ⟨s _ _ e1, R'.exB _ _ (s _ _ e1)⟩
  have inB0 : ∀ {b}, B' b = none → B0 b = none := fun {b} e => by
    cases g : B0 b with
    | none => rfl
    | some o =>
      rw [s _ _ (R.sm _ _ g)] at e
      cases e
  have own : ∀ {b}, OwnA σ' (survS w β ρ') b → (∃ i, i ∉ w ∧ Owns σ β i b) ∨ ∃ i, i ∈ w ∧ Owns σ' ρ' i b := fun {b} ho => by
    obtain ⟨i, ⟨c, g1⟩, g2⟩ := ho
    rcases survS_some g1 with ⟨n1, n2⟩ | ⟨n1, n2, _⟩
    · exact .inl ⟨i, n1, ⟨c, n2⟩, (a i n1).symm.trans g2⟩
    · exact .inr ⟨i, n1, ⟨c, n2⟩, g2⟩
  have notB' : ∀ {i b}, Owns σ' ρ' i b → B' b = none := fun {i b} o => by
    obtain ⟨_, _, _, _, _, h3, _⟩ := o.at R'
    exact h3
  have isB' : ∀ {i b}, Owns σ β i b → ∃ o, B' b = some o ∧ H' b = some o ∧ H b = some o := fun {i b} o => by
    obtain ⟨ho, _, _, _, _, _, h4, _⟩ := o.at R.base
    obtain ⟨h5, h6⟩ := bH (R.fz b ⟨i, o⟩) h4
    exact ⟨ho, h5, h6, h4⟩
  have base : Rel K F B0 H' σ' (survS w β ρ') := by
    refine ⟨fun b o e => R'.exB _ _ (s _ _ (R.sm _ _ e)), R'.exF, R.base.dis, ?_, fun j sv h => ?_, fun i j b o1 o2 => ?_, ⟨R'.tb.tab, R.base.tb.nB, R.base.tb.nF⟩⟩
    · unfold survS
      rw [List.length_map, List.length_range]
      exact R'.len
    · rcases survS_some h with ⟨n1, n2⟩ | ⟨n1, n2, n3⟩
      · have s1 := R.base.slot j sv n2
        rw [a j n1]
        generalize hg : σ[j]? = z at s1
        cases s1 with
        | sh r => exact .sh r
        | @fr b o xs c hF hB hH hO r =>
          obtain ⟨o', _, h6, h4⟩ := isB' (i := j) (b := b) ⟨⟨c, n2⟩, hg⟩
          rw [hH] at h4
          cases h4
          exact .fr hF hB h6 hO r
      · have s1 := R'.slot j sv n2
        generalize hg : σ'[j]? = z at s1
        rcases n3 with ⟨d, rfl, hd⟩ | ⟨l, rfl, hd⟩
        · cases s1 with
          | sh r => exact .sh (r.flat hd)
        · cases s1 with
          | fr hF hB hH hO r => exact .fr hF (inB0 hB) hH hO (RepL.flat hd r)
    · have side : ∀ {i b}, Owns σ' (survS w β ρ') i b → (i ∉ w ∧ Owns σ β i b) ∨ (i ∈ w ∧ Owns σ' ρ' i b) := fun {i b} ho => by
        obtain ⟨⟨c, g1⟩, g2⟩ := ho
        rcases survS_some g1 with ⟨n1, n2⟩ | ⟨n1, n2, _⟩
        · exact .inl ⟨n1, ⟨c, n2⟩, (a i n1).symm.trans g2⟩
        · exact .inr ⟨n1, ⟨c, n2⟩, g2⟩
      rcases side o1 with ⟨m1, p1⟩ | ⟨m1, p1⟩
      · rcases side o2 with ⟨m3, p3⟩ | ⟨m3, p3⟩
        · exact R.base.sep i j b p1 p3
        · obtain ⟨o, h5, _⟩ := isB' p1
          rw [notB' p3] at h5
          cases h5
      · rcases side o2 with ⟨m3, p3⟩ | ⟨m3, p3⟩
        · obtain ⟨o, h5, _⟩ := isB' p3
          rw [notB' p1] at h5
          cases h5
        · exact R'.sep i j b p1 p3
  have ownB : ∀ b, OwnA σ' (survS w β ρ') b → heldB σ' ρ' B' H' b = H' b := fun b ho => by
    rcases own ho with ⟨i, _, o⟩ | ⟨i, _, o⟩
    · obtain ⟨o', h5, h6, _⟩ := isB' o
      by_cases z : OwnA σ' ρ' b
      · exact held_y z
      · rw [held_n z, h5, h6]
    · exact held_y ⟨i, o⟩
  have tree : ∀ b, P b → ∀ o, H b = some o → B' b = some o ∧ H' b = some o := fun b hb o eo => bH (T2.inB b hb) eo
  refine ⟨_, ⟨base, R2, (R.sm.trans s).trans s2, ownB⟩, ⟨TrAt.mono (Same.refl _) _ _ _ (fun b o p e => (tree b p o e).2) T2.t.tr, fun b hb => ?_⟩, fun b hb => ?_⟩
  · obtain ⟨h1, h2, h3⟩ := T2.t.out b hb
    refine ⟨h1, h2, fun ho => ?_⟩
    rcases own ho with ⟨i, _, o⟩ | ⟨i, _, o⟩
    · exact h3 ⟨i, o⟩
    · obtain ⟨_, _, _, xs, e1, _⟩ := T2.t.hP b hb
      have := (tree b hb _ e1).1
      rw [notB' o] at this
      cases this
  · obtain ⟨_, _, _, xs, e1, _⟩ := T2.t.hP b hb
    obtain ⟨h5, h6⟩ := tree b hb _ e1
    have nz : ¬ OwnA σ' ρ' b := fun ⟨i, o⟩ => by
      rw [notB' o] at h5
      cases h5
    rw [held_n nz, h5, h6]
theorem survS_nil (hl : ρ.length = β.length) : survS [] β ρ = β := by
  refine List.ext_getElem? fun i => ?_
  unfold survS
  rw [List.getElem?_map]
  by_cases h : i < β.length
  · rw [List.getElem?_range (by omega)]
    show some (if i ∈ ([] : List Nat) then flatO (jn ρ[i]?) else jn β[i]?) = _
    rw [if_neg List.not_mem_nil, List.getElem?_eq_getElem h]
    rfl
  · rw [List.getElem?_eq_none (by rw [List.length_range]; omega), List.getElem?_eq_none (by omega)]
    rfl
end
end Sim

namespace Sim
open PySem PySem.Spec PyProof.Rows L2
/-! ### statements beside a tree of new lists -/
inductive SO2 where
  | nx (β ρ : Sl) (T : OT)
  | rt (β : Sl) (T : OT)
  | so (o : SO)
abbrev M2 := Sl → Sl → OT → Option SO2
def at2 (cv : Nat → Value) (W : WX) (K : PySem.W.Frag) (x : Nat) (F B0 : Hp) (σ : L2.St) (w : List Nat) (D : Ends) : Option SO2 → Prop
  | none => False
  | some (.nx β ρ T) => ∀ σ' B0' B' H' v P, Rel2 K F B0' B' H' σ' β ρ → Same B0 B0' → Agr w σ σ' → σ'[x]? = some (some v) → Tr2 K F B0' B' H' σ' β v T P → D.nx σ' H'
  | some (.rt β T) => ∀ σ' B' H' v P, Rel K F B' H' σ' β → Same B0 B' → Agr w σ σ' → TrOk K F B' H' σ' β v T P → D.rt v H'
  | some (.so o) => (wsOf cv W K F B0 σ w D).at (some o)
def Adm2 (cv : Nat → Value) (W : WX) (K : PySem.W.Frag) (x : Nat) (t : TS) (m : M2) (w : List Nat) : Prop :=
  ∀ (F B0 B H : Hp) (σ : L2.St) (β ρ : Sl) (T : OT) (v : V) (P : Addr → Prop) (D : Ends), Rel2 K F B0 B H σ β ρ → σ[x]? = some (some v) → Tr2 K F B0 B H σ β v T P → at2 cv W K x F B0 σ w D (m β ρ T) → t D σ H
structure Snd2 (cv : Nat → Value) (X : Cx) (W : WX) (x : Nat) (st : List Stmt) (t : TS) (m : M2) (w : List Nat) : Prop where
  ps : PSs X st t
  ad : Adm2 cv W X.K x t m w
structure Snd2S (cv : Nat → Value) (X : Cx) (W : WX) (x : Nat) (st : Stmt) (t : TS) (m : M2) (w : List Nat) : Prop where
  ps : PS X st t
  ad : Adm2 cv W X.K x t m w
/-- a statement that only reads the tree -/
def p2 (w : List Nat) (m : SM) : M2 := fun β ρ T => match m ρ with
  | some (.nx ρ') => if ρ'.length = β.length then some (.nx (survS w β ρ') (frzS ρ') T) else none
  | some (.rt sv ρ') => some (.so (.rt sv ρ'))
  | some (.ex c ρ') => some (.so (.ex c ρ'))
  | _ => none
/-- a statement that does not see the tree -/
def b2 (x : Nat) (m : SM) : M2 := fun β _ T => match m β with
  | some (.nx β') => some (.nx β' (full2 x β' T) T)
  | some (.rt sv β') => some (.so (.rt sv β'))
  | some (.ex c β') => some (.so (.ex c β'))
  | _ => none
def n2 : M2 := fun β ρ T => some (.nx β ρ T)
def seq2 (m n : M2) : M2 := fun β ρ T => match m β ρ T with
  | some (.nx β' ρ' T') => n β' ρ' T'
  | some (.so (.nx _)) => none
  | o => o
def if2b (x : Nat) (c : M Bool) (m n : M2) : M2 := fun β _ T => match c β with
  | some (.ok b β') => (if b = true then m else n) β' (full2 x β' T) T
  | _ => none
/-- what follows sees the list as any other one -/
def e2 (x : Nat) (n : SM) : M2 := fun β _ T => match T with
  | .nd l => (n (β.set x (some (.fr (otds l))))).map .so
  | _ => none
section
variable {cv : Nat → Value} {X : Cx} {W : WX} {K : PySem.W.Frag} {x : Nat} {t u : TS} {m n : SM} {m2 k2 : M2} {w w' : List Nat} {st : Stmt} {sts : List Stmt}
theorem adm_p2 (h : AdmS cv W K t m w) (hx : x ∉ w) : Adm2 cv W K x t (p2 w m) w := by
  intro F B0 B H σ β ρ T v P D R hs T2 q
  refine h F B H σ ρ D R.full ?_
  unfold p2 at q
  cases e : m ρ with
  | none =>
    rw [e] at q
    exact q.elim
  | some o =>
    rw [e] at q
    cases o with
    | rt sv ρ' => exact fun v σ' B' H' R' s a rv => q v σ' B' H' R' (R.sm.trans s) a rv
    | bk _ => exact q.elim
    | ct _ => exact q.elim
    | ex c ρ' => exact fun σ' B' H' R' s a => q σ' B' H' R' (R.sm.trans s) a
    | nx ρ' =>
      by_cases hl : ρ'.length = β.length
      · simp only [if_pos hl] at q
        intro σ' B' H' R' s a
        obtain ⟨B2, R2, T3⟩ := R.back T2 R' s a hl
        exact q σ' B0 B2 H' v P R2 (Same.refl _) a ((a x hx).trans hs) T3
      · simp only [if_neg hl] at q
        exact q.elim
theorem adm_b2 (h : AdmS cv W K t m w) (hx : x ∉ w) : Adm2 cv W K x t (b2 x m) w := by
  intro F B0 B H σ β ρ T v P D R hs T2 q
  refine h _ B0 H σ β D (T2.t.hold R.base) ?_
  unfold b2 at q
  cases e : m β with
  | none =>
    rw [e] at q
    exact q.elim
  | some o =>
    rw [e] at q
    cases o with
    | rt sv ρ' => exact fun u σ' B' H' R' s a rv => q u σ' B' H' (T2.t.later R' s).1 s a (rv.unholdP T2.t.same)
    | bk _ => exact q.elim
    | ct _ => exact q.elim
    | ex c ρ' => exact fun σ' B' H' R' s a => q σ' B' H' (T2.t.later R' s).1 s a
    | nx ρ' =>
      intro σ' B' H' R' s a
      obtain ⟨R1, T1⟩ := T2.t.later R' s
      have hx' := (a x hx).trans hs
      obtain ⟨B2, R2, T3⟩ := mk2 R1 T1 hx'
      exact q σ' B' B2 H' v P R2 s a hx' T3
theorem adm_n2 : Adm2 cv W K x tNext n2 [] := fun F B0 B H σ β ρ T v P D R hs T2 q => q σ B0 B H v P R (Same.refl _) Agr.refl hs T2
theorem at2_later {F B0 B1 : Hp} {σ σ1 : L2.St} {w w1 w2 : List Nat} {D : Ends} (sm : Same B0 B1) (ag : Agr w1 σ σ1) (h1 : ∀ j, j ∈ w1 → j ∈ w) (h2 : ∀ j, j ∈ w2 → j ∈ w) : ∀ {o : Option SO2}, at2 cv W K x F B0 σ w D o → at2 cv W K x F B1 σ1 w2 D o
  | none, q => q
  | some (.nx β ρ T), q => fun σ' B0' B' H' v P R s a hs T2 => q σ' B0' B' H' v P R (sm.trans s) ((ag.mono h1).tr (a.mono h2)) hs T2
  | some (.rt β T), q => fun σ' B' H' v P R s a T2 => q σ' B' H' v P R (sm.trans s) ((ag.mono h1).tr (a.mono h2)) T2
  | some (.so o), q => Ws.at.mono (wsOf.later sm ag h1 h2) q
theorem adm_seq2 (h1 : Adm2 cv W K x t m2 w) (h2 : Adm2 cv W K x u k2 w') : Adm2 cv W K x (tSeq t u) (seq2 m2 k2) (w ++ w') := by
  intro F B0 B H σ β ρ T v P D R hs T2 q
  refine h1 F B0 B H σ β ρ T v P { D with nx := u D } R hs T2 ?_
  unfold seq2 at q
  cases e : m2 β ρ T with
  | none =>
    rw [e] at q
    exact q
  | some o =>
    rw [e] at q
    cases o with
    | nx β' ρ' T' =>
      intro σ' B0' B' H' v' P' R' s a hs' T3
      exact h2 F B0' B' H' σ' β' ρ' T' v' P' D R' hs' T3 (at2_later s a (fun j h => List.mem_append_left _ h) (fun j h => List.mem_append_right _ h) q)
    | rt β' T' => exact fun σ' B' H' v' P' R' s a T3 => q σ' B' H' v' P' R' s (a.mono fun j h => List.mem_append_left _ h) T3
    | so o =>
      show (wsOf cv W K F B0 σ w { D with nx := u D }).at (some o)
      cases o with
      | nx ρ' => exact q.elim
      | rt sv ρ' => exact fun v σ' B' H' R' s a rv => q v σ' B' H' R' s (a.mono fun j h => List.mem_append_left _ h) rv
      | bk ρ' => exact fun σ' B' H' R' s a => q σ' B' H' R' s (a.mono fun j h => List.mem_append_left _ h)
      | ct ρ' => exact fun σ' B' H' R' s a => q σ' B' H' R' s (a.mono fun j h => List.mem_append_left _ h)
      | ex c ρ' => exact fun σ' B' H' R' s a => q σ' B' H' R' s (a.mono fun j h => List.mem_append_left _ h)
theorem adm_if2b {tc : TT} {c : M Bool} (hc : Adm cv W K tc c (fun _ _ _ _ _ b b' => b = b')) (ha : Adm2 cv W K x t m2 w) (hb : Adm2 cv W K x u k2 w') : Adm2 cv W K x (tIfS tc t u) (if2b x c m2 k2) (w ++ w') := by
  intro F B0 B H σ β ρ T v P D R hs T2 q
  refine hc _ B0 H σ β _ (T2.t.hold R.base) ?_
  unfold if2b at q
  unfold wpm
  cases e : c β with
  | none =>
    rw [e] at q
    exact q.elim
  | some o =>
    rw [e] at q
    cases o with
    | ex _ _ => exact q.elim
    | ok b β' =>
      intro b' B' H' R' s eb
      subst eb
      obtain ⟨R1, T1⟩ := T2.t.later R' s
      obtain ⟨B2, R2, T3⟩ := mk2 R1 T1 hs
      cases b' with
      | true => exact ha F B' B2 H' σ β' _ T v P D R2 hs T3 (at2_later (w1 := []) s Agr.refl (fun j h => nomatch h) (fun j h => List.mem_append_left _ h) q)
      | false => exact hb F B' B2 H' σ β' _ T v P D R2 hs T3 (at2_later (w1 := []) s Agr.refl (fun j h => nomatch h) (fun j h => List.mem_append_right _ h) q)
/-! #### what follows: the list is owned again, what is in it is shared -/
theorem adm_e2 (h : AdmS cv W K t n w) : Adm2 cv W K x t (e2 x n) w := by
  intro F B0 B H σ β ρ T v P D R hs T2 q
  unfold e2 at q
  cases T with
  | sh d => exact q.elim
  | tp l => exact q.elim
  | nd l =>
    obtain ⟨a, xs, Q, rfl, hH, ht, nq, hP⟩ := T2.t.tr.root
    have hQ : ∀ b, Q b → F b = none ∧ B0 b = none ∧ ¬ OwnA σ β b ∧ ∃ o, H b = some o ∧ PlainO o := fun b hb => T2.t.hP b ((hP b).mpr (.inr hb))
    obtain ⟨R1, s1⟩ := R.base.shareP (P := Q) hQ
    obtain ⟨o1, o2, o3⟩ := T2.t.out a ((hP a).mpr (.inl rfl))
    have R2 := R1.put (sv := .fr (otds l)) hs (.fr (xs := xs) (c := .lst (otds l)) o1 ((addP_n nq).trans o2) hH rfl (TrsAt.rep s1 _ _ _ (fun b hb => addP_y hb) ht) fun j hj => o3 ⟨j, (owns_set_none hj).2⟩)
    refine h F _ H σ _ D R2 ?_
    cases e : n (β.set x (some (.fr (otds l)))) with
    | none =>
      simp only [e, Option.map_none] at q
      exact q.elim
    | some o =>
      simp only [e, Option.map_some] at q
      exact Ws.at.mono (wsOf.later (w1 := w) s1 Agr.refl (fun j h => h) fun j h => h) q
/-! #### the beginning: a name stands for a tree -/
def AdmT (cv : Nat → Value) (W : WX) (K : PySem.W.Frag) (t : TE) (f : M OT) : Prop :=
  ∀ (F B H : Hp) (σ : L2.St) (ρ : Sl) (Q : VK), Rel K F B H σ ρ →
    wpm f ρ (fun T ρ' => ∀ B' H' v P, Rel K F B' H' σ ρ' → Same B B' → TrOk K F B' H' σ ρ' v T P → Q v H') (fun c ρ' => ∀ B' H', Rel K F B' H' σ ρ' → Same B B' → W (cv c) none σ H') → t σ H Q
structure SndTr (cv : Nat → Value) (X : Cx) (W : WX) (e : Expr) (t : TE) (f : M OT) : Prop where
  pe : PE X e t
  ad : AdmT cv W X.K t f
def bgK (x : Nat) (m : M2) (T : OT) (β : Sl) : Option SO := match m β (full2 x β T) T with
  | some (.so o) => some o
  | some (.nx β _ _) => some (.nx β)
  | _ => none
def bg2 (x : Nat) (f : M OT) (m : M2) : SM := sEx f fun T ρ => if x < ρ.length then bgK x m T (ρ.set x none) else none
theorem begin2 {F B1 H1 : Hp} {σ : L2.St} {ρ1 : Sl} {v : V} {T : OT} {P : Addr → Prop} (R1 : Rel K F B1 H1 σ ρ1) (T1 : TrOk K F B1 H1 σ ρ1 v T P) (hl : x < ρ1.length) :
    ∃ B2, Rel2 K F B1 B2 H1 (σ.set x (some v)) (ρ1.set x none) (full2 x (ρ1.set x none) T) ∧ Tr2 K F B1 B2 H1 (σ.set x (some v)) (ρ1.set x none) v T P ∧ (σ.set x (some v))[x]? = some (some v) ∧ Agr [x] σ (σ.set x (some v)) := by
  have hs : x < σ.length := R1.len ▸ hl
  have ow : ∀ {j a}, Owns (σ.set x (some v)) (ρ1.set x none) j a → Owns σ ρ1 j a := fun {j a} h => by
    obtain ⟨⟨l, g1⟩, g2⟩ := h
    by_cases e : x = j
    · subst e
      rw [List.getElem?_set_self hl] at g1
      cases g1
    · rw [List.getElem?_set_ne e] at g1 g2
      exact ⟨⟨l, g1⟩, g2⟩
  have base : Rel K F B1 H1 (σ.set x (some v)) (ρ1.set x none) := by
    refine ⟨R1.exB, R1.exF, R1.dis, by rw [List.length_set, List.length_set]; exact R1.len, fun j s h => ?_, fun j k a h1 h2 => R1.sep j k a (ow h1) (ow h2), R1.tb⟩
    by_cases e : x = j
    · subst e
      rw [List.getElem?_set_self hl] at h
      cases h
    · rw [List.getElem?_set_ne e] at h
      rw [List.getElem?_set_ne e]
      exact R1.slot j s h
  have hx : (σ.set x (some v))[x]? = some (some v) := List.getElem?_set_self hs
  have T' : TrOk K F B1 H1 (σ.set x (some v)) (ρ1.set x none) v T P := ⟨T1.tr, fun a ha => by
    obtain ⟨h1, h2, h3⟩ := T1.out a ha
    exact ⟨h1, h2, fun ⟨i, o⟩ => h3 ⟨i, ow o⟩⟩⟩
  obtain ⟨B2, R2, T2⟩ := mk2 base T' hx
  exact ⟨B2, R2, T2, hx, fun j hj => by rw [List.getElem?_set_ne fun z => hj (by rw [z]; exact List.mem_singleton_self j)]⟩
theorem adm_bg2 {te : TE} {f : M OT} (hE : AdmT cv W K te f) (h : Adm2 cv W K x t m2 w) : AdmS cv W K (tSeq (tAsg te (gName x)) t) (bg2 x f m2) ([x] ++ w) := by
  intro F B H σ ρ D R q
  refine hE F B H σ ρ _ R (wpm_mono (ws_ex q) (fun T ρ1 q B1 H1 v P R1 sm1 T1 => ?_) fun _ _ q => q)
  by_cases hl : x < ρ1.length
  · simp only [if_pos hl] at q
    obtain ⟨B2, R2, T2, hx, ag⟩ := begin2 R1 T1 hl
    refine h F B1 B2 H1 _ _ _ T v P D R2 hx T2 ?_
    unfold bgK at q
    cases e : m2 (ρ1.set x none) (full2 x (ρ1.set x none) T) T with
    | none =>
      rw [e] at q
      exact q.elim
    | some o =>
      rw [e] at q
      cases o with
      | rt _ _ => exact q.elim
      | nx β' ρ' T' => exact fun σ' B0' B' H' v' P' R' s a hs' T3 => q σ' B0' H' R'.base (sm1.trans s) ((ag.mono fun j h => List.mem_append_left _ h).tr (a.mono fun j h => List.mem_append_right _ h))
      | so o => exact Ws.at.mono (wsOf.later sm1 ag (fun j h => List.mem_append_left _ h) fun j h => List.mem_append_right _ h) q
  · simp only [if_neg hl] at q
    exact q.elim
end
end Sim

namespace Sim
open PySem PySem.Spec PyProof.Rows L2
/-! ### for beside a tree -/
def forL2 (x : Nat) (g : SV → Sl → Option Sl) (body : M2) : List D → M2
  | [] => n2
  | d :: ds => fun β _ T => (g (.sh d) β).bind fun β1 => match body β1 (full2 x β1 T) T with
    | some (.nx β2 ρ2 T2) => forL2 x g body ds β2 ρ2 T2
    | some (.rt β2 T2) => some (.rt β2 T2)
    | some (.so (.rt sv ρ2)) => some (.so (.rt sv ρ2))
    | some (.so (.ex c ρ2)) => some (.so (.ex c ρ2))
    | _ => none
def for2b (x : Nat) (it : M Itb) (g : SV → Sl → Option Sl) (body : M2) : M2 := fun β _ T => match it β with
  | some (.ok ib β') => if ib.pk = [] then forL2 x g body ib.ds β' (full2 x β' T) T else none
  | _ => none
def for2r (x : Nat) (it : M Itb) (g : SV → Sl → Option Sl) (body : M2) : M2 := fun β ρ T => match it ρ with
  | some (.ok ib ρ') => if ib.pk = [] ∧ ρ'.length = β.length then forL2 x g body ib.ds β (frzS ρ') T else none
  | _ => none
/-- what is walked hangs on nothing that is shared -/
def AdmIF (cv : Nat → Value) (W : WX) (K : PySem.W.Frag) (t : TI) (m : M Itb) : Prop :=
  ∀ (F B H : Hp) (σ : L2.St) (ρ : Sl) (R' : It → Hp → Prop), Rel K F B H σ ρ →
    wpm m ρ (fun ib ρ' => ∀ J B' H', Rel K F B' H' σ ρ' → Same B B' → (∀ B1, ItOk K B1 σ J ib) → R' J H') (fun c ρ' => ∀ B' H', Rel K F B' H' σ ρ' → Same B B' → W (cv c) none σ H') → t σ H R'
structure SndIF (cv : Nat → Value) (X : Cx) (W : WX) (tg iter : Expr) (t : TI) (m : M Itb) : Prop where
  pi : PI X tg iter t
  ad : AdmIF cv W X.K t m
section
variable {cv : Nat → Value} {X : Cx} {W : WX} {e a b tg iter : Expr} {te ta : TE} {ts : TA} {f : M Op} {fs : M (List Op)} {pos p : Pos}
theorem sni_r1F (hg : Gl X "range") (hm : X.mg "range" = none) (ha : SndA cv X W [a] ts fs) (hs : starEach [a] X.env = [(false, eval a X.env)] := by rfl) : SndIF cv X W tg (.Call (.Name "range" p) [a] [] pos) (iRng1 ts) (iR1 fs) := by
  refine ⟨pi_range1 hg hm ha.pa hs, fun F B H σ ρ Q R q => ?_⟩
  refine ha.ad F B H σ ρ _ R (wpm_mono (wpm_bnd q) (fun o ρ1 q v B1 H1 R1 sm1 ov => ?_) fun _ _ q => q)
  obtain ⟨ib, e1, q⟩ := wpm_map q
  unfold jR1 at e1
  split at e1
  · rename_i j e2
    split at e1
    · rename_i hj
      cases e1
      obtain ⟨x, rfl, r⟩ := (ov.rep R1 e2).one
      cases r.int
      exact ⟨j, rfl, hj.1, hj.2, q _ B1 H1 R1 sm1 fun _ => itr_ok⟩
    · cases e1
  · cases e1
theorem sni_r2F (hg : Gl X "range") (hm : X.mg "range" = none) (ha : SndA cv X W [a, b] ts fs) (hs : starEach [a, b] X.env = [(false, eval a X.env), (false, eval b X.env)] := by rfl) (hs2 : starEach [b] X.env = [(false, eval b X.env)] := by rfl) :
    SndIF cv X W tg (.Call (.Name "range" p) [a, b] [] pos) (iRng2 ts) (iR2 fs) := by
  refine ⟨pi_range2 hg hm ha.pa hs hs2, fun F B H σ ρ Q R q => ?_⟩
  refine ha.ad F B H σ ρ _ R (wpm_mono (wpm_bnd q) (fun o ρ1 q v B1 H1 R1 sm1 ov => ?_) fun _ _ q => q)
  obtain ⟨ib, e1, q⟩ := wpm_map q
  unfold jR2 at e1
  split at e1
  · rename_i i j e2
    split at e1
    · rename_i hj
      cases e1
      obtain ⟨x, y, rfl, r, r'⟩ := (ov.rep R1 e2).two
      cases r.int
      cases r'.int
      exact ⟨i, j, rfl, ⟨hj.1.1, hj.1.2, hj.2.1, hj.2.2⟩, q _ B1 H1 R1 sm1 fun _ => itr_ok⟩
    · cases e1
  · cases e1
end
section
variable {cv : Nat → Value} {X : Cx} {W : WX} {K : PySem.W.Frag} {x : Nat} {t tb u : TS} {m n : SM} {m2 k2 : M2} {w w' : List Nat} {st : Stmt} {sts : List Stmt}
theorem loop2 {tgt : TG} {g : SV → Sl → Option Sl} (hg : AdmG K tgt g w) (hb : Adm2 cv W K x tb m2 w') (hx : x ∉ w) {F B0 B H : Hp} {σ0 : L2.St} {β ρ : Sl} {T : OT} {v : V} {P : Addr → Prop} {D : Ends} {J : It} {ib : Itb} (hpk : ib.pk = []) (ok : ItOk K B0 σ0 J ib)
    (R : Rel2 K F B0 B H σ0 β ρ) (hs : σ0[x]? = some (some v)) (T2 : Tr2 K F B0 B H σ0 β v T P) (q : at2 cv W K x F B0 σ0 (w ++ w') D (forL2 x g m2 ib.ds β ρ T)) :
    ∃ Wf : Nat → Nat → L2.St → Hp → Prop, (∃ m, Wf 0 m σ0 H) ∧ ∀ i m σ H, Wf i m σ H →
      (J.stop i H ∧ D.nx σ H) ∨ (J.go i H ∧ ∃ N : L2.St → Hp → Prop, (∀ σ' H', N σ' H' → ∃ m', m' < m ∧ Wf (i + 1) m' σ' H') ∧ ∀ x H', J.yld i H x H' → tgt x σ H' fun σ2 H2 => tb { D with nx := N, ct := N, bk := D.nx } σ2 H2) := by
  refine ⟨fun i k σ2 H2 => k = ib.ds.length - i ∧ i ≤ ib.ds.length ∧ ∃ (β2 ρ2 : Sl) (TT : OT) (B02 B2 : Hp) (v2 : V) (P2 : Addr → Prop), Rel2 K F B02 B2 H2 σ2 β2 ρ2 ∧ Same B0 B02 ∧ Agr (w ++ w') σ0 σ2 ∧ σ2[x]? = some (some v2) ∧ Tr2 K F B02 B2 H2 σ2 β2 v2 TT P2 ∧ at2 cv W K x F B0 σ0 (w ++ w') D (forL2 x g m2 (ib.ds.drop i) β2 ρ2 TT),
    ⟨ib.ds.length, by simp, Nat.zero_le _, β, ρ, T, B0, B, v, P, R, Same.refl _, Agr.refl, hs, T2, by simpa using q⟩, ?_⟩
  rintro i k σ2 H2 ⟨rfl, hle, β2, ρ2, TT, B02, B2, v2, P2, R2, sm2, ag2, hs2, T3, q2⟩
  have ok2 := ok _ B02 H2 σ2 β2 (T3.t.hold R2.base) sm2 (by rw [hpk]; exact fun q hq => nomatch hq) i
  by_cases hlt : i < ib.ds.length
  · obtain ⟨go, yl⟩ := ok2.1 _ (List.getElem?_eq_getElem hlt)
    rw [List.drop_eq_getElem_cons hlt] at q2
    refine .inr ⟨go, fun σ' H' => ∃ (β' ρ' : Sl) (TT' : OT) (B0' B' : Hp) (v' : V) (P' : Addr → Prop), Rel2 K F B0' B' H' σ' β' ρ' ∧ Same B0 B0' ∧ Agr (w ++ w') σ0 σ' ∧ σ'[x]? = some (some v') ∧ Tr2 K F B0' B' H' σ' β' v' TT' P' ∧ at2 cv W K x F B0 σ0 (w ++ w') D (forL2 x g m2 (ib.ds.drop (i + 1)) β' ρ' TT'),
      fun σ' H' ⟨β', ρ', TT', B0', B', v', P', h1, h2, h3, h4, h5, h6⟩ => ⟨_, by omega, rfl, hlt, β', ρ', TT', B0', B', v', P', h1, h2, h3, h4, h5, h6⟩, fun z H' hy => ?_⟩
    obtain ⟨B3, R3, sm3, rep⟩ := yl z H' hy
    have q2 : at2 cv W K x F B0 σ0 (w ++ w') D ((g (.sh ib.ds[i]) β2).bind fun β1 => match m2 β1 (full2 x β1 TT) TT with
      | some (.nx β2 ρ2 T2) => forL2 x g m2 (ib.ds.drop (i + 1)) β2 ρ2 T2
      | some (.rt β2 T2) => some (.rt β2 T2)
      | some (.so (.rt sv ρ2)) => some (.so (.rt sv ρ2))
      | some (.so (.ex c ρ2)) => some (.so (.ex c ρ2))
      | _ => none) := q2
    cases e1 : g (.sh ib.ds[i]) β2 with
    | none =>
      rw [e1] at q2
      exact q2.elim
    | some β3 =>
      rw [e1] at q2
      have q2 : at2 cv W K x F B0 σ0 (w ++ w') D (match m2 β3 (full2 x β3 TT) TT with
        | some (.nx β2 ρ2 T2) => forL2 x g m2 (ib.ds.drop (i + 1)) β2 ρ2 T2
        | some (.rt β2 T2) => some (.rt β2 T2)
        | some (.so (.rt sv ρ2)) => some (.so (.rt sv ρ2))
        | some (.so (.ex c ρ2)) => some (.so (.ex c ρ2))
        | _ => none) := q2
      refine hg _ B3 H' σ2 β2 z _ β3 _ R3 (.sh rep) e1 fun σ3 R4 ag3 _ => ?_
      obtain ⟨R5, T5⟩ := T3.t.later R4 sm3
      have hx3 := (ag3 x hx).trans hs2
      obtain ⟨B4, R6, T6⟩ := mk2 R5 T5 hx3
      refine hb F B3 B4 H' σ3 β3 _ TT v2 P2 _ R6 hx3 T6 ?_
      have agA : ∀ {σ4 : L2.St}, Agr w' σ3 σ4 → Agr (w ++ w') σ0 σ4 := fun a4 => ((ag2.tr (ag3.mono fun j h => List.mem_append_left _ h)).tr (a4.mono fun j h => List.mem_append_right _ h))
      have smA : ∀ {B4 : Hp}, Same B3 B4 → Same B0 B4 := fun s4 => (sm2.trans sm3).trans s4
      cases e2 : m2 β3 (full2 x β3 TT) TT with
      | none =>
        rw [e2] at q2
        exact q2.elim
      | some o =>
        rw [e2] at q2
        cases o with
        | nx β4 ρ4 T4 => exact fun σ4 B04 B4 H4 v4 P4 R5 s4 a4 h4 t4 => ⟨β4, ρ4, T4, B04, B4, v4, P4, R5, smA s4, agA a4, h4, t4, q2⟩
        | rt β4 T4 => exact fun σ4 B4 H4 v4 P4 R5 s4 a4 t4 => q2 σ4 B4 H4 v4 P4 R5 (smA s4) (agA a4) t4
        | so o =>
          cases o with
          | nx _ => exact q2.elim
          | rt sv ρ4 => exact fun v σ4 B4 H4 R5 s4 a4 rv => q2 v σ4 B4 H4 R5 (smA s4) (agA a4) rv
          | ex cx ρ4 => exact fun σ4 B4 H4 R5 s4 a4 => q2 σ4 B4 H4 R5 (smA s4) (agA a4)
          | bk ρ4 => exact q2.elim
          | ct ρ4 => exact q2.elim
  · have ei : i = ib.ds.length := by omega
    refine .inl ⟨ok2.2 (by omega), ?_⟩
    rw [ei, List.drop_length] at q2
    exact q2 σ2 B02 B2 H2 v2 P2 R2 sm2 ag2 hs2 T3
theorem adm_for2b {wi : TI} {it : M Itb} {tgt : TG} {g : SV → Sl → Option Sl} (hi : AdmI cv W K wi it) (hg : AdmG K tgt g w) (hb : Adm2 cv W K x tb m2 w') (hx : x ∉ w) : Adm2 cv W K x (tFor wi tgt tb) (for2b x it g m2) (w ++ w') := by
  intro F B0 B H σ β ρ T v P D R hs T2 q
  refine hi _ B0 H σ β _ (T2.t.hold R.base) ?_
  unfold for2b at q
  unfold wpm
  cases e : it β with
  | none =>
    rw [e] at q
    exact q.elim
  | some o =>
    rw [e] at q
    cases o with
    | ex _ _ => exact q.elim
    | ok ib β' =>
      by_cases hpk : ib.pk = []
      · simp only [if_pos hpk] at q
        intro J B' H' R' s ok
        obtain ⟨R1, T1⟩ := T2.t.later R' s
        obtain ⟨B2, R2, T3⟩ := mk2 R1 T1 hs
        exact loop2 hg hb hx hpk ok R2 hs T3 (at2_later (w1 := []) s Agr.refl (fun j h => nomatch h) (fun j h => h) q)
      · simp only [if_neg hpk] at q
        exact q.elim
theorem adm_for2r {wi : TI} {it : M Itb} {tgt : TG} {g : SV → Sl → Option Sl} (hi : AdmIF cv W K wi it) (hg : AdmG K tgt g w) (hb : Adm2 cv W K x tb m2 w') (hx : x ∉ w) : Adm2 cv W K x (tFor wi tgt tb) (for2r x it g m2) (w ++ w') := by
  intro F B0 B H σ β ρ T v P D R hs T2 q
  refine hi _ B H σ ρ _ R.full ?_
  unfold for2r at q
  unfold wpm
  cases e : it ρ with
  | none =>
    rw [e] at q
    exact q.elim
  | some o =>
    rw [e] at q
    cases o with
    | ex _ _ => exact q.elim
    | ok ib ρ' =>
      by_cases hpk : ib.pk = [] ∧ ρ'.length = β.length
      · simp only [if_pos hpk] at q
        intro J B' H' R' s ok
        obtain ⟨B2, R2, T3⟩ := R.back T2 R' s (w := []) Agr.refl hpk.2
        rw [survS_nil hpk.2] at R2 T3
        exact loop2 hg hb hx hpk.1 (ok _) R2 hs T3 q
      · simp only [if_neg hpk] at q
        exact q.elim
end
/-! ### for y in x: .. : each of the trees in it is changed -/
def muL (y : Nat) (body : M2) : List OT → Sl → Option (List OT × Sl)
  | [], β => some ([], β)
  | t :: ts, β => if y < β.length then (match body (β.set y none) (full2 y (β.set y none) t) t with
    | some (.nx β2 _ t') => (muL y body ts (β2.set y none)).map fun q => (t' :: q.1, q.2)
    | _ => none) else none
def mu2 (x y : Nat) (body : M2) : M2 := fun β _ T => match T with
  | .nd l => match muL y body l β with
    | some q => some (.nx q.2 (full2 x q.2 (.nd q.1)) (.nd q.1))
    | none => none
  | _ => none
section
variable {cv : Nat → Value} {X : Cx} {W : WX} {K : PySem.W.Frag} {x : Nat} {t tb u : TS} {m n : SM} {m2 k2 : M2} {w w' wb : List Nat} {st : Stmt} {sts : List Stmt}
theorem adm_mu2 {y : Nat} (hb : Adm2 cv W K y tb m2 wb) (hxy : x ≠ y) (hx : x ∉ wb) (hy : y ∉ wb) : Adm2 cv W K x (tFor (iList K (tVar x)) (gName y) tb) (mu2 x y m2) ([y] ++ wb) := by
  intro F B0 B H σ β ρ T v P D R hs T2 q
  unfold mu2 at q
  cases T with
  | sh d => exact q.elim
  | tp l => exact q.elim
  | nd l =>
    simp only at q
    cases e0 : muL y m2 l β with
    | none =>
      rw [e0] at q
      exact q.elim
    | some qq =>
      rw [e0] at q
      obtain ⟨p, xs, Q0, rfl, hH, ht, nq, hPQ⟩ := T2.t.tr.root
      have hlen := ht.length
      refine ⟨.ref p, hs, p, rfl, ⟨_, SqL.of hH⟩, ?_⟩
      refine ⟨fun i k σ2 H2 => k = l.length - i ∧ i ≤ l.length ∧ ∃ (β2 : Sl) (B2 : Hp) (done : List OT) (r : List OT × Sl) (Q : Addr → Prop), Rel K F B2 H2 σ2 β2 ∧ Same B0 B2 ∧ Agr ([y] ++ wb) σ σ2 ∧ done.length = i ∧ H2 p = some (.lst xs) ∧ TrsAt K B2 H2 xs (done ++ l.drop i) Q ∧ ¬ Q p ∧ (∀ a, a = p ∨ Q a → F a = none ∧ B2 a = none ∧ ¬ OwnA σ2 β2 a) ∧ muL y m2 (l.drop i) β2 = some r ∧ qq = (done ++ r.1, r.2), ⟨l.length, by simp, Nat.zero_le _, β, B0, [], qq, Q0, R.base, Same.refl _, Agr.refl, rfl, hH, ht, nq, fun a ha => T2.t.out a ((hPQ a).mpr ha), e0, rfl⟩, ?_⟩
      rintro i k σ2 H2 ⟨rfl, hle, β2, B2, done, r, Q, R2, sm2, ag2, hd, hp2, ht2, nq2, out2, e1, rfl⟩
      by_cases hlt : i < l.length
      · have hcur : (done ++ l.drop i)[i]? = some l[i] := by
          rw [List.getElem?_append_right (by omega), hd, Nat.sub_self, List.getElem?_drop, Nat.add_zero, List.getElem?_eq_getElem hlt]
        obtain ⟨u, S, hu, tu, hSQ, rep⟩ := ht2.at_ hcur
        rw [List.drop_eq_getElem_cons hlt] at e1
        unfold muL at e1
        refine .inr ⟨⟨_, _, SqL.of hp2, hu⟩, fun σ' H' => ∃ (β' : Sl) (B' : Hp) (done' : List OT) (r' : List OT × Sl) (Q' : Addr → Prop), Rel K F B' H' σ' β' ∧ Same B0 B' ∧ Agr ([y] ++ wb) σ σ' ∧ done'.length = i + 1 ∧ H' p = some (.lst xs) ∧ TrsAt K B' H' xs (done' ++ l.drop (i + 1)) Q' ∧ ¬ Q' p ∧ (∀ a, a = p ∨ Q' a → F a = none ∧ B' a = none ∧ ¬ OwnA σ' β' a) ∧ muL y m2 (l.drop (i + 1)) β' = some r' ∧ (done ++ r.1, r.2) = (done' ++ r'.1, r'.2),
          fun σ' H' ⟨β', B', done', r', Q', h1, h2, h3, h4, h5, h6, h7, h8, h9, h10⟩ => ⟨_, by omega, rfl, hlt, β', B', done', r', Q', h1, h2, h3, h4, h5, h6, h7, h8, h9, h10⟩, fun z H' hyd => ?_⟩
        obtain ⟨rfl, hz⟩ := hyd
        have hz1 := hz _ (SqL.of hp2)
        rw [hu] at hz1
        cases hz1
        have hyl2 : y < β2.length := Decidable.byContradiction fun z => by
          rw [if_neg z] at e1
          cases e1
        rw [if_pos hyl2] at e1
        have lstQ : ∀ a, a = p ∨ Q a → ∃ o, H' a = some o ∧ PlainO o := fun a ha => by
          rcases ha with rfl | ha
          · exact ⟨_, hp2, plain_lst⟩
          · exact TrsAt.lst _ _ _ ht2 a ha
        have hP : ∀ b, ((b = p ∨ Q b) ∧ ¬ S b) → F b = none ∧ B2 b = none ∧ ¬ OwnA σ2 β2 b ∧ ∃ o, H' b = some o ∧ PlainO o := fun b ⟨hb, _⟩ => by
          obtain ⟨h1, h2, h3⟩ := out2 b hb
          exact ⟨h1, h2, h3, lstQ b hb⟩
        have Rh := R2.holdP (P := fun b => (b = p ∨ Q b) ∧ ¬ S b) hP
        have Th : TrOk K (addP (fun b => (b = p ∨ Q b) ∧ ¬ S b) F H') B2 H' σ2 β2 u l[i] S := ⟨tu, fun b hb => by
          obtain ⟨h1, h2, h3⟩ := out2 b (.inr (hSQ b hb))
          exact ⟨(addP_n (P := fun b => (b = p ∨ Q b) ∧ ¬ S b) fun z => z.2 hb).trans h1, h2, h3⟩⟩
        obtain ⟨Bx, R3, T3, hy3, ag3⟩ := begin2 (x := y) Rh Th hyl2
        refine hb _ B2 Bx H' _ _ _ _ u S _ R3 hy3 T3 ?_
        cases e2 : m2 (β2.set y none) (full2 y (β2.set y none) l[i]) l[i] with
        | none =>
          rw [e2] at e1
          cases e1
        | some o =>
          rw [e2] at e1
          cases o with
          | rt _ _ => cases e1
          | so _ => cases e1
          | nx β4 ρ4 t' =>
            simp only at e1
            cases e4 : muL y m2 (l.drop (i + 1)) (β4.set y none) with
            | none =>
              rw [e4] at e1
              cases e1
            | some r' =>
              rw [e4] at e1
              cases e1
              intro σ4 B4 B4x H4 v4 S4 R4 s4 a4 hy4 T4
              have hv : v4 = u := by
                have h1 := (a4 y hy).trans hy3
                rw [hy4] at h1
                cases h1
                rfl
              subst hv
              have inF : ∀ b, ((b = p ∨ Q b) ∧ ¬ S b) → ∀ o, H' b = some o → addP (fun b => (b = p ∨ Q b) ∧ ¬ S b) F H' b = some o := fun b hb o eo => (addP_y (P := fun b => (b = p ∨ Q b) ∧ ¬ S b) hb).trans eo
              have hsF : Same F (addP (fun b => (b = p ∨ Q b) ∧ ¬ S b) F H') := fun b o eo => by
                rw [addP_n (P := fun b => (b = p ∨ Q b) ∧ ¬ S b) fun z => by rw [(hP b z).1] at eo; cases eo]
                exact eo
              have nF : ∀ {b}, addP (fun b => (b = p ∨ Q b) ∧ ¬ S b) F H' b = none → F b = none := fun {b} h => by
                cases g : F b with
                | none => rfl
                | some o =>
                  rw [hsF _ _ g] at h
                  cases h
              have out4 : ∀ b, S4 b → ¬ ((b = p ∨ Q b) ∧ ¬ S b) := fun b hb z => by
                obtain ⟨ys, ey, _⟩ := lstQ b z.1
                have h1 := (T4.t.out b hb).1
                rw [inF b z _ ey] at h1
                cases h1
              have hpS : ¬ S p := fun z => nq2 (hSQ p z)
              have hp4 : H4 p = some (.lst xs) := R4.base.exF _ _ (inF p ⟨.inl rfl, hpS⟩ _ hp2)
              have ht4 := rep B4 H4 v4 t' S4 s4 (fun a o h1 h2 h3 => R4.base.exF _ _ (inF a ⟨.inr h1, h2⟩ o h3)) T4.t.tr fun a h1 h2 => Classical.byContradiction fun h3 => out4 a h1 ⟨.inr h2, h3⟩
              have hset : xs.set i v4 = xs := by
                refine List.ext_getElem? fun j => ?_
                by_cases hj : i = j
                · subst hj
                  have hl := (List.getElem?_eq_some_iff.mp hu).1
                  rw [List.getElem?_set_self hl, hu]
                · rw [List.getElem?_set_ne hj]
              rw [hset] at ht4
              have hcur2 : (done ++ l.drop i).set i t' = (done ++ [t']) ++ l.drop (i + 1) := by
                rw [List.set_append_right _ _ (by omega), hd, Nat.sub_self, List.drop_eq_getElem_cons hlt, List.set_cons_zero, List.append_assoc]
                rfl
              rw [hcur2] at ht4
              have RF : Rel K F B4 H4 σ4 (β4.set y none) := (R4.base.drop y).lessF hsF
              have agA : Agr ([y] ++ wb) σ σ4 := (ag2.tr (ag3.mono fun j h => List.mem_append_left _ h)).tr (a4.mono fun j h => List.mem_append_right _ h)
              refine ⟨β4.set y none, B4, done ++ [t'], r', _, RF, sm2.trans s4, agA, by rw [List.length_append, hd]; rfl, hp4, ht4, fun z => ?_, fun a ha => ?_, e4, by rw [List.append_assoc]; rfl⟩
              · rcases z with ⟨z, _⟩ | z
                · exact nq2 z
                · exact out4 p z ⟨.inl rfl, hpS⟩
              · have key : ((a = p ∨ Q a) ∧ ¬ S a) ∨ S4 a := by
                  rcases ha with rfl | ⟨h1, h2⟩ | h
                  · exact .inl ⟨.inl rfl, hpS⟩
                  · exact .inl ⟨.inr h1, h2⟩
                  · exact .inr h
                rcases key with h | h
                · obtain ⟨ys, ey, _⟩ := lstQ a h.1
                  have eF := inF a h _ ey
                  refine ⟨(hP a h).1, R4.base.dis _ _ eF, fun ⟨j, ho⟩ => ?_⟩
                  obtain ⟨_, _, _, _, z, _⟩ := (owns_set_none ho).2.at R4.base
                  rw [eF] at z
                  cases z
                · obtain ⟨h1, h2, h3⟩ := T4.t.out a h
                  exact ⟨nF h1, h2, fun ⟨j, ho⟩ => h3 ⟨j, (owns_set_none ho).2⟩⟩
      · have ei : i = l.length := by omega
        refine .inl ⟨⟨_, SqL.of hp2, by rw [hlen]; omega⟩, ?_⟩
        rw [ei, List.drop_length] at e1 ht2
        unfold muL at e1
        cases e1
        rw [List.append_nil] at ht2
        have q : at2 cv W K x F B0 σ ([y] ++ wb) D (some (.nx β2 (full2 x β2 (.nd (done ++ []))) (.nd (done ++ [])))) := q
        rw [List.append_nil] at q
        have hx2 : σ2[x]? = some (some (.ref p)) := (ag2 x (by
          intro z
          rcases List.mem_append.mp z with z | z
          · exact hxy (List.mem_singleton.mp z)
          · exact hx z)).trans hs
        obtain ⟨B3, R3, T3⟩ := mk2 (x := x) R2 (v := .ref p) (T := .nd done) (P := fun b => b = p ∨ Q b) ⟨.nd hp2 ht2 nq2, out2⟩ hx2
        exact q σ2 B2 B3 H2 _ _ R3 sm2 ag2 hx2 T3
end
end Sim

namespace Sim
open PySem PySem.Spec PyProof.Rows L2
/-! ### a tree is changed: at its root, or at one of the lists in it -/
def otGet (T : OT) : Option Nat → Option (List OT)
  | none => match T with
    | .nd l => some l
    | _ => none
  | some i => match T with
    | .nd l => match l[i]? with
      | some (.nd m) => some m
      | _ => none
    | .tp l => match l[i]? with
      | some (.nd m) => some m
      | _ => none
    | _ => none
def otPut (T : OT) : Option Nat → List OT → OT
  | none, m => .nd m
  | some i, m => match T with
    | .nd l => .nd (l.set i (.nd m))
    | .tp l => .tp (l.set i (.nd m))
    | t => t
def AddrOf (H : Hp) (v : V) : Option Nat → Addr → Prop
  | none, a => v = .ref a
  | some i, a => ∃ p ys, v = .ref p ∧ (H p = some (.lst ys) ∨ H p = some (.tup ys)) ∧ ys[i]? = some (.ref a)
theorem AddrOf.uniq {H : Hp} {v : V} {p : Option Nat} {a b : Addr} (h1 : AddrOf H v p a) (h2 : AddrOf H v p b) : a = b := by
  cases p with
  | none =>
    have h1 : v = .ref a := h1
    have h2 : v = .ref b := h2
    rw [h1] at h2
    exact V.ref.inj h2
  | some i =>
    obtain ⟨p, ys, rfl, e1, e2⟩ := h1
    obtain ⟨p', ys', e0, e3, e4⟩ := h2
    cases e0
    have : ys = ys' := by
      rcases e1 with e1 | e1 <;> rcases e3 with e3 | e3 <;> rw [e1] at e3 <;> cases e3 <;> rfl
    subst this
    rw [e2] at e4
    cases e4
    rfl
section
variable {K : PySem.W.Frag} {F B B' B0 H H' : Hp} {σ σ' : L2.St} {ρ β : Sl} {v : V} {d : D} {sv : SV}
theorem set_self {α : Type} {xs : List α} {i : Nat} {u : α} (h : xs[i]? = some u) : xs.set i u = xs := by
  refine List.ext_getElem? fun j => ?_
  by_cases hj : i = j
  · subst hj
    have hl := (List.getElem?_eq_some_iff.mp h).1
    rw [List.getElem?_set_self hl, h]
  · rw [List.getElem?_set_ne hj]
theorem TrAt.node {T : OT} {P : Addr → Prop} {p : Option Nat} {m : List OT} (h : TrAt K B H v T P) (e : otGet T p = some m) : ∃ a xs Q, AddrOf H v p a ∧ H a = some (.lst xs) ∧ TrsAt K B H xs m Q ∧ P a ∧ ¬ Q a ∧ (∀ b, Q b → P b) ∧
    ∀ xs' m' Q', TrsAt K B H xs' m' Q' → (∀ b, Q' b → P b → Q b) → ∃ P', TrAt K B (upd H a (.lst xs')) v (otPut T p m') P' ∧ ∀ b, P' b → P b ∨ Q' b := by
  cases T with
  | sh d => cases p <;> cases e
  | nd l =>
    obtain ⟨r, ys, Q0, rfl, hr, ht, nr, hPQ⟩ := h.root
    cases p with
    | none =>
      cases e
      refine ⟨r, ys, Q0, rfl, hr, ht, (hPQ r).mpr (.inl rfl), nr, fun b hb => (hPQ b).mpr (.inr hb), fun xs' m' Q' t' hq => ?_⟩
      have n' : ¬ Q' r := fun z => nr (hq r z ((hPQ r).mpr (.inl rfl)))
      refine ⟨_, .nd upd_same (TrsAt.mono (Same.refl _) _ _ _ (fun b o hb eo => ?_) t') n', fun b hb => ?_⟩
      · rw [upd_ne (fun z : b = r => n' (z ▸ hb))]
        exact eo
      · rcases hb with rfl | hb
        · exact .inl ((hPQ b).mpr (.inl rfl))
        · exact .inr hb
    | some i =>
      have e : (match l[i]? with
        | some (.nd m) => some m
        | _ => none) = some m := e
      split at e
      · rename_i m0 hi
        cases e
        obtain ⟨u, S, hu, tu, hS, rep⟩ := ht.at_ hi
        obtain ⟨a, xs, Q, rfl, ha, tm, na, hSQ⟩ := tu.root
        have Sa : S a := (hSQ a).mpr (.inl rfl)
        have Pa : P a := (hPQ a).mpr (.inr (hS a Sa))
        have ar : a ≠ r := fun z => nr (z ▸ hS a Sa)
        refine ⟨a, xs, Q, ⟨r, ys, rfl, .inl hr, hu⟩, ha, tm, Pa, na, fun b hb => (hPQ b).mpr (.inr (hS b ((hSQ b).mpr (.inr hb)))), fun xs' m' Q' t' hq => ?_⟩
        have n' : ¬ Q' a := fun z => na (hq a z Pa)
        have tn : TrAt K B (upd H a (.lst xs')) (.ref a) (.nd m') (fun b => b = a ∨ Q' b) := .nd upd_same (TrsAt.mono (Same.refl _) _ _ _ (fun b o hb eo => by
          rw [upd_ne (fun z : b = a => n' (z ▸ hb))]
          exact eo) t') n'
        have k := rep B (upd H a (.lst xs')) (.ref a) (.nd m') _ (Same.refl _) (fun b o hb nb eo => by
          rw [upd_ne (fun z : b = a => nb (z ▸ Sa))]
          exact eo) tn fun b hb hp => by
            rcases hb with rfl | hb
            · exact Sa
            · exact (hSQ b).mpr (.inr (hq b hb ((hPQ b).mpr (.inr hp))))
        rw [set_self hu] at k
        have hr' : upd H a (.lst xs') r = some (.lst ys) := (upd_ne ar.symm).trans hr
        refine ⟨_, .nd hr' k fun z => ?_, fun b hb => ?_⟩
        · rcases z with ⟨z, _⟩ | z | z
          · exact nr z
          · exact ar z.symm
          · exact nr (hS r ((hSQ r).mpr (.inr (hq r z ((hPQ r).mpr (.inl rfl))))))
        · rcases hb with rfl | ⟨hb, _⟩ | rfl | hb
          · exact .inl ((hPQ _).mpr (.inl rfl))
          · exact .inl ((hPQ _).mpr (.inr hb))
          · exact .inl Pa
          · exact .inr hb
      · cases e
  | tp l =>
    obtain ⟨r, ys, Q0, rfl, hr, ht, nr, hPQ⟩ := h.rootT
    cases p with
    | none => cases e
    | some i =>
      have e : (match l[i]? with
        | some (.nd m) => some m
        | _ => none) = some m := e
      split at e
      · rename_i m0 hi
        cases e
        obtain ⟨u, S, hu, tu, hS, rep⟩ := ht.at_ hi
        obtain ⟨a, xs, Q, rfl, ha, tm, na, hSQ⟩ := tu.root
        have Sa : S a := (hSQ a).mpr (.inl rfl)
        have Pa : P a := (hPQ a).mpr (.inr (hS a Sa))
        have ar : a ≠ r := fun z => nr (z ▸ hS a Sa)
        refine ⟨a, xs, Q, ⟨r, ys, rfl, .inr hr, hu⟩, ha, tm, Pa, na, fun b hb => (hPQ b).mpr (.inr (hS b ((hSQ b).mpr (.inr hb)))), fun xs' m' Q' t' hq => ?_⟩
        have n' : ¬ Q' a := fun z => na (hq a z Pa)
        have tn : TrAt K B (upd H a (.lst xs')) (.ref a) (.nd m') (fun b => b = a ∨ Q' b) := .nd upd_same (TrsAt.mono (Same.refl _) _ _ _ (fun b o hb eo => by
          rw [upd_ne (fun z : b = a => n' (z ▸ hb))]
          exact eo) t') n'
        have k := rep B (upd H a (.lst xs')) (.ref a) (.nd m') _ (Same.refl _) (fun b o hb nb eo => by
          rw [upd_ne (fun z : b = a => nb (z ▸ Sa))]
          exact eo) tn fun b hb hp => by
            rcases hb with rfl | hb
            · exact Sa
            · exact (hSQ b).mpr (.inr (hq b hb ((hPQ b).mpr (.inr hp))))
        rw [set_self hu] at k
        have hr' : upd H a (.lst xs') r = some (.tup ys) := (upd_ne ar.symm).trans hr
        refine ⟨_, .tp hr' k fun z => ?_, fun b hb => ?_⟩
        · rcases z with ⟨z, _⟩ | z | z
          · exact nr z
          · exact ar z.symm
          · exact nr (hS r ((hSQ r).mpr (.inr (hq r z ((hPQ r).mpr (.inl rfl))))))
        · rcases hb with rfl | ⟨hb, _⟩ | rfl | hb
          · exact .inl ((hPQ _).mpr (.inl rfl))
          · exact .inl ((hPQ _).mpr (.inr hb))
          · exact .inl Pa
          · exact .inr hb
      · cases e
theorem TrOk.poke {T : OT} {P : Addr → Prop} {p : Option Nat} {m : List OT} (R : Rel K F B H σ ρ) (h : TrOk K F B H σ ρ v T P) (e : otGet T p = some m) : ∃ a xs Q, AddrOf H v p a ∧ H a = some (.lst xs) ∧ TrsAt K B H xs m Q ∧ P a ∧ (∀ b, Q b → P b) ∧
    ∀ xs' m' Q', TrsAt K B H xs' m' Q' → (∀ b, Q' b → Q b ∨ (¬ P b ∧ F b = none ∧ B b = none ∧ ¬ OwnA σ ρ b)) → ∃ P', Rel K F B (upd H a (.lst xs')) σ ρ ∧ TrOk K F B (upd H a (.lst xs')) σ ρ v (otPut T p m') P' := by
  obtain ⟨a, xs, Q, h1, h2, h3, h4, h5, h6, h7⟩ := h.tr.node e
  refine ⟨a, xs, Q, h1, h2, h3, h4, h6, fun xs' m' Q' t' hq => ?_⟩
  obtain ⟨P', tp, hp⟩ := h7 xs' m' Q' t' fun b hb pb => (hq b hb).elim id fun z => (z.1 pb).elim
  obtain ⟨o1, o2, o3⟩ := h.out a h4
  refine ⟨P', R.poke o1 o2 o3 h2, tp, fun b hb => ?_⟩
  rcases hp b hb with hb | hb
  · exact h.out b hb
  · rcases hq b hb with hb | hb
    · exact h.out b (h6 b hb)
    · exact hb.2
end
/-! #### where -/
def AdmL (cv : Nat → Value) (W : WX) (K : PySem.W.Frag) (x : Nat) (to : TE) (loc : Sl → OT → Option (Option Nat × Sl)) : Prop :=
  ∀ (F B H : Hp) (σ : L2.St) (β : Sl) (T : OT) (v : V) (P : Addr → Prop) (Q : VK) (pth : Option Nat) (β' : Sl), Rel K F B H σ β → σ[x]? = some (some v) → TrOk K F B H σ β v T P → loc β T = some (pth, β') →
    (∀ B' H' a, Rel K F B' H' σ β' → Same B B' → TrOk K F B' H' σ β' v T P → AddrOf H' v pth a → Q (.ref a) H') → to σ H Q
structure SndL (cv : Nat → Value) (X : Cx) (W : WX) (x : Nat) (e : Expr) (to : TE) (loc : Sl → OT → Option (Option Nat × Sl)) : Prop where
  pe : PE X e to
  ad : AdmL cv W X.K x to loc
def lcRt : Sl → OT → Option (Option Nat × Sl) := fun β T => match T with
  | .nd _ => some (none, β)
  | _ => none
def lcIx (fk : M Op) : Sl → OT → Option (Option Nat × Sl) := fun β T => match fk β with
  | some (.ok o β') => match get β' o, T with
    | some (.int n), .nd l => (ixN l.length n).bind fun i => match l[i]? with
      | some (.nd _) => some (some i, β')
      | _ => none
    | some (.int n), .tp l => (ixN l.length n).bind fun i => match l[i]? with
      | some (.nd _) => some (some i, β')
      | _ => none
    | _, _ => none
  | _ => none
section
variable {cv : Nat → Value} {X : Cx} {W : WX} {K : PySem.W.Frag} {x : Nat} {e k o : Expr} {te to tk : TE} {f : M OT} {fk : M Op} {loc : Sl → OT → Option (Option Nat × Sl)} {pos p apos : Pos}
theorem snl_root (ho : PE X o (tVar x)) : SndL cv X W x o (tVar x) lcRt := by
  refine ⟨ho, fun F B H σ β T v P Q pth β' R hs h e q => ?_⟩
  unfold lcRt at e
  cases T with
  | sh d => cases e
  | tp l => cases e
  | nd l =>
    cases e
    obtain ⟨a, xs, Q0, rfl, hH, ht, nq, hPQ⟩ := h.tr.root
    exact ⟨_, hs, q B H a R (Same.refl _) h rfl⟩
theorem snl_ix (ho : PE X o (tVar x)) (hk : SndO cv X W k tk fk) (hp : PlainIx k) : SndL cv X W x (.Subscript o k pos) (tOp (rIx X.K) (tVar x) tk) (lcIx fk) := by
  refine ⟨pe_ix ix_seq ho hk.pe hp, fun F B H σ β T v P Q pth β' R hs h e q => ?_⟩
  refine ⟨_, hs, hk.ad _ B H σ β _ (h.hold R) ?_⟩
  unfold lcIx at e
  unfold wpm
  cases e1 : fk β with
  | none =>
    rw [e1] at e
    cases e
  | some r =>
    cases r with
    | ex _ _ =>
      rw [e1] at e
      cases e
    | ok op β1 =>
      rw [e1] at e
      simp only at e
      split at e
      · rename_i n l eg
        cases ei : ixN l.length n with
        | none =>
          rw [ei] at e
          cases e
        | some i =>
          rw [ei] at e
          simp only [Option.bind_some] at e
          split at e
          · rename_i m hi
            cases e
            intro u B' H' R' s ou
            obtain ⟨R1, T1⟩ := h.later R' s
            have hu := (ou.rep R1 eg).int
            subst hu
            obtain ⟨r, ys, Q0, rfl, hr, ht, nr, hPQ⟩ := T1.tr.root
            obtain ⟨w, S, hw, tw, _, _⟩ := ht.at_ hi
            obtain ⟨a, xs, _, rfl, _⟩ := tw.root
            refine .inl ⟨r, ys, n, .ref a, rfl, rfl, SqL.of hr, ?_, q B' H' a R1 s T1 ⟨r, ys, rfl, .inl hr, hw⟩⟩
            unfold atI
            rw [ht.length, ei]
            exact hw
          · cases e
      · rename_i n l eg
        cases ei : ixN l.length n with
        | none =>
          rw [ei] at e
          cases e
        | some i =>
          rw [ei] at e
          simp only [Option.bind_some] at e
          split at e
          · rename_i m hi
            cases e
            intro u B' H' R' s ou
            obtain ⟨R1, T1⟩ := h.later R' s
            have hu := (ou.rep R1 eg).int
            subst hu
            obtain ⟨r, ys, Q0, rfl, hr, ht, nr, hPQ⟩ := T1.tr.rootT
            obtain ⟨w, S, hw, tw, _, _⟩ := ht.at_ hi
            obtain ⟨a, xs, _, rfl, _⟩ := tw.root
            refine .inr (.inl ⟨r, ys, n, .ref a, rfl, rfl, TpAt.sq (.inl hr), ?_, q B' H' a R1 s T1 ⟨r, ys, rfl, .inr hr, hw⟩⟩)
            unfold atI
            rw [ht.length, ei]
            exact hw
          · cases e
      · cases e
/-! #### x.append(e), x[i].append(e) -/
/-! #### x.reverse() -/
/-! #### x[k] = e, x[i][k] = e, what is put there is shared -/
def stX (x : Nat) (f : M Op) (loc : Sl → OT → Option (Option Nat × Sl)) (fk : M Op) : M2 := fun β _ T => match f β with
  | some (.ok (.val d) β0) => (loc β0 T).bind fun q => match fk q.2 with
    | some (.ok o β2) => match get β2 o with
      | some (.int n) => (otGet T q.1).bind fun m => (ixN m.length n).bind fun j => some (.nx β2 (full2 x β2 (otPut T q.1 (m.set j (.sh d)))) (otPut T q.1 (m.set j (.sh d))))
      | _ => none
    | _ => none
  | _ => none
theorem adm_stX {w : List Nat} {f : M Op} (hf : Adm cv W K te f (fun _ B _ σ _ v o => OpV K B σ v o)) (hl : AdmL cv W K x to loc) (hk : Adm cv W K tk fk (fun _ B _ σ _ v o => OpV K B σ v o)) : Adm2 cv W K x (tAsg te (L2.gSub to tk rSetL)) (stX x f loc fk) w := by
  intro F B0 B H σ β ρ T v P D R hs T2 q
  unfold stX at q
  refine hf _ B0 H σ β _ (T2.t.hold R.base) ?_
  unfold wpm
  cases e0 : f β with
  | none =>
    rw [e0] at q
    exact q.elim
  | some r =>
    cases r with
    | ex _ _ =>
      rw [e0] at q
      exact q.elim
    | ok od β0 =>
      cases od with
      | slot _ =>
        rw [e0] at q
        exact q.elim
      | val d =>
        rw [e0] at q
        simp only at q
        intro ud B1 H1 Rh1 s1 od
        obtain ⟨R1, T1⟩ := T2.t.later Rh1 s1
        cases od with
        | val rd =>
          cases e1 : loc β0 T with
          | none =>
            rw [e1] at q
            exact q.elim
          | some pq =>
            obtain ⟨pth, β1⟩ := pq
            rw [e1] at q
            simp only [Option.bind_some] at q
            refine hl F B1 H1 σ β0 T v P _ pth β1 R1 hs T1 e1 fun B2 H2 a R2 s2 T3 ha => ?_
            refine hk _ B2 H2 σ β1 _ (T3.hold R2) ?_
            unfold wpm
            cases e2 : fk β1 with
            | none =>
              rw [e2] at q
              exact q.elim
            | some r =>
              cases r with
              | ex _ _ =>
                rw [e2] at q
                exact q.elim
              | ok ok β2 =>
                rw [e2] at q
                simp only at q
                split at q
                · rename_i n eg
                  intro un B3 H3 Rh3 s3 on
                  obtain ⟨R3, T4⟩ := T3.later Rh3 s3
                  have hn := (on.rep R3 eg).int
                  subst hn
                  cases e3 : otGet T pth with
                  | none =>
                    rw [e3] at q
                    exact q.elim
                  | some m =>
                    rw [e3] at q
                    simp only [Option.bind_some] at q
                    cases e4 : ixN m.length n with
                    | none =>
                      rw [e4] at q
                      exact q.elim
                    | some j =>
                      rw [e4] at q
                      simp only [Option.bind_some] at q
                      obtain ⟨a2, xs2, Q2, ha2, hH2, ht2, Pa2, hQP2, pk⟩ := TrOk.poke R3 T4 e3
                      have haa : a = a2 := by
                        have e5 : ∀ b o, P b → H2 b = some o → H3 b = some o := fun b o hb eo => Rh3.exF _ _ ((addP_y hb).trans eo)
                        cases pth with
                        | none => exact ha.uniq ha2
                        | some i =>
                          obtain ⟨r, ys, rfl, er, ei⟩ := ha
                          have Pr : P r := by
                            cases T with
                            | sh d => cases e3
                            | nd l =>
                              obtain ⟨r', _, _, hr', _, _, _, hPQ⟩ := T3.tr.root
                              cases hr'
                              exact (hPQ r).mpr (.inl rfl)
                            | tp l =>
                              obtain ⟨r', _, _, hr', _, _, _, hPQ⟩ := T3.tr.rootT
                              cases hr'
                              exact (hPQ r).mpr (.inl rfl)
                          exact AddrOf.uniq (p := some i) ⟨r, ys, rfl, er.imp (e5 r _ Pr) (e5 r _ Pr), ei⟩ ha2
                      subst haa
                      have hj : j < m.length := (ixN_seq e4).2.1
                      obtain ⟨w0, S, hw, tw, hS, rep⟩ := ht2.at_ (List.getElem?_eq_getElem hj)
                      have k := rep B3 H3 ud (.sh d) _ (Same.refl _) (fun b o _ _ eo => eo) (.sh (rd.mono (s2.trans s3) _ _)) fun b z => z.elim
                      obtain ⟨P', R4, T5⟩ := pk _ _ _ k fun b hb => .inl (hb.elim (fun z => z.1) fun z => z.elim)
                      refine ⟨a, xs2, n, j, rfl, rfl, hH2, by rw [ht2.length]; exact e4, ?_⟩
                      obtain ⟨B5, R5, T6⟩ := mk2 (x := x) R4 T5 hs
                      exact q σ B3 B5 _ v P' R5 ((s1.trans s2).trans s3) Agr.refl hs T6
                · exact q.elim
end
end Sim

namespace Sim
open PySem PySem.Spec PyProof.Rows L2
/-! ### x[a], x[b] = x[b], x[a] -/
def vI (f : M Op) : M Int := bnd f fun o ρ => match get ρ o with
  | some (.int n) => some (.ok n ρ)
  | _ => none
section
variable {K : PySem.W.Frag} {F B B' B0 H H' : Hp} {σ σ' : L2.St} {ρ β : Sl} {v : V} {d : D} {sv : SV}
theorem adm_vI {cv : Nat → Value} {W : WX} {tk : TE} {f : M Op} (hk : Adm cv W K tk f (fun _ B _ σ _ v o => OpV K B σ v o)) : Adm cv W K tk (vI f) (fun _ _ _ _ _ v n => v = .int n) := by
  intro F B H σ ρ Q R q
  refine hk F B H σ ρ _ R (wpm_mono (wpm_bnd q) (fun o ρ1 q v B1 H1 R1 sm1 ov => ?_) fun _ _ q => q)
  unfold wpm at q
  cases eg : get ρ1 o with
  | none => simp only [eg] at q
  | some d =>
    cases d with
    | int n =>
      simp only [eg] at q
      exact q v B1 H1 R1 sm1 (ov.rep R1 eg).int
    | _ => simp only [eg] at q
theorem kept {P : Addr → Prop} {ρ' : Sl} (R : Rel K (addP P F H) B' H' σ' ρ') {a : Addr} {o : HO} (hp : P a) (e : H a = some o) : H' a = some o := R.exF _ _ ((addP_y hp).trans e)
theorem TrsAt.swap {l : List OT} {xs : List V} {Q : Addr → Prop} {i j : Nat} {t1 t2 : OT} (h : TrsAt K B H xs l Q) (h1 : l[i]? = some t1) (h2 : l[j]? = some t2) (hij : i ≠ j) :
    ∃ u1 u2, xs[i]? = some u1 ∧ xs[j]? = some u2 ∧ TrsAt K B H ((xs.set i u2).set j u1) ((l.set i t2).set j t1) Q := by
  obtain ⟨u1, S1, hu1, tu1, hS1, rep1⟩ := h.at_ h1
  have k1 := rep1 B H .non (.sh .non) _ (Same.refl _) (fun _ _ _ _ e => e) (.sh .non) fun _ z => z.elim
  have h2' : (l.set i (.sh .non))[j]? = some t2 := by rw [List.getElem?_set_ne hij]; exact h2
  obtain ⟨u2, S2, hu2, tu2, hS2, rep2⟩ := k1.at_ h2'
  rw [List.getElem?_set_ne hij] at hu2
  have k2 := rep2 B H u1 t1 S1 (Same.refl _) (fun _ _ _ _ e => e) tu1 fun a z1 z2 => by
    rcases z2 with ⟨_, z⟩ | z
    · exact (z z1).elim
    · exact z.elim
  have hl : i < l.length := (List.getElem?_eq_some_iff.mp h1).1
  have h3 : ((l.set i (.sh .non)).set j t1)[i]? = some (.sh .non) := by
    rw [List.getElem?_set_ne hij.symm, List.getElem?_set_self hl]
  obtain ⟨u3, S3, hu3, tu3, hS3, rep3⟩ := k2.at_ h3
  have e3 : ∀ a, ¬ S3 a := fun a z => by
    cases tu3 with
    | sh r => exact z
  have k3 := rep3 B H u2 t2 S2 (Same.refl _) (fun _ _ _ _ e => e) tu2 fun a z1 z2 => by
    rcases z2 with ⟨_, z⟩ | z
    · exact (z z1).elim
    · rcases hS2 a z1 with ⟨_, z2⟩ | z2
      · exact (z2 z).elim
      · exact z2.elim
  refine ⟨u1, u2, hu1, hu2, ?_⟩
  have ex : ((xs.set i V.non).set j u1).set i u2 = (xs.set i u2).set j u1 := by
    rw [List.set_comm _ _ hij, List.set_set, List.set_comm _ _ hij.symm]
  have el : ((l.set i (.sh .non)).set j t1).set i t2 = (l.set i t2).set j t1 := by
    rw [List.set_comm _ _ hij, List.set_set, List.set_comm _ _ hij.symm]
  rw [ex, el] at k3
  refine k3.congr fun a => ⟨fun z => ?_, fun z => ?_⟩
  · rcases z with ⟨⟨⟨z, _⟩ | z, _⟩ | z, _⟩ | z
    · exact z
    · exact z.elim
    · exact hS1 a z
    · rcases hS2 a z with ⟨z, _⟩ | z
      · exact z
      · exact z.elim
  · by_cases z1 : S1 a
    · exact .inl ⟨.inr z1, e3 a⟩
    · by_cases z2 : S2 a
      · exact .inr z2
      · exact .inl ⟨.inl ⟨.inl ⟨z, z1⟩, z2⟩, e3 a⟩
end
def swX (x : Nat) (f3 f4 f1 f2 : M Op) : M2 := fun β _ T => match vI f3 β with
  | some (.ok n3 β1) => match vI f4 β1 with
    | some (.ok n4 β2) => match vI f1 β2 with
      | some (.ok n1 β3) => match vI f2 β3 with
        | some (.ok n2 β4) => match T with
          | .nd l => match ixN l.length n1, ixN l.length n2 with
            | some j1, some j2 => if ixN l.length n3 = some j2 ∧ ixN l.length n4 = some j1 ∧ j1 ≠ j2 then match l[j1]?, l[j2]? with
              | some t1, some t2 => some (.nx β4 (full2 x β4 (.nd ((l.set j1 t2).set j2 t1))) (.nd ((l.set j1 t2).set j2 t1)))
              | _, _ => none
              else none
            | _, _ => none
          | _ => none
        | _ => none
      | _ => none
    | _ => none
  | _ => none
section
variable {cv : Nat → Value} {X : Cx} {W : WX} {K : PySem.W.Frag} {x : Nat} {t1 t2 t3 t4 : TE} {f1 f2 f3 f4 : M Op}
theorem adm_swX {w : List Nat} (h3 : Adm cv W K t3 f3 (fun _ B _ σ _ v o => OpV K B σ v o)) (h4 : Adm cv W K t4 f4 (fun _ B _ σ _ v o => OpV K B σ v o)) (h1 : Adm cv W K t1 f1 (fun _ B _ σ _ v o => OpV K B σ v o)) (h2 : Adm cv W K t2 f2 (fun _ B _ σ _ v o => OpV K B σ v o)) :
    Adm2 cv W K x (tAsg (tTup (tCons (tOp (rIx K) (tVar x) t3) (tCons (tOp (rIx K) (tVar x) t4) tNil))) (gTup K 2 (gCons (L2.gSub (tVar x) t1 rSetL) (gCons (L2.gSub (tVar x) t2 rSetL) gNil)))) (swX x f3 f4 f1 f2) w := by
  intro F B0 B H σ β ρ T v P D R hs T2 q
  unfold swX at q
  cases e3 : vI f3 β with
  | none =>
    rw [e3] at q
    exact q.elim
  | some r3 =>
  cases r3 with
  | ex _ _ =>
    rw [e3] at q
    exact q.elim
  | ok n3 β1 =>
  rw [e3] at q
  simp only at q
  cases e4 : vI f4 β1 with
  | none =>
    rw [e4] at q
    exact q.elim
  | some r4 =>
  cases r4 with
  | ex _ _ =>
    rw [e4] at q
    exact q.elim
  | ok n4 β2 =>
  rw [e4] at q
  simp only at q
  cases e1 : vI f1 β2 with
  | none =>
    rw [e1] at q
    exact q.elim
  | some r1 =>
  cases r1 with
  | ex _ _ =>
    rw [e1] at q
    exact q.elim
  | ok n1 β3 =>
  rw [e1] at q
  simp only at q
  cases e2 : vI f2 β3 with
  | none =>
    rw [e2] at q
    exact q.elim
  | some r2 =>
  cases r2 with
  | ex _ _ =>
    rw [e2] at q
    exact q.elim
  | ok n2 β4 =>
  rw [e2] at q
  simp only at q
  cases T with
  | sh d => exact q.elim
  | tp l => exact q.elim
  | nd l =>
  simp only at q
  cases i1 : ixN l.length n1 with
  | none =>
    rw [i1] at q
    exact q.elim
  | some j1 =>
  cases i2 : ixN l.length n2 with
  | none =>
    rw [i1, i2] at q
    exact q.elim
  | some j2 =>
  rw [i1, i2] at q
  simp only at q
  by_cases hc : ixN l.length n3 = some j2 ∧ ixN l.length n4 = some j1 ∧ j1 ≠ j2
  case neg =>
    rw [if_neg hc] at q
    exact q.elim
  case pos =>
  rw [if_pos hc] at q
  obtain ⟨i3, i4, hne⟩ := hc
  have l1 : j1 < l.length := (ixN_seq i1).2.1
  have l2 : j2 < l.length := (ixN_seq i2).2.1
  have g1 := List.getElem?_eq_getElem l1
  have g2 := List.getElem?_eq_getElem l2
  rw [g1, g2] at q
  simp only at q
  -- x[b]
  obtain ⟨r, xs, Q0, rfl, hr, ht, nr, hPQ⟩ := T2.t.tr.root
  have Pr : P r := (hPQ r).mpr (.inl rfl)
  have len := ht.length
  obtain ⟨u1, u2, hu1, hu2, _⟩ := ht.swap g1 g2 hne
  have ati : ∀ {n : Int} {j : Nat} {u : V}, ixN l.length n = some j → xs[j]? = some u → atI xs n = some u := fun {n j u} h1 h2 => by
    unfold atI
    rw [len, h1]
    exact h2
  refine ⟨.ref r, hs, adm_vI h3 _ B0 H σ β _ (T2.t.hold R.base) ?_⟩
  unfold wpm
  rw [e3]
  intro v3 B1 H1 Rh1 s1 hv3
  subst hv3
  obtain ⟨R1, T1⟩ := T2.t.later Rh1 s1
  have hr1 := kept Rh1 Pr hr
  refine .inl ⟨r, xs, n3, u2, rfl, rfl, SqL.of hr1, ati i3 hu2, ?_⟩
  -- x[a]
  refine ⟨.ref r, hs, adm_vI h4 _ B1 H1 σ β1 _ (T1.hold R1) ?_⟩
  unfold wpm
  rw [e4]
  intro v4 B2 H2 Rh2 s2 hv4
  subst hv4
  obtain ⟨R2, T3⟩ := T1.later Rh2 s2
  have hr2 := kept Rh2 Pr hr1
  refine .inl ⟨r, xs, n4, u1, rfl, rfl, SqL.of hr2, ati i4 hu1, ?_⟩
  refine ⟨(by decide : 2 ≤ sizeLine), fun p hp => ?_⟩
  have R2' := R2.new (o := .tup [u2, u1]) hp
  have k2' : ∀ a, P a → ∀ o, H2 a = some o → upd H2 p (.tup [u2, u1]) a = some o := fun a _ o e => by
    rw [upd_ne fun z => by rw [z, hp] at e; cases e]
    exact e
  have T3' : TrOk K F B2 (upd H2 p (.tup [u2, u1])) σ β2 (.ref r) (.nd l) P := ⟨TrAt.mono (Same.refl _) _ _ _ (fun a o h e => k2' a h o e) T3.tr, T3.out⟩
  refine ⟨p, [u2, u1], rfl, TpAt.sq (.inl upd_same), rfl, u2, [u1], rfl, ?_⟩
  -- x[a] = ..
  refine ⟨.ref r, hs, adm_vI h1 _ B2 _ σ β2 _ (T3'.hold R2') ?_⟩
  unfold wpm
  rw [e1]
  intro v1 B3 H3 Rh3 s3 hv1
  subst hv1
  obtain ⟨R3, T4⟩ := T3'.later Rh3 s3
  have hr3 := kept Rh3 Pr (k2' r Pr _ hr2)
  refine ⟨r, xs, n1, j1, rfl, rfl, hr3, by rw [len]; exact i1, ?_⟩
  obtain ⟨o1, o2, o3⟩ := T4.out r Pr
  have R3' := R3.poke (ys := xs.set j1 u2) o1 o2 o3 hr3
  have hP3 : ∀ a, P a → F a = none ∧ B3 a = none ∧ ¬ OwnA σ β3 a ∧ ∃ o, upd H3 r (.lst (xs.set j1 u2)) a = some o ∧ PlainO o := fun a ha => by
    obtain ⟨z1, z2, z3, zs, z4⟩ := T4.hP a ha
    refine ⟨z1, z2, z3, ?_⟩
    by_cases z : a = r
    · subst z
      exact ⟨_, upd_same, plain_lst⟩
    · rw [upd_ne z]
      exact ⟨zs, z4⟩
  refine ⟨u1, [], rfl, .ref r, hs, adm_vI h2 _ B3 _ σ β3 _ (R3'.holdP hP3) ?_⟩
  unfold wpm
  rw [e2]
  intro v2 B4 H4 Rh4 s4 hv2
  subst hv2
  have hsF : Same F (addP P F (upd H3 r (.lst (xs.set j1 u2)))) := fun a o e => by
    rw [addP_n fun z => by rw [(hP3 a z).1] at e; cases e]
    exact e
  have R4 := Rh4.lessF hsF
  have hr4 := kept Rh4 Pr upd_same
  refine ⟨r, _, n2, j2, rfl, rfl, hr4, by rw [List.length_set, len]; exact i2, rfl, ?_⟩
  have out4 : ∀ a, P a → F a = none ∧ B4 a = none ∧ ¬ OwnA σ β4 a := fun a ha => by
    obtain ⟨z1, _, _, zs, z4, _⟩ := hP3 a ha
    have eF := (addP_y (B := F) ha).trans z4
    refine ⟨z1, Rh4.dis _ _ eF, fun ⟨i, o⟩ => ?_⟩
    obtain ⟨_, _, _, _, z, _⟩ := o.at Rh4
    rw [eF] at z
    cases z
  obtain ⟨p1, p2, p3⟩ := out4 r Pr
  have R5 := R4.poke (ys := (xs.set j1 u2).set j2 u1) p1 p2 p3 hr4
  have kk : ∀ a o, Q0 a → H a = some o → upd H4 r (.lst ((xs.set j1 u2).set j2 u1)) a = some o := fun a o hq e => by
    have Pa := (hPQ a).mpr (.inr hq)
    have nar : a ≠ r := fun z => nr (z ▸ hq)
    rw [upd_ne nar]
    refine kept Rh4 Pa ((upd_ne nar).trans ?_)
    exact kept Rh3 Pa (k2' a Pa _ (kept Rh2 Pa (kept Rh1 Pa e)))
  have sAll : Same B0 B4 := ((s1.trans s2).trans s3).trans s4
  obtain ⟨w1, w2, hw1, hw2, tsw⟩ := (TrsAt.mono sAll _ _ _ kk ht).swap g1 g2 hne
  rw [hu1] at hw1
  rw [hu2] at hw2
  cases hw1
  cases hw2
  have T5 : TrOk K F B4 (upd H4 r (.lst ((xs.set j1 u2).set j2 u1))) σ β4 (.ref r) (.nd ((l.set j1 l[j2]).set j2 l[j1])) P := ⟨(TrAt.nd upd_same tsw nr).congr fun a => (hPQ a).symm, out4⟩
  obtain ⟨B6, R6, T6⟩ := mk2 (x := x) R5 T5 hs
  exact q σ B4 B6 _ _ P R6 sAll Agr.refl hs T6
end
end Sim

namespace Sim
open PySem PySem.Spec PyProof.Rows L2
/-! ### expressions that tell a tree -/
def vOt (f : M SV) : M OT := bnd f fun sv ρ => (otOf sv).map fun T => .ok T ρ
structure TrsOk (K : PySem.W.Frag) (F B H : Hp) (σ : L2.St) (ρ : Sl) (vs : List V) (ls : List OT) (P : Addr → Prop) : Prop where
  tr : TrsAt K B H vs ls P
  out : ∀ a, P a → F a = none ∧ B a = none ∧ ¬ OwnA σ ρ a
section
variable {cv : Nat → Value} {X : Cx} {W : WX} {K : PySem.W.Frag} {e : Expr} {es : List Expr} {te : TE} {ts : TA} {f : M SV} {ft : M OT} {g : M (List OT)} {pos p : Pos}
theorem snt_e (h : SndE cv X W e te f) : SndTr cv X W e te (vOt f) := by
  refine ⟨h.pe, fun F B H σ ρ Q R q => ?_⟩
  refine h.ad F B H σ ρ _ R (wpm_mono (wpm_bnd q) (fun sv ρ1 q v B1 H1 R1 sm1 rv => ?_) fun _ _ q => q)
  obtain ⟨T, e1, q⟩ := wpm_map (g := fun _ => otOf sv) q
  obtain ⟨P, T1⟩ := rv.tr e1
  exact q B1 H1 v P R1 sm1 T1
theorem TrsOk.lst {F B H : Hp} {σ : L2.St} {ρ : Sl} {vs : List V} {ls : List OT} {P : Addr → Prop} (R : Rel K F B H σ ρ) (N : TrsOk K F B H σ ρ vs ls P) {p : Addr} (hp : H p = none) : Rel K F B (upd H p (.lst vs)) σ ρ ∧ TrOk K F B (upd H p (.lst vs)) σ ρ (.ref p) (.nd ls) (fun a => a = p ∨ P a) := by
  have nP : ¬ P p := fun z => by
    obtain ⟨xs, e, _⟩ := TrsAt.lst _ _ _ N.tr p z
    rw [hp] at e
    cases e
  refine ⟨R.new hp, .nd upd_same (TrsAt.mono (Same.refl _) _ _ _ (fun a o ha e => ?_) N.tr) nP, fun a ha => ?_⟩
  · rw [upd_ne (fun z : a = p => nP (z ▸ ha))]
    exact e
  · rcases ha with rfl | ha
    · exact ⟨R.exF.free hp, R.exB.free hp, fun ⟨i, o⟩ => R.noOwn hp i o⟩
    · exact N.out a ha
end
/-! #### comprehensions -/
/-- what a comprehension has made so far is held aside -/
structure HeldT (K : PySem.W.Frag) (F F' B : Hp) (Da : Addr) (xs : List V) (ls : List OT) (P : Addr → Prop) : Prop where
  same : Same F F'
  hp : F' Da = some (.lst xs)
  tr : TrsAt K B F' xs ls P
  n : ¬ P Da
  out : ∀ a, a = Da ∨ P a → F a = none
open Classical in
noncomputable def lcT (vs : List Nat) (pk : List (Nat × List D)) (g : SV → Sl → Option Sl) (c : M Bool) (elt : M OT) : List D → List OT → Sl → Option (List OT × Sl)
  | [], acc, ρ => if pkOk pk (wipeS ρ vs) then some (acc, ρ) else none
  | d :: ds, acc, ρ => if pkOk pk (wipeS ρ vs) ∧ acc.length < 1000000 then
      match g (.sh d) (wipeS ρ vs) with
      | none => none
      | some ρ1 => match c ρ1 with
        | some (.ok true ρ2) => match elt ρ2 with
          | some (.ok t ρ3) => lcT vs pk g c elt ds (acc ++ [t]) ρ3
          | _ => none
        | some (.ok false ρ2) => lcT vs pk g c elt ds acc ρ2
        | _ => none
    else none
open Classical in
noncomputable def vLcT (vs : List Nat) (it : M Itb) (g : SV → Sl → Option Sl) (c : M Bool) (elt : M OT) : M OT := bnd it fun ib ρ =>
  if noFr ρ vs ∧ (∀ q ∈ ib.pk, q.1 ∉ vs) ∧ pkOk ib.pk ρ then (lcT vs ib.pk g c elt ib.ds [] ρ).map fun r => .ok (.nd r.1) (restS ρ r.2 vs) else none
theorem upd_eta {F : Hp} {a : Addr} {o : HO} (h : F a = some o) : upd F a o = F := by
  funext b
  by_cases z : b = a
  · subst z
    rw [upd_same, h]
  · rw [upd_ne z]
section
variable {cv : Nat → Value} {X : Cx} {W : WX} {elt iter tg : Expr} {te : TE} {tt : TT} {f : M OT} {c : M Bool} {pos : Pos}
theorem adm_lcT {wi : TI} {tgt : TG} {it : M Itb} {g : SV → Sl → Option Sl} {w : List Nat} {vs : List Nat} (hi : AdmI cv W X.K wi it) (hg : AdmG X.K tgt g w) (hw : ∀ j, j ∈ w → j ∈ vs) (hc : Adm cv (fun _ _ _ _ => False) X.K tt c (fun _ _ _ _ _ b b' => b = b'))
    (he : AdmT cv (fun _ _ _ _ => False) X.K te f) : AdmT cv W X.K (tLc wi tgt tt te vs) (vLcT vs it g c f) := by
  intro F B H σ ρ Q R q
  refine hi F B H σ ρ _ R (wpm_mono (wpm_bnd q) (fun ib ρ1 q J B1 H1 R1 sm1 ok => ?_) fun _ _ q => q)
  unfold wpm at q
  by_cases hcd : noFr ρ1 vs ∧ (∀ q ∈ ib.pk, q.1 ∉ vs) ∧ pkOk ib.pk ρ1
  · simp only [if_pos hcd] at q
    obtain ⟨nf, npk, pk1⟩ := hcd
    cases eL : lcT vs ib.pk g c f ib.ds [] ρ1 with
    | none =>
      simp only [eL, Option.map_none] at q
    | some res =>
      simp only [eL, Option.map_some] at q
      intro Da hD
      have hFD : F Da = none := R1.exF.free hD
      have h0 : HeldT X.K F (upd F Da (.lst [])) B1 Da [] [] (fun _ => False) := ⟨fun a o e => by
        rw [upd_ne fun z => by rw [z, hFD] at e; cases e]
        exact e, upd_same, .nil, fun z => z, fun a ha => by
          rcases ha with rfl | z
          · exact hFD
          · exact z.elim⟩
      refine ⟨fun i k H2 => k = ib.ds.length - i ∧ i ≤ ib.ds.length ∧ ∃ (ρ2 : Sl) (B2 F' : Hp) (as : List V) (acc : List OT) (P : Addr → Prop), Rel X.K F' B2 H2 (L2.wipe σ vs) (wipeS ρ2 vs) ∧ Same B1 B2 ∧ HeldT X.K F F' B2 Da as acc P ∧ lcT vs ib.pk g c f (ib.ds.drop i) acc ρ2 = some res,
        ⟨ib.ds.length, by simp, Nat.zero_le _, ρ1, B1, _, [], [], _, (R1.wipe vs).addF hD, Same.refl _, h0, by simpa using eL⟩, ?_⟩
      rintro i k H2 ⟨rfl, hle, ρ2, B2, F', as, acc, P, R2, sm2, hT, e2⟩
      by_cases hlt : i < ib.ds.length
      · rw [List.drop_eq_getElem_cons hlt] at e2
        unfold lcT at e2
        by_cases hpk : pkOk ib.pk (wipeS ρ2 vs) ∧ acc.length < 1000000
        · rw [if_pos hpk] at e2
          have ok2 := ok _ B2 H2 _ _ R2 sm2 (fun q hq => ⟨wipe_out (npk q hq), hpk.1 q hq⟩) i
          obtain ⟨go, yl⟩ := ok2.1 _ (List.getElem?_eq_getElem hlt)
          refine .inr ⟨go, fun H' => ∃ (ρ' : Sl) (B' F'' : Hp) (as' : List V) (acc' : List OT) (P' : Addr → Prop), Rel X.K F'' B' H' (L2.wipe σ vs) (wipeS ρ' vs) ∧ Same B1 B' ∧ HeldT X.K F F'' B' Da as' acc' P' ∧ lcT vs ib.pk g c f (ib.ds.drop (i + 1)) acc' ρ' = some res,
            fun H' ⟨ρ', B', F'', as', acc', P', h1, h2, h3, h4⟩ => ⟨_, by omega, rfl, hlt, ρ', B', F'', as', acc', P', h1, h2, h3, h4⟩, fun x H' hy => ?_⟩
          obtain ⟨B3, R3, sm3, rep⟩ := yl x H' hy
          cases e3 : g (.sh ib.ds[i]) (wipeS ρ2 vs) with
          | none =>
            simp only [e3] at e2
            cases e2
          | some ρ3 =>
            simp only [e3] at e2
            refine hg _ B3 H' _ _ x _ ρ3 _ R3 (.sh rep) e3 fun σ3 R4 ag3 l3 => ?_
            have wp : L2.wipe σ3 vs = L2.wipe σ vs := by
              have h1 := wipe_eq (vs := vs) l3 (ag3.mono hw)
              have h2 : L2.wipe (L2.wipe σ vs) vs = L2.wipe σ vs := wipe_eq (wipe_length σ vs) fun j hj => wipe_out hj
              exact h1.trans h2
            refine ⟨wp, ?_⟩
            have back : ∀ {ρ5 : Sl} {F5 B5 H5 : Hp}, Rel X.K F5 B5 H5 σ3 ρ5 → Rel X.K F5 B5 H5 (L2.wipe σ vs) (wipeS ρ5 vs) := fun {ρ5 F5 B5 H5} R5 => by
              have h := R5.wipe vs
              rw [wp] at h
              exact h
            refine hc _ B3 H' σ3 ρ3 _ R4 ?_
            unfold wpm
            cases e4 : c ρ3 with
            | none =>
              simp only [e4] at e2
              cases e2
            | some o =>
              cases o with
              | ex cx ρ4 =>
                simp only [e4] at e2
                cases e2
              | ok b ρ4 =>
                intro b' B4 H4 R5 sm4 eb
                subst eb
                cases b' with
                | false =>
                  simp only [e4] at e2
                  exact ⟨ρ4, B4, F', as, acc, P, back R5, (sm2.trans sm3).trans sm4, ⟨hT.same, hT.hp, TrsAt.mono (sm3.trans sm4) _ _ _ (fun _ _ _ e => e) hT.tr, hT.n, hT.out⟩, e2⟩
                | true =>
                  simp only [e4] at e2
                  refine he _ B4 H4 σ3 ρ4 _ R5 ?_
                  unfold wpm
                  cases e5 : f ρ4 with
                  | none =>
                    simp only [e5] at e2
                    cases e2
                  | some o =>
                    cases o with
                    | ex cx ρ5 =>
                      simp only [e5] at e2
                      cases e2
                    | ok t ρ5 =>
                      simp only [e5] at e2
                      intro B5 H5 y Py R6 sm5 Ty
                      have hD5 : H5 Da = some (.lst as) := R6.exF _ _ hT.hp
                      have sm7 := (sm3.trans sm4).trans sm5
                      have yD : ¬ Py Da := fun z => by
                        have := (Ty.out Da z).1
                        rw [hT.hp] at this
                        cases this
                      have inF : ∀ a, P a → ∃ o, F' a = some o := fun a ha => by
                        obtain ⟨ys, e, _⟩ := TrsAt.lst _ _ _ hT.tr a ha
                        exact ⟨_, e⟩
                      have yP : ∀ a, P a → ¬ Py a := fun a ha z => by
                        obtain ⟨o, e⟩ := inF a ha
                        have := (Ty.out a z).1
                        rw [e] at this
                        cases this
                      have R7 := back (Ty.hold R6)
                      have eD : addP Py F' H5 Da = some (.lst as) := (addP_n yD).trans hT.hp
                      rw [← upd_eta eD] at R7
                      have R8 := R7.grow (ys := as ++ [y])
                      have Fa : ∀ a, Py a → F a = none := fun a ha => by
                        cases g : F a with
                        | none => rfl
                        | some o =>
                          have := (Ty.out a ha).1
                          rw [hT.same _ _ g] at this
                          cases this
                      have m1 : ∀ a o, P a → F' a = some o → upd (addP Py F' H5) Da (.lst (as ++ [y])) a = some o := fun a o ha e => by
                        rw [upd_ne (fun z : a = Da => hT.n (z ▸ ha)), addP_n (yP a ha)]
                        exact e
                      have m2 : ∀ a o, Py a → H5 a = some o → upd (addP Py F' H5) Da (.lst (as ++ [y])) a = some o := fun a o ha e => by
                        rw [upd_ne (fun z : a = Da => yD (z ▸ ha)), addP_y ha]
                        exact e
                      refine ⟨as, hD5, by rw [hT.tr.length]; exact mill_lt hpk.2, ρ5, B5, _, as ++ [y], acc ++ [t], fun a => P a ∨ Py a, R8, sm2.trans sm7, ⟨fun b o e => ?_, upd_same, (TrsAt.mono sm7 _ _ _ m1 hT.tr).append (TrsAt.one (TrAt.mono (Same.refl _) _ _ _ m2 Ty.tr)) yP, fun z => z.elim hT.n yD, fun a ha => ?_⟩, e2⟩
                      · rw [upd_ne fun z => (by rw [z, hFD] at e; cases e), addP_n fun z => (by rw [Fa b z] at e; cases e)]
                        exact hT.same _ _ e
                      · rcases ha with rfl | ha | ha
                        · exact hFD
                        · exact hT.out a (.inr ha)
                        · exact Fa a ha
        · rw [if_neg hpk] at e2
          cases e2
      · have ei : i = ib.ds.length := by omega
        rw [ei, List.drop_length] at e2
        unfold lcT at e2
        by_cases hpk : pkOk ib.pk (wipeS ρ2 vs)
        · rw [if_pos hpk] at e2
          cases e2
          have ok2 := ok _ B2 H2 _ _ R2 sm2 (fun q hq => ⟨wipe_out (npk q hq), hpk q hq⟩) i
          refine .inl ⟨ok2.2 (by omega), ?_⟩
          have key : ∀ {j : Nat} (us : List Nat), j ∉ us → (wipeS ρ2 us)[j]? = ρ2[j]? := fun {j} us => by
            induction us with
            | nil => exact fun _ => rfl
            | cons u us ih =>
              intro hm
              unfold wipeS
              rw [List.getElem?_set_ne fun z => hm (by rw [← z]; exact List.mem_cons_self)]
              exact ih fun z => hm (List.mem_cons_of_mem _ z)
          have ow : ∀ {j a}, Owns σ (restS ρ1 ρ2 vs) j a → Owns (L2.wipe σ vs) (wipeS ρ2 vs) j a := fun {j a} ⟨⟨l, g1⟩, g2⟩ => by
            rcases restS_some g1 with ⟨h1, h2⟩ | ⟨h1, h2⟩
            · exact ⟨⟨l, (key vs h2).trans h1⟩, by rw [wipe_out h2]; exact g2⟩
            · exact (nf j h2 l h1).elim
          have nF : ∀ {b}, F' b = none → F b = none := fun {b} h => by
            cases g : F b with
            | none => rfl
            | some o =>
              rw [hT.same _ _ g] at h
              cases h
          have fin : ∀ b, b = Da ∨ P b → ∃ o, F' b = some o := fun b hb => by
            rcases hb with rfl | hb
            · exact ⟨_, hT.hp⟩
            · obtain ⟨ys, e, _⟩ := TrsAt.lst _ _ _ hT.tr b hb
              exact ⟨_, e⟩
          refine q B2 H2 (.ref Da) (fun a => a = Da ∨ P a) ⟨R2.exB, fun a o e => R2.exF a o (hT.same _ _ e), fun a o e => R2.dis a o (hT.same _ _ e), ?_, fun j sv h => ?_, fun j j' a o1 o2 => R2.sep j j' a (ow o1) (ow o2), R2.tb.both R2.tb.nB R.tb.nF⟩ (sm1.trans sm2) ⟨.nd (R2.exF _ _ hT.hp) (TrsAt.mono (Same.refl _) _ _ _ (fun a o _ e => R2.exF _ _ e) hT.tr) hT.n, fun b hb => ?_⟩
          · rw [restS_length, ← R.len]
            have h1 := R2.len
            rw [wipeS_length, wipe_length] at h1
            rw [h1]
            exact R.len.symm
          · rcases restS_some h with ⟨h1, h2⟩ | ⟨h1, h2⟩
            · have s := R2.slot j sv ((key vs h2).trans h1)
              rw [wipe_out h2] at s
              generalize hgj : σ[j]? = wj at s
              cases s with
              | sh r => exact .sh r
              | fr hF hB hH hO r => exact .fr (nF hF) hB hH hO r
            · have s := R1.slot j sv h1
              generalize hgj : σ[j]? = wj at s
              cases s with
              | sh r => exact .sh (r.mono sm2 _ _)
              | @fr a o xs ds hF hB hH hO r => exact (nf j h2 _ h1).elim
          · obtain ⟨o, e⟩ := fin b hb
            refine ⟨hT.out b hb, R2.dis _ _ e, fun ⟨j, ho⟩ => ?_⟩
            obtain ⟨_, _, _, _, hF, _⟩ := (ow ho).at R2
            rw [e] at hF
            cases hF
        · rw [if_neg hpk] at e2
          cases e2
  · simp only [if_neg hcd] at q
end
end Sim

namespace Sim
open PySem PySem.Spec PyProof.Rows L2
/-! ### the statements -/
structure SndSt (cv : Nat → Value) (X : Cx) (W : WX) (st : Stmt) (y : Nat) (te : TE) (f : M OT) : Prop where
  ps : PS X st (tAsg te (gName y))
  ad : AdmT cv W X.K te f
section
variable {cv : Nat → Value} {X : Cx} {W : WX} {elt iter tg : Expr} {te : TE} {tt : TT} {f : M OT} {c : M Bool} {pos : Pos}
theorem st_set {y : Nat} {yn : Str} {e : Expr} {te : TE} {f : M OT} {pos p : Pos} (hN : X.N.Nodup) (hi : X.N[y]? = some yn) (hL : Loc X.env.scope yn) (h : SndTr cv X W e te f)
    (hs : swapsWith e (some (.Name yn p)) pos.line X.env = pure false := by rfl) (hf : X.fn yn = true ∨ X.env.scope.names.lookup yn = some .local := by first | exact .inl rfl | exact .inr rfl | assumption) : SndSt cv X W (.Assign [.Name yn p] e pos) y te f :=
  ⟨ps_set hN hi hL h.pe hs hf, h.ad⟩
theorem snt_lc2 {pos : Pos} {ifs : List Expr} {scope : Scope} {own : List (Str × Nat)} {wi : TI} {tgt : TG} {it : M Itb} {g : SV → Sl → Option Sl} {w : List Nat} {c : M Bool} {f : M OT} {te : Shared → Hp → Addr → List (Str × Addr) → List Addr → TE} {tt : Shared → Hp → Addr → List (Str × Addr) → List Addr → TT} (hca : X.calm = true) (hN : X.N.Nodup) (hi : SndI cv X W tg iter wi it) (ok : BlkOk X.N X.env.scope scope own)
    (hg : ∀ (s : Shared) (H : Hp) (C : Addr) (cl : List (Str × Addr)) (fp : List Addr), SndG (X.blk s H scope (compEnvC scope cl C X.env) fp) tg tgt g w)
    (ht : ∀ (s : Shared) (H : Hp) (C : Addr) (cl : List (Str × Addr)) (fp : List Addr), PTs (X.blk s H scope (compEnvC scope cl C X.env) fp) ifs (tt s H C cl fp) ∧ Adm cv W0 X.K (tt s H C cl fp) c (fun _ _ _ _ _ b b' => b = b'))
    (he : ∀ (s : Shared) (H : Hp) (C : Addr) (cl : List (Str × Addr)) (fp : List Addr), SndTr cv (X.blk s H scope (compEnvC scope cl C X.env) fp) W0 elt (te s H C cl fp) f)
    (s0 : Shared) (hw : ∀ j, j ∈ w → j ∈ own.map (·.2)) (hte : ∀ (s : Shared) (H : Hp) (C : Addr) (cl : List (Str × Addr)) (fp : List Addr), te s H C cl fp = te s0 X.H_0 0 [] []) (htt : ∀ (s : Shared) (H : Hp) (C : Addr) (cl : List (Str × Addr)) (fp : List Addr), tt s H C cl fp = tt s0 X.H_0 0 [] []) (hs : ∀ x, foldedSetIterable iter X.env x = pure x := by intro _; rfl) : SndTr cv X W (.ListComp elt [⟨tg, iter, ifs, 0⟩] scope pos) (tLc wi tgt (tt s0 X.H_0 0 [] []) (te s0 X.H_0 0 [] []) (own.map (·.2))) (vLcT (own.map (·.2)) it g c f) :=
  ⟨pe_lc hca hN hi.pi ok (fun s H C cl fp => (hg s H C cl fp).pg) (fun s H C cl fp => (htt s H C cl fp ▸ ht s H C cl fp).1) (fun s H C cl fp => (hte s H C cl fp ▸ he s H C cl fp).pe) hs,
    adm_lcT hi.ad (hg s0 X.H_0 0 [] []).ad hw (ht s0 X.H_0 0 [] []).2 (he s0 X.H_0 0 [] []).ad⟩
theorem st_lc2 {i : Nat} {y : Str} {py spos : Pos} {pos : Pos} {ifs : List Expr} {scope : Scope} {own : List (Str × Nat)} {wi : TI} {tgt : TG} {it : M Itb} {g : SV → Sl → Option Sl} {w : List Nat} {c : M Bool} {f : M OT} {te : Shared → Hp → Addr → List (Str × Addr) → List Addr → TE} {tt : Shared → Hp → Addr → List (Str × Addr) → List Addr → TT} (hca : X.calm = true) (hN : X.N.Nodup) (hy : X.N[i]? = some y) (hyl : X.env.scope.names.lookup y = some .local)
    (hsw : swapsWith (.ListComp elt [⟨tg, iter, ifs, 0⟩] scope pos) (some (.Name y py)) spos.line X.env = pure true) (hi : SndI cv X W tg iter wi it) (ok : BlkOk X.N X.env.scope scope own)
    (hg : ∀ (s : Shared) (H : Hp) (C : Addr) (cl : List (Str × Addr)) (fp : List Addr), SndG (X.blk s H scope (compEnvC scope cl C X.env) fp) tg tgt g w)
    (ht : ∀ (s : Shared) (H : Hp) (C : Addr) (cl : List (Str × Addr)) (fp : List Addr), PTs (X.blk s H scope (compEnvC scope cl C X.env) fp) ifs (tt s H C cl fp) ∧ Adm cv W0 X.K (tt s H C cl fp) c (fun _ _ _ _ _ b b' => b = b'))
    (he : ∀ (s : Shared) (H : Hp) (C : Addr) (cl : List (Str × Addr)) (fp : List Addr), SndTr cv (X.blk s H scope (compEnvC scope cl C X.env) fp) W0 elt (te s H C cl fp) f)
    (s0 : Shared) (hw : ∀ j, j ∈ w → j ∈ own.map (·.2)) (hte : ∀ (s : Shared) (H : Hp) (C : Addr) (cl : List (Str × Addr)) (fp : List Addr), te s H C cl fp = te s0 X.H_0 0 [] []) (htt : ∀ (s : Shared) (H : Hp) (C : Addr) (cl : List (Str × Addr)) (fp : List Addr), tt s H C cl fp = tt s0 X.H_0 0 [] []) (hs : ∀ x, foldedSetIterable iter X.env x = pure x := by intro _; rfl) :
    SndSt cv X W (.Assign [.Name y py] (.ListComp elt [⟨tg, iter, ifs, 0⟩] scope pos) spos) i (tLc wi tgt (tt s0 X.H_0 0 [] []) (te s0 X.H_0 0 [] []) (own.map (·.2))) (vLcT (own.map (·.2)) it g c f) :=
  ⟨ps_setLc hca hN hy hyl hsw hi.pi ok (fun s H C cl fp => (hg s H C cl fp).pg) (fun s H C cl fp => (htt s H C cl fp ▸ ht s H C cl fp).1) (fun s H C cl fp => (hte s H C cl fp ▸ he s H C cl fp).pe) hs,
    adm_lcT hi.ad (hg s0 X.H_0 0 [] []).ad hw (ht s0 X.H_0 0 [] []).2 (he s0 X.H_0 0 [] []).ad⟩
end
section
variable {cv : Nat → Value} {X : Cx} {W : WX} {x : Nat} {e k o iter tg : Expr} {es : List Expr} {st : Stmt} {sts as bs : List Stmt} {t tb u : TS} {te ta tk to : TE} {tc : TT} {m n : SM} {m2 k2 : M2} {w w' wb : List Nat} {f : M SV} {fk : M Op} {ft : M OT} {loc : Sl → OT → Option (Option Nat × Sl)} {pos p apos ipos : Pos}
theorem sn2_p (h : SndS cv X W st t m w') (hw : w' = w := by rfl) (hx : x ∉ w := by decide) : Snd2S cv X W x st t (p2 w m) w := ⟨h.ps, adm_p2 (hw ▸ h.ad) hx⟩
theorem sn2_b (h : SndS cv X W st t m w) (hx : x ∉ w := by decide) : Snd2S cv X W x st t (b2 x m) w := ⟨h.ps, adm_b2 h.ad hx⟩
theorem sn2_cons (h1 : Snd2S cv X W x st t m2 w) (h2 : Snd2 cv X W x sts u k2 w') : Snd2 cv X W x (st :: sts) (tSeq t u) (seq2 m2 k2) (w ++ w') := ⟨pss_cons h1.ps h2.ps, adm_seq2 h1.ad h2.ad⟩
theorem sn2_one (h1 : Snd2S cv X W x st t m2 w) : Snd2 cv X W x [st] t m2 w := ⟨pss_one h1.ps, h1.ad⟩
theorem sn2_nil : Snd2 cv X W x [] tNext n2 [] := ⟨pss_nil, adm_n2⟩
theorem sn2_e (h : SndSs cv X W sts t n w) : Snd2 cv X W x sts t (e2 x n) w := ⟨h.ps, adm_e2 h.ad⟩
theorem sn2_ifb {c : Expr} {f' : M Bool} (hc : SndB cv X W c tc f') (ha : Snd2 cv X W x as t m2 w) (hb : Snd2 cv X W x bs u k2 w') : Snd2S cv X W x (.If c as bs pos) (tIfS tc t u) (if2b x f' m2 k2) (w ++ w') := ⟨ps_if hc.pt ha.ps hb.ps, adm_if2b hc.ad ha.ad hb.ad⟩
theorem sn2_forb {wi : TI} {tgt : TG} {g : SV → Sl → Option Sl} {it : M Itb} (hp : PassesOwn (model X.prog X.w) X.A X.env X.xe) (hc : X.calm = true) (hi : SndI cv X W tg iter wi it) (hg : SndG X tg tgt g w) (hb : Snd2 cv X W x sts tb m2 w')
    (hs : ∀ x, foldedSetIterable iter X.env x = pure x := by intro _; rfl) (hx : x ∉ w := by decide) : Snd2S cv X W x (.For tg iter sts [] pos) (tFor wi tgt tb) (for2b x it g m2) (w ++ w') := ⟨ps_for hp hc hi.pi hg.pg hb.ps hs, adm_for2b hi.ad hg.ad hb.ad hx⟩
theorem sn2_forr {wi : TI} {tgt : TG} {g : SV → Sl → Option Sl} {it : M Itb} (hp : PassesOwn (model X.prog X.w) X.A X.env X.xe) (hc : X.calm = true) (hi : SndIF cv X W tg iter wi it) (hg : SndG X tg tgt g w) (hb : Snd2 cv X W x sts tb m2 w')
    (hs : ∀ x, foldedSetIterable iter X.env x = pure x := by intro _; rfl) (hx : x ∉ w := by decide) : Snd2S cv X W x (.For tg iter sts [] pos) (tFor wi tgt tb) (for2r x it g m2) (w ++ w') := ⟨ps_for hp hc hi.pi hg.pg hb.ps hs, adm_for2r hi.ad hg.ad hb.ad hx⟩
theorem sn2_mu {y : Nat} {yn : Str} {ex : Expr} (hp : PassesOwn (model X.prog X.w) X.A X.env X.xe) (hc : X.calm = true) (hv : PE X ex (tVar x)) (hN : X.N.Nodup) (hi : X.N[y]? = some yn) (hL : Loc X.env.scope yn) (hb : Snd2 cv X W y sts tb m2 wb)
    (hf : X.fn yn = true ∨ X.env.scope.names.lookup yn = some .local := by first | exact .inl rfl | exact .inr rfl | assumption)
    (hs : ∀ v, foldedSetIterable ex X.env v = pure v := by intro _; rfl) (hxy : x ≠ y := by decide) (hx : x ∉ wb := by decide) (hy : y ∉ wb := by decide) :
    Snd2S cv X W x (.For (.Name yn p) ex sts [] pos) (tFor (iList X.K (tVar x)) (gName y) tb) (mu2 x y m2) ([y] ++ wb) :=
  ⟨ps_for hp hc (pi_list hv) (pg_name hN hi hL hf) hb.ps hs, adm_mu2 hb.ad hxy hx hy⟩
theorem sn2_st (hl : SndL cv X W x o to loc) (h : SndE cv X W e te f) (hk : SndO cv X W k tk fk)
    (hs : swapsWithSole [.Subscript o k p] e pos.line X.env = pure false := by rfl) (hw : swappedStores [.Subscript o k p] e X.env = pure none := by rfl)
    (h1 : (assignEach [.Subscript o k p] X.env).map (·.2) = [assign (.Subscript o k p) X.env] := by rfl)
    (ha : ∀ v, assign (.Subscript o k p) X.env v = (do
      let ov ← holding [v] (eval o X.env)
      let iv ← holding [v, ov] (eval k X.env)
      standAt p
      holding [v, ov, iv] (setItem ov iv v)
      release [v, ov, iv] []) := by intro _; rfl) : Snd2S cv X W x (.Assign [.Subscript o k p] e pos) (tAsg te (L2.gSub to tk rSetL)) (stX x (oOf f) loc fk) [] :=
  ⟨ps_asg h.pe (pg_sub hl.pe hk.pe set_list ha) hs hw h1, adm_stX (snd_o h).ad hl.ad hk.ad⟩
theorem sn2_bg (h : SndSt cv X W st x te ft) (h2 : Snd2 cv X W x sts t m2 w) : SndSs cv X W (st :: sts) (tSeq (tAsg te (gName x)) t) (bg2 x ft m2) ([x] ++ w) := ⟨pss_cons h.ps h2.ps, adm_bg2 h.ad h2.ad⟩
theorem sn2_sw {o1 o2 o3 o4 k1 k2 k3 k4 : Expr} {t1 t2 t3 t4 : TE} {f1 f2 f3 f4 : M Op} {kt kt2 : Nat} {p1 p2 p3 p4 pt pt2 : Pos} (hc : X.calm = true) (h1 : PE X o1 (tVar x)) (h2 : PE X o2 (tVar x)) (h3 : PE X o3 (tVar x)) (h4 : PE X o4 (tVar x))
    (g1 : SndO cv X W k1 t1 f1) (g2 : SndO cv X W k2 t2 f2) (g3 : SndO cv X W k3 t3 f3) (g4 : SndO cv X W k4 t4 f4) (i3 : PlainIx k3) (i4 : PlainIx k4)
    (e3 : starEach [.Subscript o3 k3 p3, .Subscript o4 k4 p4] X.env = (false, eval (.Subscript o3 k3 p3) X.env) :: starEach [.Subscript o4 k4 p4] X.env := by rfl) (e4 : starEach [.Subscript o4 k4 p4] X.env = (false, eval (.Subscript o4 k4 p4) X.env) :: starEach [] X.env := by rfl)
    (a1 : ∀ v, assign (.Subscript o1 k1 p1) X.env v = (do
      let ov ← holding [v] (eval o1 X.env)
      let iv ← holding [v, ov] (eval k1 X.env)
      standAt p1
      holding [v, ov, iv] (setItem ov iv v)
      release [v, ov, iv] []) := by intro _; rfl)
    (a2 : ∀ v, assign (.Subscript o2 k2 p2) X.env v = (do
      let ov ← holding [v] (eval o2 X.env)
      let iv ← holding [v, ov] (eval k2 X.env)
      standAt p2
      holding [v, ov, iv] (setItem ov iv v)
      release [v, ov, iv] []) := by intro _; rfl)
    (s1 : (assignEach [.Subscript o1 k1 p1, .Subscript o2 k2 p2] X.env).map (·.2) = assign (.Subscript o1 k1 p1) X.env :: (assignEach [.Subscript o2 k2 p2] X.env).map (·.2) := by rfl) (s2 : (assignEach [.Subscript o2 k2 p2] X.env).map (·.2) = assign (.Subscript o2 k2 p2) X.env :: (assignEach [] X.env).map (·.2) := by rfl)
    (hn : (assignEach [.Subscript o1 k1 p1, .Subscript o2 k2 p2] X.env).length = 2 := by rfl) (hst : (assignEach [.Subscript o1 k1 p1, .Subscript o2 k2 p2] X.env).findIdx? (·.1) = none := by rfl)
    (hs : swapsWithSole [.Tuple [.Subscript o1 k1 p1, .Subscript o2 k2 p2] kt pt] (.Tuple [.Subscript o3 k3 p3, .Subscript o4 k4 p4] kt2 pt2) pos.line X.env = pure false := by rfl)
    (hw : swappedStores [.Tuple [.Subscript o1 k1 p1, .Subscript o2 k2 p2] kt pt] (.Tuple [.Subscript o3 k3 p3, .Subscript o4 k4 p4] kt2 pt2) X.env = pure none := by rfl)
    (hl : (assignEach [.Tuple [.Subscript o1 k1 p1, .Subscript o2 k2 p2] kt pt] X.env).map (·.2) = [assign (.Tuple [.Subscript o1 k1 p1, .Subscript o2 k2 p2] kt pt) X.env] := by rfl) :
    Snd2S cv X W x (.Assign [.Tuple [.Subscript o1 k1 p1, .Subscript o2 k2 p2] kt pt] (.Tuple [.Subscript o3 k3 p3, .Subscript o4 k4 p4] kt2 pt2) pos)
      (tAsg (tTup (tCons (tOp (rIx X.K) (tVar x) t3) (tCons (tOp (rIx X.K) (tVar x) t4) tNil))) (gTup X.K 2 (gCons (L2.gSub (tVar x) t1 rSetL) (gCons (L2.gSub (tVar x) t2 rSetL) gNil)))) (swX x f3 f4 f1 f2) [] :=
  ⟨ps_asg (pe_tup (pa_cons (pe_ix ix_seq h3 g3.pe i3) (pa_cons (pe_ix ix_seq h4 g4.pe i4) pa_nil e4) e3)) (pg_tup hc (pgs_cons (pg_sub h1 g1.pe set_list a1) (pgs_cons (pg_sub h2 g2.pe set_list a2) pgs_nil s2) s1) hn hst) hs hw hl, adm_swX g3.ad g4.ad g1.ad g2.ad⟩
end
/-! ### defs that hand back a tree -/
abbrev MR := Sl → Option (OT × Sl)
section
variable {cv : Nat → Value} {X : Cx} {W : WX} {K : PySem.W.Frag} {t u : TS} {m : SM} {n : MR} {w : List Nat} {st : Stmt} {sts : List Stmt}
end
section
variable {P : Program} {w' : World} {K : PySem.W.Frag} {mg : Str → Option Value} {base : Heap} {cv : Nat → Value}
end
section
variable {cv : Nat → Value} {X : Cx} {W : WX} {e : Expr} {es : List Expr} {ts : TA} {fs : M (List Op)} {pos p : Pos}
end
end Sim

namespace Sim
open PySem PySem.Spec PyProof.Rows L2
/-! ### sorted, of lists of whole numbers -/
/-! ### max of a list of whole numbers -/
end Sim

namespace Sim
open PySem PySem.Spec PySem.Calls PyProof.Rows L2
/-! ### sorted(xs, key = f), where f's calls keep what T tells -/
section
variable {prog : Program} {w : World} {A : Around} {E : Value → Shared → Prop} {s : Shared} {P : PySem.Fin → Shared → Prop} {T : Nat → Shared → Prop} {f : Value} {a kS : Addr} {vs : List Value} {kz : List Int} {e1 : Nat}
end
/-! #### the lambda called by what its maker calls -/
section
variable {X : Cx} {pins : List (Addr × Obj)} {σ : L2.St} {H : Hp} {s : Shared}
end
/-! #### sorted by keys, items in their order where keys are alike -/
/-! #### sorted(xs, key = lambda ..), in its maker -/
section
variable {X : Cx} {pins : List (Addr × Obj)} {σ : L2.St} {H : Hp} {s : Shared}
theorem far (I : Inv X pins σ H s) {b : Addr} (hb : s.heap.objs.size ≤ b) : b ≠ X.env.locals ∧ X.s_0.heap.objs.size ≤ b ∧ (∀ x c, X.env.cells.lookup x = some c → c ≠ b) ∧ (∀ p ∈ X.pn ++ pins, p.1 ≠ b) ∧ b ∉ X.fs ∧ H b = none := by
  refine ⟨Nat.ne_of_gt (Nat.lt_of_lt_of_le I.lt hb), Nat.le_trans I.sz hb, fun x c e => ?_, fun p hp => ?_, I.nofs hb, I.hok.fresh hb⟩
  · obtain ⟨v, o, ho, _⟩ := I.cell x c e
    exact Nat.ne_of_lt (Nat.lt_of_lt_of_le (Heap.lt_size ho) hb)
  · exact Nat.ne_of_lt (Nat.lt_of_lt_of_le (Heap.lt_size (I.pin p hp).1) hb)
end
/-! #### its run -/
section
variable {cv : Nat → Value} {X : Cx} {W : WX} {es : List Expr} {ts : TA} {fs : M (List Op)}
end
end Sim

namespace Sim
open PySem PySem.Spec PyProof.Rows L2
/-! ### a list comprehension whose element may raise: its frame -/
section
variable {M : Model} {A : Around} {E : Value → Shared → Prop} {s : Shared} {Z : Obj → Prop} {base : Heap} {env : Env} {outer l : List Env} {L C e : Addr}
end
section
variable {X : Cx} {W : WX}
end
/-! #### its run -/
section
variable {cv : Nat → Value} {X : Cx} {W : WX} {elt iter tg : Expr} {tt : TT} {f : M SV} {c : M Bool} {pos : Pos}
end
end Sim

namespace Sim
open PySem PySem.Spec PyProof.Rows L2
/-! ### beside a tree: another tree of new lists, that lasts -/
mutual
def otFl : OT → Bool
  | .sh d => isFlat d
  | .nd l => otFls l
  | .tp l => otFls l
def otFls : List OT → Bool
  | [] => true
  | t :: ts => otFl t && otFls ts
end
section
variable {cv : Nat → Value} {X : Cx} {W : WX} {K : PySem.W.Frag} {B B' H : Hp} {x y : Nat} {t : TS} {w w' : List Nat} {st : Stmt} {m : SM}
mutual
theorem TrAt.flat : ∀ (t : OT) (v : V) (P : Addr → Prop), otFl t = true → TrAt K B H v t P → TrAt K B' H v t P
  | .sh d, _, _, h, .sh r => .sh (r.flat h)
  | .nd l, _, _, h, .nd hh t n => .nd hh (TrsAt.flat l _ _ h t) n
  | .tp l, _, _, h, .tp hh t n => .tp hh (TrsAt.flat l _ _ h t) n
theorem TrsAt.flat : ∀ (l : List OT) (vs : List V) (P : Addr → Prop), otFls l = true → TrsAt K B H vs l P → TrsAt K B' H vs l P
  | [], _, _, _, .nil => .nil
  | t :: ts, _, _, h, .cons hh s dj => by
    unfold otFls at h
    rw [Bool.and_eq_true] at h
    exact .cons (TrAt.flat t _ _ h.1 hh) (TrsAt.flat ts _ _ h.2 s) dj
end
theorem sn2_bw (h : SndS cv X W st t m w') (hw : w' = w := by rfl) (hx : x ∉ w := by decide) : Snd2S cv X W x st t (b2 x m) w := ⟨h.ps, adm_b2 (hw ▸ h.ad) hx⟩
end
end Sim

namespace Sim
open PySem PySem.Spec PyProof.Rows L2
/-! ### one sign so many times -/
section
variable {cv : Nat → Value} {X : Cx} {W : WX} {K : PySem.W.Frag} {a b : Expr} {ta tb : TE} {fa fb : M Op} {pos : Pos}
end
end Sim

namespace Sim
open PySem PySem.Spec PyProof.Rows L2
/-! ### where an error is handled: a pair's exchange -/
section
variable {prog : Program} {w : World} {A : Around} {E : Value → Shared → Prop} {s : Shared}
end
section
variable {X : Cx} {pos : Pos}
end
section
variable {cv : Nat → Value} {X : Cx} {W : WX} {a b : Expr} {pos : Pos}
end

/-! ### where an error is handled: a list comprehension -/
section
variable {X : Cx}
end
section
variable {cv : Nat → Value} {X : Cx} {W : WX} {elt iter tg a : Expr} {ts : TA} {fs : M (List Op)} {p pos : Pos}
end
end Sim

namespace Sim
open PySem PySem.Spec PyProof.Rows L2
/-! ### where an error is handled: any, all of a list of truths -/
section
variable {prog : Program} {w : World} {A : Around} {E : Value → Shared → Prop} {s : Shared}
end
section
variable {X : Cx}
end
end Sim


/-! the walk of law_k63_wide, printed by gen.py -/
namespace LawW
open PySem PySem.Spec PyProof.Rows L2 Sim
/-! ### runs -/
noncomputable def lc_trace_1 : M Bool :=
    (ret true)
noncomputable def le_trace_1 : M SV :=
    (vOp2 gIx (oOf (vOp2 gIx (oPk 0) (oPk 1))) (oPk 1))
noncomputable def b_trace : SM :=
    (sRet (vBi gSum (aCons (oOf (vLc [1] (iR1 (aCons (oOf (vBi gLen (aCons (oPk 0) aNil))) aNil)) (gN 1) lc_trace_1 le_trace_1)) aNil)))
noncomputable def phi_trace : List D → Option CR := runB none 2 b_trace
noncomputable def lc_times_table_1 : M Bool :=
    (ret true)
noncomputable def le_times_table_1 : M SV :=
    (vOp2 gIx (oPk 4) (oPk 3))
noncomputable def lc_times_table_2 : M Bool :=
    (ret true)
noncomputable def le_times_table_2 : M SV :=
    (vLc [4] (iLs (oOf (vVar 1))) (gN 4) lc_times_table_1 le_times_table_1)
noncomputable def lc_times_table_3 : M Bool :=
    (ret true)
noncomputable def le_times_table_3 : M SV :=
    (vOp2 gMul (oPk 6) (oPk 7))
noncomputable def lc_times_table_4 : M Bool :=
    (ret true)
noncomputable def le_times_table_4 : M SV :=
    (vBi gSum (aCons (oOf (vLc [6, 7] (iZp (aCons (oOf (vVar 4)) (aCons (oOf (vVar 5)) aNil))) (gT 2 (gsC (gN 6) (gsC (gN 7) gsN))) lc_times_table_3 le_times_table_3)) aNil))
noncomputable def lc_times_table_5 : M Bool :=
    (ret true)
noncomputable def le_times_table_5 : M SV :=
    (vLc [5] (iLs (oOf (vVar 2))) (gN 5) lc_times_table_4 le_times_table_4)
noncomputable def b_times_table : SM :=
    (sSeq (sAsg (vLc [3] (iR1 (aCons (oOf (vBi gLen (aCons (oPk 1) aNil))) aNil)) (gN 3) lc_times_table_2 le_times_table_2) (gN 2))
    (sRet (vLc [4] (iLs (oOf (vVar 0))) (gN 4) lc_times_table_5 le_times_table_5)))
noncomputable def phi_times_table : List D → Option CR := runB none 8 b_times_table
noncomputable def lc_wide_1 : M Bool :=
    (ret true)
noncomputable def le_wide_1 : M SV :=
    (vOp2 gRep (oOf (vLst (aCons (oOf (vC (.int 0))) aNil))) (oPk 2))
noncomputable def lc_wide_2 : M Bool :=
    (ret true)
noncomputable def le_wide_2 : M SV :=
    (vOp2 gAdd (oOf (vOp2 gIx (oOf (vOp2 gIx (oPk 3) (oPk 6))) (oPk 7))) (oOf (vOp2 gMul (oOf (vOp2 gIx (oPk 1) (oOf (vC (.int 0))))) (oOf (vBi gInt (aCons (oOf (vOp2 gEq (oPk 6) (oPk 7))) aNil))))))
noncomputable def lc_wide_3 : M Bool :=
    (ret true)
noncomputable def le_wide_3 : M SV :=
    (vLc [7] (iR1 (aCons (oPk 2) aNil)) (gN 7) lc_wide_2 le_wide_2)
noncomputable def fb_wide_1 : SM :=
    (sSeq (sAsg (vLc [6] (iR1 (aCons (oPk 2) aNil)) (gN 6) lc_wide_3 le_wide_3) (gN 3))
    (sSeq (sAsg (vCall 2 none phi_times_table (aCons (oOf (vVar 0)) (aCons (oOf (vVar 3)) aNil))) (gN 3))
    (sAsg (vOp2 gAdd (oOf (vLst (aCons (oOf (vOp2 gSub (oOf (vC (.int 0))) (oOf (vOp2 gDiv (oOf (vCall 1 none phi_trace (aCons (oPk 3) aNil))) (oPk 4))))) aNil))) (oPk 1)) (gN 1))))
noncomputable def b_wide : SM :=
    (sSeq (sAsg (vLst (aCons (oOf (vC (.int 1))) aNil)) (gN 1))
    (sSeq (sAsg (vBi gLen (aCons (oPk 0) aNil)) (gN 2))
    (sSeq (sAsg (vLc [5] (iLs (oOf (vVar 0))) (gN 5) lc_wide_1 le_wide_1) (gN 3))
    (sSeq (sFor (iR2 (aCons (oOf (vC (.int 1))) (aCons (oOf (vOp2 gAdd (oPk 2) (oOf (vC (.int 1))))) aNil))) (gN 4) fb_wide_1)
    (sRet (vMv 1))))))
noncomputable def phi_wide : List D → Option CR := runB none 8 b_wide
noncomputable def b_law_cell_at : SM :=
    (sSeq (sIf (tst (vOp2 (gCmp fun i j => decide (i < j)) (oPk 1) (oOf (vBi gLen (aCons (oPk 0) aNil)))))
    (sRet (vOp2 gIx (oPk 0) (oPk 1)))
    sNx)
    (sRet (vC (.int 0))))
noncomputable def phi_law_cell_at : List D → Option CR := runB none 2 b_law_cell_at
noncomputable def b_law_number : SM :=
    (sSeq (sAsg (vCall 2 none phi_law_cell_at (aCons (oPk 0) (aCons (oPk 1) aNil))) (gN 2))
    (sSeq (sIf (tst (vOp2 (gCmp fun i j => decide (j ≤ i)) (oPk 2) (oOf (vOp2 gPow (oOf (vC (.int 10))) (oOf (vC (.int 18)))))))
    (sRet (vMv 2))
    sNx)
    (sSeq (sAsg (vOp2 gMod (oOf (vOp2 gMul (oOf (vOp2 gAdd (oPk 2) (oOf (vOp2 gMul (oOf (vC (.int 1442695040888963407))) (oOf (vOp2 gAdd (oOf (vOp2 gAdd (oOf (vOp2 gMul (oPk 1) (oPk 1))) (oPk 1))) (oOf (vC (.int 1))))))))) (oOf (vC (.int 6364136223846793005))))) (oOf (vOp2 gPow (oOf (vC (.int 10))) (oOf (vC (.int 37)))))) (gN 3))
    (sRet (vOp2 gMod (oOf (vOp2 gDiv (oOf (vOp2 gMul (oPk 3) (oPk 3))) (oOf (vOp2 gPow (oOf (vC (.int 10))) (oOf (vC (.int 17))))))) (oOf (vOp2 gPow (oOf (vC (.int 10))) (oOf (vC (.int 40))))))))))
noncomputable def phi_law_number : List D → Option CR := runB none 4 b_law_number
noncomputable def b_law_whole : SM :=
    (sRet (vand (vIs isInt (oPk 0)) (vnot (vIs isBl (oPk 0)))))
noncomputable def phi_law_whole : List D → Option CR := runB none 1 b_law_whole
noncomputable def lc_law_numbers_1 : M Bool :=
    (ret true)
noncomputable def le_law_numbers_1 : M SV :=
    (vCall 1 none phi_law_whole (aCons (oPk 2) aNil))
noncomputable def b_law_numbers : SM :=
    (sRet (vand (vIs isLst (oPk 0)) (vand (vOp2 gEq (oOf (vBi gLen (aCons (oPk 0) aNil))) (oPk 1)) (vBi gAll (aCons (oOf (vLc [2] (iLs (oOf (vVar 0))) (gN 2) lc_law_numbers_1 le_law_numbers_1)) aNil)))))
noncomputable def phi_law_numbers : List D → Option CR := runB none 3 b_law_numbers
noncomputable def fb_law_table_1 : SM :=
    (sSeq (sDrop (vMt 5 gApp (aCons (oOf (vOp2 gMul (oOf (vOp2 gMod (oPk 0) (oPk 2))) (oOf (vOp2 gSub (oOf (vC (.int 1))) (oOf (vOp2 gMul (oOf (vC (.int 2))) (oOf (vOp2 gMod (oOf (vOp2 gDiv (oPk 0) (oPk 2))) (oOf (vC (.int 2))))))))))) aNil)))
    (sAsg (vOp2 gDiv (oPk 0) (oOf (vOp2 gMul (oOf (vC (.int 2))) (oPk 2)))) (gN 0)))
noncomputable def fb_law_table_2 : SM :=
    (sSeq (sAsg (vLst aNil) (gN 5))
    (sSeq (sFor (iR1 (aCons (oPk 1) aNil)) (gN 6) fb_law_table_1)
    (sDrop (vMt 3 gApp (aCons (oOf (vVar 5)) aNil)))))
noncomputable def b_law_table : SM :=
    (sSeq (sAsg (vOp2 gIx (oOf (vLst (aCons (oOf (vOp2 gMod (oPk 0) (oOf (vC (.int 4))))) (aCons (oOf (vOp2 gMod (oPk 0) (oOf (vC (.int 11))))) aNil)))) (oOf (vBi gInt (aCons (oOf (vOp2 gEq (oOf (vOp2 gMod (oOf (vOp2 gDiv (oPk 0) (oOf (vC (.int 44))))) (oOf (vC (.int 4))))) (oOf (vC (.int 0))))) aNil)))) (gN 1))
    (sSeq (sAsg (vOp2 gIx (oOf (vLst (aCons (oOf (vC (.int 3))) (aCons (oOf (vC (.int 10))) (aCons (oOf (vOp2 gPow (oOf (vC (.int 10))) (oOf (vC (.int 9))))) (aCons (oOf (vOp2 gPow (oOf (vC (.int 10))) (oOf (vC (.int 30))))) aNil)))))) (oOf (vOp2 gMod (oOf (vOp2 gDiv (oPk 0) (oOf (vC (.int 176))))) (oOf (vC (.int 4)))))) (gN 2))
    (sSeq (sAsg (vOp2 gDiv (oPk 0) (oOf (vC (.int 704)))) (gN 0))
    (sSeq (sAsg (vLst aNil) (gN 3))
    (sSeq (sFor (iR1 (aCons (oPk 1) aNil)) (gN 4) fb_law_table_2)
    (sRet (vMv 3)))))))
noncomputable def phi_law_table : List D → Option CR := runB none 7 b_law_table
noncomputable def lc_law_determinant_1 : M Bool :=
    (ret true)
noncomputable def le_law_determinant_1 : M OT :=
    (vOt (vBi gListOf (aCons (oPk 10) aNil)))
noncomputable def bs_law_determinant_1 : SM :=
    (sAsg (vC (.int 1)) (gN 2))
noncomputable def bs_law_determinant_2 : SM :=
    (sAsg (vC (.int 1)) (gN 3))
noncomputable def lc_law_determinant_2 : M Bool :=
    (tst (vOp2 gNe (oOf (vOp2 gIx (oOf (vOp2 gIx (oPk 1) (oPk 6))) (oPk 4))) (oOf (vC (.int 0)))))
noncomputable def le_law_determinant_2 : M SV :=
    (vVar 6)
noncomputable def rd_law_determinant_1 : SM :=
    (sAsg (vLc [6] (iR2 (aCons (oPk 4) (aCons (oOf (vBi gLen (aCons (oPk 1) aNil))) aNil))) (gN 6) lc_law_determinant_2 le_law_determinant_2) (gN 5))
noncomputable def bs_law_determinant_3 : SM :=
    (sIf (tst (vOp2 gEq (oPk 5) (oOf (vLst aNil))))
    (sRet (vC (.int 0)))
    sNx)
noncomputable def bs_law_determinant_4 : SM :=
    (sAsg (vOp2 gSub (oOf (vC (.int 0))) (oPk 2)) (gN 2))
noncomputable def rd_law_determinant_2 : SM :=
    (sAsg (vOp2 gMul (oOf (vOp2 gIx (oOf (vOp2 gIx (oPk 1) (oPk 6))) (oPk 7))) (oOf (vOp2 gIx (oOf (vOp2 gIx (oPk 1) (oPk 4))) (oPk 4)))) (gN 8))
noncomputable def rd_law_determinant_3 : SM :=
    (sAsg (vOp2 gMul (oOf (vOp2 gIx (oOf (vOp2 gIx (oPk 1) (oPk 6))) (oPk 4))) (oOf (vOp2 gIx (oOf (vOp2 gIx (oPk 1) (oPk 4))) (oPk 7)))) (gN 9))
noncomputable def fm_law_determinant_1 : M2 :=
    (seq2 (p2 [8] rd_law_determinant_2)
    (seq2 (p2 [9] rd_law_determinant_3)
    (stX 1 (oOf (vOp2 gDiv (oOf (vOp2 gSub (oPk 8) (oPk 9))) (oPk 3))) (lcIx (oPk 6)) (oPk 7))))
noncomputable def fm_law_determinant_2 : M2 :=
    (for2r 1 (iR2 (aCons (oOf (vOp2 gAdd (oPk 4) (oOf (vC (.int 1))))) (aCons (oOf (vBi gLen (aCons (oPk 1) aNil))) aNil))) (gN 7) fm_law_determinant_1)
noncomputable def rd_law_determinant_4 : SM :=
    (sAsg (vOp2 gIx (oOf (vOp2 gIx (oPk 1) (oPk 4))) (oPk 4)) (gN 3))
noncomputable def fm_law_determinant_3 : M2 :=
    (seq2 (p2 [5] rd_law_determinant_1)
    (seq2 (b2 1 bs_law_determinant_3)
    (seq2 (if2b 1 (tst (vOp2 gNe (oOf (vOp2 gIx (oPk 5) (oOf (vC (.int 0))))) (oPk 4)))
    (seq2 (swX 1 (oOf (vOp2 gIx (oPk 5) (oOf (vC (.int 0))))) (oPk 4) (oPk 4) (oOf (vOp2 gIx (oPk 5) (oOf (vC (.int 0))))))
    (b2 1 bs_law_determinant_4))
    n2)
    (seq2 (for2r 1 (iR2 (aCons (oOf (vOp2 gAdd (oPk 4) (oOf (vC (.int 1))))) (aCons (oOf (vBi gLen (aCons (oPk 1) aNil))) aNil))) (gN 6) fm_law_determinant_2)
    (p2 [3] rd_law_determinant_4)))))
noncomputable def t2_law_determinant_1 : M2 :=
    (seq2 (b2 1 bs_law_determinant_1)
    (seq2 (b2 1 bs_law_determinant_2)
    (seq2 (for2r 1 (iR1 (aCons (oOf (vOp2 gSub (oOf (vBi gLen (aCons (oPk 1) aNil))) (oOf (vC (.int 1))))) aNil)) (gN 4) fm_law_determinant_3)
    (e2 1 (sSeq (sIf (tst (vOp2 gEq (oPk 1) (oOf (vLst aNil))))
    (sRet (vC (.int 1)))
    sNx)
    (sRet (vOp2 gMul (oPk 2) (oOf (vOp2 gIx (oOf (vOp2 gIx (oPk 1) (oOf (vOp1 gNeg (oOf (vC (.int 1))))))) (oOf (vOp1 gNeg (oOf (vC (.int 1))))))))))))))
noncomputable def b_law_determinant : SM :=
    (bg2 1 (vLcT [10] (iLs (oOf (vVar 0))) (gN 10) lc_law_determinant_1 le_law_determinant_1) t2_law_determinant_1)
noncomputable def phi_law_determinant : List D → Option CR := runB none 11 b_law_determinant
noncomputable def fb_law_value_1 : SM :=
    (sAsg (vOp2 gAdd (oOf (vOp2 gMul (oPk 2) (oPk 1))) (oPk 3)) (gN 2))
noncomputable def b_law_value : SM :=
    (sSeq (sAsg (vC (.int 0)) (gN 2))
    (sSeq (sFor (iLs (oOf (vRevL (oPk 0)))) (gN 3) fb_law_value_1)
    (sRet (vMv 2))))
noncomputable def phi_law_value : List D → Option CR := runB none 4 b_law_value
noncomputable def lc_law_1 : M Bool :=
    (ret true)
noncomputable def le_law_1 : M OT :=
    (vOt (vBi gListOf (aCons (oPk 9) aNil)))
noncomputable def rd_law_1 : SM :=
    (sAsg (vCall 1 none phi_wide (aCons (oPk 3) aNil)) (gN 4))
noncomputable def rd_law_2 : SM :=
    (sIf (tor (tst (vOp2 gNe (oPk 3) (oPk 1))) (tor (tnot (tst (vCall 2 none phi_law_numbers (aCons (oPk 4) (aCons (oOf (vOp2 gAdd (oPk 2) (oOf (vC (.int 1))))) aNil))))) (tst (vOp2 gNe (oOf (vOp2 gIx (oPk 4) (oPk 2))) (oOf (vC (.int 1)))))))
    (sRet (vC (.bl false)))
    sNx)
noncomputable def lc_law_2 : M Bool :=
    (ret true)
noncomputable def le_law_2 : M SV :=
    (vOp2 gSub (oOf (vOp2 gMul (oPk 5) (oOf (vBi gInt (aCons (oOf (vOp2 gEq (oPk 11) (oPk 12))) aNil))))) (oOf (vOp2 gIx (oOf (vOp2 gIx (oPk 1) (oPk 11))) (oPk 12))))
noncomputable def lc_law_3 : M Bool :=
    (ret true)
noncomputable def le_law_3 : M SV :=
    (vLc [12] (iR1 (aCons (oPk 2) aNil)) (gN 12) lc_law_2 le_law_2)
noncomputable def fb_law_1 : SM :=
    (sSeq (sAsg (vLc [11] (iR1 (aCons (oPk 2) aNil)) (gN 11) lc_law_3 le_law_3) (gN 6))
    (sIf (tst (vOp2 gNe (oOf (vCall 2 none phi_law_value (aCons (oPk 4) (aCons (oPk 5) aNil)))) (oOf (vCall 1 none phi_law_determinant (aCons (oPk 6) aNil)))))
    (sRet (vC (.bl false)))
    sNx))
noncomputable def bs_law_1 : SM :=
    (sFor (iR1 (aCons (oOf (vOp2 gAdd (oPk 2) (oOf (vC (.int 1))))) aNil)) (gN 5) fb_law_1)
noncomputable def bs_law_2 : SM :=
    (sAsg (vBi gListOf (aCons (oPk 4) aNil)) (gN 7))
noncomputable def bs_law_3 : SM :=
    (sDrop (vMt 4 gApp (aCons (oOf (vC (.int 1))) aNil)))
noncomputable def bs_law_4 : SM :=
    (sDrop (vMt 4 gRvs aNil))
noncomputable def lc_law_4 : M Bool :=
    (ret true)
noncomputable def le_law_4 : M SV :=
    (vOp2 gIx (oOf (vOp2 gIx (oPk 1) (oPk 10))) (oPk 10))
noncomputable def bs_law_5 : SM :=
    (sAsg (vBi gSum (aCons (oOf (vLc [10] (iR1 (aCons (oPk 2) aNil)) (gN 10) lc_law_4 le_law_4)) aNil)) (gN 8))
noncomputable def rd_law_3 : SM :=
    (sIf (tor (tnot (tst (vCall 1 none phi_law_whole (aCons (oOf (vCall 1 none phi_trace (aCons (oPk 3) aNil))) aNil)))) (tor (tst (vOp2 gNe (oOf (vCall 1 none phi_trace (aCons (oPk 3) aNil))) (oPk 8))) (tor (tst (vOp2 gNe (oPk 3) (oPk 1))) (tst (vOp2 gNe (oOf (vCall 1 none phi_wide (aCons (oPk 3) aNil))) (oPk 7))))))
    (sRet (vC (.bl false)))
    sNx)
noncomputable def fm_law_1 : M2 :=
    (stX 9 (oOf (vC (.int 0))) lcRt (oPk 10))
noncomputable def mb_law_1 : M2 :=
    (for2b 9 (iR1 (aCons (oPk 2) aNil)) (gN 10) fm_law_1)
noncomputable def t2_law_1 : M2 :=
    (seq2 (p2 [4] rd_law_1)
    (seq2 (p2 [] rd_law_2)
    (seq2 (b2 3 bs_law_1)
    (seq2 (b2 3 bs_law_2)
    (seq2 (b2 3 bs_law_3)
    (seq2 (b2 3 bs_law_4)
    (seq2 (b2 3 bs_law_5)
    (seq2 (p2 [] rd_law_3)
    (seq2 (mu2 3 9 mb_law_1)
    (e2 3 (sRet (vand (vOp2 gEq (oOf (vCall 1 none phi_wide (aCons (oPk 3) aNil))) (oOf (vOp2 gAdd (oOf (vOp2 gRep (oOf (vLst (aCons (oOf (vC (.int 0))) aNil))) (oPk 2))) (oOf (vLst (aCons (oOf (vC (.int 1))) aNil)))))) (vOp2 gEq (oOf (vCall 1 none phi_trace (aCons (oPk 3) aNil))) (oOf (vC (.int 0))))))))))))))))
noncomputable def b_law : SM :=
    (sSeq (sAsg (vCall 1 none phi_law_table (aCons (oOf (vCall 2 none phi_law_number (aCons (oPk 0) (aCons (oOf (vC (.int 0))) aNil)))) aNil)) (gN 1))
    (sSeq (sAsg (vBi gLen (aCons (oPk 1) aNil)) (gN 2))
    (bg2 3 (vLcT [9] (iLs (oOf (vVar 1))) (gN 9) lc_law_1 le_law_1) t2_law_1)))
noncomputable def phi_law : List D → Option CR := runB none 13 b_law
end LawW

namespace LawW
open PySem PySem.Spec PyProof.Rows L2 Sim
local macro_rules | `(tactic| simp_arith only [$ts,*]) => `(tactic| simp -implicitDefEqProofs only [e_seq, k_seq1, k_seq2, k_seq3, k_seq4, k_seq5, e_ex, k_ex1, k_ex2, e_bnd, k_bn1, k_bn2, e_ret, e_nx, e_bk, e_ct, e_c, e_var, k_var1, k_var2, e_mv, k_mv1, k_mv2, e_pk, k_pk, e_get1, e_get2, k_sd1, k_sd2, e_gets1, e_gets2, k_gs, e_vals1, e_vals2, e_oOf, e_d1, e_d2, e_an, e_ac, e_op1, e_op2, e_bi, e_l1, k_l1, e_l2, k_l2, e_lA, k_lA, k_ok, e_tst, k_ts1, k_ts2, e_tand, e_tor, e_tnot, e_vand, e_vor, e_vnot, e_vif, e_iteT, e_iteF, e_tup, k_tp, e_lst, k_ls, e_is, e_call, e_callM, k_cl, k_rs, e_if, e_sret, e_sretN, e_drop, e_asg, k_nx, e_gN, e_gT, e_gLs1, e_gLs2, e_gsN, e_gsC, e_par, e_run, k_ru1, k_ru2, k_ru3, e_out1, e_out2, k_os, e_start, e_stl1, e_stl2, e_fro, e_isFr, k_fr1, k_fr2, e_ioOk1, e_ioOk2, k_ioOk, e_noBr, e_ios1, e_ios2, e_brs1, e_brs2, e_brs3, e_brs4, e_brs5, e_dec1, e_dec2, e_dec3, e_put1, k_put, e_put2, e_outOf1, e_outOf2, e_guard, e_setIx, e_stK, k_stI, e_mt, e_mtK, k_app, k_ext, k_rvs, k_pop, e_chain, e_for, e_forL1, k_turn1, k_turn2, k_turn3, k_turn4, k_turn5, e_R1, k_R1, e_R2, k_R2, e_iLs, k_it, e_iTp, k_tI, e_lsV, e_lsS, k_ls1, k_ls2, k_ls3, e_iZp, e_iEn, e_iRv, e_iSg, k_jSg, e_jZp, k_zp, e_jEn, e_jRev, e_sl, e_pNo, e_pIn, k_pn, e_slL, cut_1, isLst_lst, isLst_tup, isLst_int, e_eqI, e_neI, e_eqB, e_neB, gStr_ok, isInt_int, isInt_bl, isInt_str, isInt_non, isInt_tup, isInt_lst, isBl_int, isBl_bl, isBl_tup, isTup_int, isTup_bl, isTup_str, isTup_non, isTup_tup, isTup_lst, e_sub, e_add, e_addL, e_neg, e_cmp, e_ixL, e_ixT, e_ixS, e_abs, e_max, e_max4, e_min, e_intI, e_intB, e_lenL, e_lenT, e_lenS, e_isT1, e_isT2, e_isT3, e_isTL1, e_isTL2, e_resT1, e_resT2, shL, e_mp, e_mpN, e_mpF, k_mf, k_ck, ckL_1, ckS_1, e_revL, e_gRv, e_iR3, e_jR3, k_R3, isN_1, isN_2, e_callF, k_callF, k_cf, e_callG, k_callG, gIs_non, gIs_bl, gIs_int, gIs_str, gIs_tup, gIs_lst, gIs_scr, e_meth, e_mtO, k_isOb, e_mtC, k_okO, e_mk, k_mk, k_mkQ, e_mkE, k_mkE, k_mkR1, k_mkR2, k_fld, e_d3, e_d4, e_d5, k_var3, k_var4, k_var5, k_mv3, k_sd3, k_sd4, k_sd5, e_isOw, k_ow1, k_ow2, e_resOk, e_resL1, e_resL2, e_noBrL, e_isL1, e_isL2, e_isL3, e_isL4, e_isL5, e_isL6, e_isLL1, e_isLL2, k_fr3, k_fr4, k_fr5, e_dnK, e_dnT, e_dputT, e_dputK, e_isDt, e_isDk, k_isDt, k_isDk, e_dtK2, e_dpK, k_dtI, k_dkI, e_keyI, e_keyS, e_inK, e_dxK, e_inT, e_dxT, e_intL2, e_callB, e_clB, k_clB, k_rsB, e_outB1, e_outB2, e_dropO, k_dr, e_runG, k_rg1, k_rg2, k_rg3, List.getElem?_cons_zero, List.getElem?_cons_succ, List.getElem?_nil, List.set_cons_zero, List.set_cons_succ, List.length_cons, List.length_nil, List.map_cons, List.map_nil, List.nil_append, List.cons_append, List.replicate_succ, List.replicate_zero, List.all_nil, List.all_cons, List.contains_nil, List.contains_cons, Option.map_some, Option.map_none, Option.bind_some, Option.bind_none, Bool.and_true, Bool.true_and, Bool.and_false, Bool.false_and, Bool.or_true, Bool.true_or, Bool.or_false, Bool.false_or, Bool.not_true, Bool.not_false, Bool.not_not, Nat.zero_add, Nat.reduceAdd, Nat.reduceSub, Nat.reduceLT, Nat.reduceLeDiff, Nat.reduceEqDiff, reduceIte, if_true, if_false, atI_0, atI_1, atI_2, atI_3, gMul_ok, gMod_pos, gDiv_pos, true_and, and_true, and_self, Nat.reduceBEq, Nat.reduceBNe, beq_self_eq_true, decide_true, decide_false, not_false_iff, not_true, ne_eq, gt_iff_lt, ge_iff_le, Int.reduceEq, Int.reduceNe, Int.reduceLT, Int.reduceLE, Int.cast_ofNat_Int, Int.natCast_one, Int.natCast_zero, reduceCtorEq, Bool.false_eq_true, eq_self, $ts,*])
def Bd (k : Nat) (x : Int) : Prop := x.natAbs < 2 ^ k
def Bd4 (k : Nat) (a b c d : Int) : Prop := Bd k a ∧ Bd k b ∧ Bd k c ∧ Bd k d
def Sm (x : Int) : Prop := -(2 ^ 64) < x ∧ x < 2 ^ 64
theorem pw_le {k m : Nat} (h : k ≤ m) : 2 ^ k ≤ 2 ^ m := Nat.pow_le_pow_right (by decide) h
theorem Bd.mono {k m : Nat} {x : Int} (h : Bd k x) (e : k ≤ m) : Bd m x := Nat.lt_of_lt_of_le h (pw_le e)
theorem Bd.add {k : Nat} {x y : Int} (h : Bd k x) (g : Bd k y) : Bd (k + 1) (x + y) := by
  unfold Bd at *
  rw [Nat.pow_succ]
  omega
theorem Bd.sub {k : Nat} {x y : Int} (h : Bd k x) (g : Bd k y) : Bd (k + 1) (x - y) := by
  unfold Bd at *
  rw [Nat.pow_succ]
  omega
theorem Bd.mul {k m : Nat} {x y : Int} (h : Bd k x) (g : Bd m y) : Bd (k + m) (x * y) := by
  unfold Bd at *
  rw [Int.natAbs_mul, Nat.pow_add]
  exact Nat.mul_lt_mul'' h g
theorem Bd.sm {k : Nat} {x : Int} (h : Bd k x) (hk : k ≤ 64) : Sm x := by
  have e := h.mono hk
  unfold Bd at e
  unfold Sm
  have e2 : (2 : Nat) ^ 64 = 18446744073709551616 := by decide
  have e3 : (2 : Int) ^ 64 = 18446744073709551616 := by decide
  rw [e2] at e
  rw [e3]
  omega
theorem Bd4.mono {k m : Nat} {a b c d : Int} (h : Bd4 k a b c d) (e : k ≤ m) : Bd4 m a b c d := ⟨h.1.mono e, h.2.1.mono e, h.2.2.1.mono e, h.2.2.2.mono e⟩
theorem Bd4.mul {k m : Nat} {a b c d e f g h : Int} (p : Bd4 k a b c d) (q : Bd4 m e f g h) : Bd4 (k + m + 1) (a * e + b * g) (a * f + b * h) (c * e + d * g) (c * f + d * h) :=
  ⟨(p.1.mul q.1).add (p.2.1.mul q.2.2.1), (p.1.mul q.2.1).add (p.2.1.mul q.2.2.2), (p.2.2.1.mul q.1).add (p.2.2.2.mul q.2.2.1), (p.2.2.1.mul q.2.1).add (p.2.2.2.mul q.2.2.2)⟩
abbrev P2 (p q : Int) : D := .tup [.int p, .int q]
theorem blL_true : ∀ n : Nat, blL (List.replicate n (D.bl true)) = some (List.replicate n true)
  | 0 => rfl
  | n + 1 => by
    rw [List.replicate_succ]
    show (blL (List.replicate n (D.bl true))).map (true :: ·) = _
    rw [blL_true n]
    rfl
theorem gAll_true {n : Nat} : gAll [.lst (List.replicate n (.bl true))] = some (.sh (.bl true)) := by
  show (blL (List.replicate n (D.bl true))).map (fun bs => SV.sh (.bl (bs.all id))) = _
  rw [blL_true]
  simp
theorem map_const {l : List D} {d : D} : l.map (fun _ => d) = List.replicate l.length d := by
  induction l with
  | nil => rfl
  | cons a l ih => rw [List.map_cons, ih]; rfl
/-- a comprehension with a test -/
theorem lcL_fm {vs : List Nat} {pk : List (Nat × List D)} {g : SV → Sl → Option Sl} {c : M Bool} {elt : M SV} {p : D → Bool} {f : D → D} (St : Sl → Prop) : ∀ {ds : List D} {acc : List D} {ρ : Sl},
    (∀ d ∈ ds, ∀ ρ, St ρ → ∃ ρ1 ρ2, g (.sh d) (wipeS ρ vs) = some ρ1 ∧ c ρ1 = some (.ok (p d) ρ2) ∧ (p d = false → St ρ2) ∧ (p d = true → ∃ ρ3, elt ρ2 = some (.ok (.sh (f d)) ρ3) ∧ St ρ3)) → (∀ ρ, St ρ → pkOk pk (wipeS ρ vs)) → acc.length + ds.length ≤ 1000000 → St ρ →
    ∃ ρ', lcL vs pk g c elt ds acc ρ = some (acc ++ (ds.filter p).map f, ρ') ∧ St ρ'
  | [], acc, ρ, _, hp, _, h0 => by
    refine ⟨ρ, ?_, h0⟩
    unfold lcL
    rw [if_pos (hp ρ h0), List.filter_nil, List.map_nil, List.append_nil]
  | d :: ds, acc, ρ, h, hp, hl, h0 => by
    rw [List.length_cons] at hl
    obtain ⟨ρ1, ρ2, h1, h2, h3, h4⟩ := h d List.mem_cons_self ρ h0
    cases hpd : p d with
    | false =>
      obtain ⟨ρ', e, k⟩ := lcL_fm St (ds := ds) (acc := acc) (ρ := ρ2) (fun d hd => h d (List.mem_cons_of_mem _ hd)) hp (by omega) (h3 hpd)
      refine ⟨ρ', ?_, k⟩
      unfold lcL
      rw [if_pos ⟨hp ρ h0, by omega⟩, h1]
      show (match c ρ1 with | some (.ok true ρ2) => _ | some (.ok false ρ2) => lcL vs pk g c elt ds acc ρ2 | _ => none) = _
      rw [h2, hpd]
      show lcL vs pk g c elt ds acc ρ2 = _
      rw [e, List.filter_cons, hpd]
      rfl
    | true =>
      obtain ⟨ρ3, h5, h6⟩ := h4 hpd
      obtain ⟨ρ', e, k⟩ := lcL_fm St (ds := ds) (acc := acc ++ [f d]) (ρ := ρ3) (fun d hd => h d (List.mem_cons_of_mem _ hd)) hp (by rw [List.length_append, List.length_cons, List.length_nil]; omega) h6
      refine ⟨ρ', ?_, k⟩
      unfold lcL
      rw [if_pos ⟨hp ρ h0, by omega⟩, h1]
      show (match c ρ1 with | some (.ok true ρ2) => (match elt ρ2 with | some (.ok sv ρ3) => lcL vs pk g c elt ds (acc ++ [sv.d]) ρ3 | _ => none) | some (.ok false ρ2) => lcL vs pk g c elt ds acc ρ2 | _ => none) = _
      rw [h2, hpd]
      show (match elt ρ2 with | some (.ok sv ρ3) => lcL vs pk g c elt ds (acc ++ [sv.d]) ρ3 | _ => none) = _
      rw [h5]
      show lcL vs pk g c elt ds (acc ++ [f d]) ρ3 = _
      rw [e, List.filter_cons, hpd, List.append_assoc]
      rfl
theorem vLc_fm {vs : List Nat} {it : M Itb} {ib : Itb} {g : SV → Sl → Option Sl} {c : M Bool} {elt : M SV} {p : D → Bool} {f : D → D} (St : Sl → Prop) {ρ ρ0 : Sl} (hi : it ρ0 = some (.ok ib ρ)) (hn : noFr ρ vs) (hq : ∀ q ∈ ib.pk, q.1 ∉ vs) (hk : pkOk ib.pk ρ)
    (h : ∀ d ∈ ib.ds, ∀ ρ, St ρ → ∃ ρ1 ρ2, g (.sh d) (wipeS ρ vs) = some ρ1 ∧ c ρ1 = some (.ok (p d) ρ2) ∧ (p d = false → St ρ2) ∧ (p d = true → ∃ ρ3, elt ρ2 = some (.ok (.sh (f d)) ρ3) ∧ St ρ3)) (hp : ∀ ρ, St ρ → pkOk ib.pk (wipeS ρ vs)) (hl : ib.ds.length ≤ 1000000) (h0 : St ρ) :
    ∃ ρ', vLc vs it g c elt ρ0 = some (.ok (.fr ((ib.ds.filter p).map f)) (restS ρ ρ' vs)) ∧ St ρ' := by
  obtain ⟨ρ', e, h1⟩ := lcL_fm St (ds := ib.ds) (acc := []) (ρ := ρ) h hp (by rw [List.length_nil]; omega) h0
  refine ⟨ρ', ?_, h1⟩
  unfold vLc
  rw [bnd_ok hi]
  rw [if_pos ⟨hn, hq, hk⟩, e]
  rfl
theorem rng_small {n : Int} (h0 : -1000 ≤ n) (h : n ≤ 1000000) : RngOk n := by
  unfold RngOk
  have e2 : (2 : Int) ^ 62 = 4611686018427387904 := by decide
  rw [e2]
  omega
theorem forR_from {g : SV → Sl → Option Sl} {body : SM} (Inv : Nat → Sl → Prop) {lo : Int} : ∀ (m j : Nat) (ρ : Sl), Inv j ρ → (∀ i, j ≤ i → i < j + m → ∀ ρ, Inv i ρ → ∃ ρ1 ρ2, g (.sh (.int (lo + (i : Int)))) ρ = some ρ1 ∧ body ρ1 = some (.nx ρ2) ∧ Inv (i + 1) ρ2) →
    ∃ ρ', forL g body ((List.range' j m).map fun k => D.int (lo + (k : Nat))) ρ = some (.nx ρ') ∧ Inv (j + m) ρ'
  | 0, j, ρ, h0, _ => ⟨ρ, rfl, h0⟩
  | m + 1, j, ρ, h0, h => by
    obtain ⟨ρ1, ρ2, h1, h2, h3⟩ := h j (Nat.le_refl j) (by omega) ρ h0
    obtain ⟨ρ', e, k⟩ := forR_from Inv m (j + 1) ρ2 h3 (fun i hi hi2 => h i (by omega) (by omega))
    refine ⟨ρ', ?_, by rw [show j + (m + 1) = j + 1 + m by omega]; exact k⟩
    rw [List.range'_succ, List.map_cons]
    exact (forL_cons h1 h2).trans e
/-- a loop over a range, with an invariant that knows the turn -/
theorem forR {g : SV → Sl → Option Sl} {body : SM} (Inv : Nat → Sl → Prop) {lo : Int} {m : Nat} {ρ : Sl} (h0 : Inv 0 ρ) (h : ∀ i, i < m → ∀ ρ, Inv i ρ → ∃ ρ1 ρ2, g (.sh (.int (lo + (i : Int)))) ρ = some ρ1 ∧ body ρ1 = some (.nx ρ2) ∧ Inv (i + 1) ρ2) : ∃ ρ', forL g body (rngD lo m) ρ = some (.nx ρ') ∧ Inv m ρ' := by
  obtain ⟨ρ', e, k⟩ := forR_from Inv (lo := lo) m 0 ρ h0 (fun i _ hi => h i (by omega))
  rw [Nat.zero_add] at k
  refine ⟨ρ', ?_, k⟩
  unfold rngD
  rw [List.range_eq_range']
  exact e
/-! a comprehension whose parts change nothing but its own names -/
theorem wipe_get {ρ : Sl} {j : Nat} : ∀ {vs : List Nat}, j ∉ vs → (wipeS ρ vs)[j]? = ρ[j]?
  | [], _ => rfl
  | v :: vs, h => by
    rw [List.mem_cons, not_or] at h
    unfold wipeS
    rw [List.getElem?_set_ne (fun e => h.1 e.symm)]
    exact wipe_get h.2
theorem rest_get {ρ0 ρ : Sl} {j : Nat} : ∀ {vs : List Nat}, j ∉ vs → (restS ρ0 ρ vs)[j]? = ρ[j]?
  | [], _ => rfl
  | v :: vs, h => by
    rw [List.mem_cons, not_or] at h
    unfold restS
    rw [List.getElem?_set_ne (fun e => h.1 e.symm)]
    exact rest_get h.2
theorem rest_in {ρ0 ρ : Sl} {j : Nat} (hj : j < ρ.length) : ∀ {vs : List Nat}, j ∈ vs → (restS ρ0 ρ vs)[j]? = some (ρ0[j]?.getD none)
  | [], h => nomatch h
  | v :: vs, h => by
    unfold restS
    by_cases e : v = j
    · subst e
      rw [List.getElem?_set_self (by rw [restS_length]; exact hj)]
    · rw [List.getElem?_set_ne e]
      exact rest_in hj ((List.mem_cons.mp h).resolve_left (fun z => e z.symm))
theorem rest_wipe {ρ ρ' : Sl} {vs : List Nat} (hl : ρ'.length = ρ.length) (hw : wipeS ρ' vs = wipeS ρ vs) : restS ρ ρ' vs = ρ := by
  refine List.ext_getElem? fun j => ?_
  by_cases hj : j ∈ vs
  · by_cases h1 : j < ρ.length
    · rw [rest_in (by omega) hj, List.getElem?_eq_getElem h1]
      rfl
    · rw [List.getElem?_eq_none (by rw [restS_length]; omega), List.getElem?_eq_none (by omega)]
  · rw [rest_get hj, ← wipe_get (ρ := ρ') hj, hw, wipe_get hj]
theorem vLc_pure {vs : List Nat} {it : M Itb} {ds : List D} {pk : List (Nat × List D)} {g : SV → Sl → Option Sl} {c : M Bool} {elt : M SV} {p : D → Bool} {f : D → D} {ρ ρ0 : Sl} (hi : it ρ0 = some (.ok ⟨ds, pk⟩ ρ)) (hn : noFr ρ vs) (hq : ∀ q ∈ pk, q.1 ∉ vs) (hk : pkOk pk ρ)
    (h : ∀ d ∈ ds, ∃ ρ1, g (.sh d) (wipeS ρ vs) = some ρ1 ∧ ρ1.length = ρ.length ∧ wipeS ρ1 vs = wipeS ρ vs ∧ c ρ1 = some (.ok (p d) ρ1) ∧ (p d = true → elt ρ1 = some (.ok (.sh (f d)) ρ1))) (hl : ds.length ≤ 1000000) :
    vLc vs it g c elt ρ0 = some (.ok (.fr ((ds.filter p).map f)) ρ) := by
  obtain ⟨ρ', e, h1, h2⟩ := vLc_fm (vs := vs) (it := it) (ib := ⟨ds, pk⟩) (g := g) (c := c) (elt := elt) (p := p) (f := f) (fun ρ' => ρ'.length = ρ.length ∧ wipeS ρ' vs = wipeS ρ vs) (ρ := ρ) (ρ0 := ρ0) hi hn hq hk
    (by
      rintro d hd ρ' ⟨h1, h2⟩
      obtain ⟨ρ1, e1, e2, e3, e4, e5⟩ := h d hd
      rw [h2]
      refine ⟨ρ1, ρ1, e1, e4, fun _ => ⟨e2, e3⟩, fun hp => ⟨ρ1, e5 hp, e2, e3⟩⟩)
    (by
      rintro ρ' ⟨h1, h2⟩ q hq'
      rw [h2, wipe_get (hq q hq')]
      exact hk q hq')
    hl ⟨rfl, rfl⟩
  rw [e, rest_wipe h1 h2]
/-- the same over what is not borrowed -/
theorem vLc_sh {vs : List Nat} {it : M Itb} {ds : List D} {g : SV → Sl → Option Sl} {c : M Bool} {elt : M SV} {p : D → Bool} {f : D → D} {ρ ρ0 : Sl} (hi : it ρ0 = some (.ok ⟨ds, []⟩ ρ)) (hn : noFr ρ vs)
    (h : ∀ d ∈ ds, ∃ ρ1, g (.sh d) (wipeS ρ vs) = some ρ1 ∧ ρ1.length = ρ.length ∧ wipeS ρ1 vs = wipeS ρ vs ∧ c ρ1 = some (.ok (p d) ρ1) ∧ (p d = true → elt ρ1 = some (.ok (.sh (f d)) ρ1))) (hl : ds.length ≤ 1000000) :
    vLc vs it g c elt ρ0 = some (.ok (.fr ((ds.filter p).map f)) ρ) := vLc_pure hi hn (fun _ h => nomatch h) (fun _ h => nomatch h) h hl
theorem filter_true' {α : Type} (l : List α) : l.filter (fun _ => true) = l := List.filter_eq_self.mpr fun _ _ => rfl
theorem noFr_of {ρ : Sl} {vs : List Nat} (h : ∀ v ∈ vs, ρ[v]? = some none) : noFr ρ vs := fun v hv c e => by
  rw [h v hv] at e
  cases e
theorem noFr1 {ρ : Sl} {v : Nat} (h : ρ[v]? = some none) : noFr ρ [v] := noFr_of fun w hw => by
  rw [List.mem_singleton] at hw
  subst hw
  exact h
theorem noFr2 {ρ : Sl} {v w : Nat} (h : ρ[v]? = some none) (h2 : ρ[w]? = some none) : noFr ρ [v, w] := noFr_of fun z hz => by
  rcases List.mem_cons.mp hz with rfl | hz
  · exact h
  · rw [List.mem_singleton] at hz
    subst hz
    exact h2
/-! the number of a cell -/
theorem pw {x : Int} {n : Nat} (h : PowOk 10 (n : Int)) (e : (10 : Int) ^ n = x) : gPow (.int 10) (.int (n : Int)) = some (.sh (.int x)) := by
  show (if PowOk 10 (n : Int) then some (SV.sh (.int ((10 : Int) ^ ((n : Nat) : Int).toNat))) else none) = _
  rw [if_pos h, Int.toNat_natCast, e]
theorem pow18 : gPow (.int 10) (.int 18) = some (.sh (.int 1000000000000000000)) := pw (n := 18) (by decide) (by decide)
theorem pow37 : gPow (.int 10) (.int 37) = some (.sh (.int 10000000000000000000000000000000000000)) := pw (n := 37) (by decide) (by decide)
theorem pow17 : gPow (.int 10) (.int 17) = some (.sh (.int 100000000000000000)) := pw (n := 17) (by decide) (by decide)
theorem pow40 : gPow (.int 10) (.int 40) = some (.sh (.int 10000000000000000000000000000000000000000)) := pw (n := 40) (by decide) (by decide)
theorem cell_ok {ns : List Int} {k : Nat} : ∃ x, phi_law_cell_at [.scr ns, .int (k : Int)] = some (.ret (.sh (.int x)) []) := by
  by_cases h : k < ns.length
  · refine ⟨ns[k], ?_⟩
    have hx : gIx (.scr ns) (.int (k : Int)) = some (.sh (.int ns[k])) := by
      show (atI ns (k : Int)).map (fun i => SV.sh (.int i)) = _
      rw [atI_nat (List.getElem?_eq_getElem h)]
      rfl
    have c : decide ((k : Int) < (ns.length : Int)) = true := decide_eq_true (by omega)
    unfold phi_law_cell_at b_law_cell_at
    simp_arith only [c, hx]
  · refine ⟨0, ?_⟩
    have c : decide ((k : Int) < (ns.length : Int)) = false := decide_eq_false (by omega)
    unfold phi_law_cell_at b_law_cell_at
    simp_arith only [c]
theorem number_nn {ns : List Int} {k : Nat} (hk : k < 1000) : ∃ x, 0 ≤ x ∧ phi_law_number [.scr ns, .int (k : Int)] = some (.ret (.sh (.int x)) []) := by
  obtain ⟨x, e⟩ := @cell_ok ns k
  by_cases h : (1000000000000000000 : Int) ≤ x
  · refine ⟨x, by omega, ?_⟩
    unfold phi_law_number b_law_number
    simp_arith only [e, pow18, decide_eq_true h]
  · have m1 : Sim.MulOk (k : Int) (k : Int) := mulOk_l (by omega) (by omega)
    have m2 : ∀ i, Sim.MulOk 1442695040888963407 i := fun i => mulOk_l (by decide) (by decide)
    have m3 : ∀ i, Sim.MulOk i 6364136223846793005 := fun i => mulOk_r (by decide) (by decide)
    generalize hy : (x + 1442695040888963407 * ((k : Int) * (k : Int) + (k : Int) + 1)) * 6364136223846793005 % 10000000000000000000000000000000000000 = y
    have y0 : 0 ≤ y := by rw [← hy]; exact Int.emod_nonneg _ (by decide)
    have y1 : y < 10000000000000000000000000000000000000 := by rw [← hy]; exact Int.emod_lt_of_pos _ (by decide)
    have m4 : Sim.MulOk y y := mulOk_big (k := 130) (m := 130) (by omega) (by omega) (by decide) (by decide) (by decide)
    have p1 : (0 : Int) < 10000000000000000000000000000000000000 := by decide
    have p2 : (0 : Int) < 10000000000000000000000000000000000000000 := by decide
    have dv : gDiv (.int (y * y)) (.int 100000000000000000) = some (.sh (.int (y * y / 100000000000000000))) := gDiv_pos (by decide) (log_9000 (k := 70) (by decide) (by decide) (by decide))
    refine ⟨y * y / 100000000000000000 % 10000000000000000000000000000000000000000, Int.emod_nonneg _ (by decide), ?_⟩
    unfold phi_law_number b_law_number
    simp_arith only [e, pow18, pow37, pow17, pow40, decide_eq_false h, m1, m2, m3, p1, p2, hy, m4, dv]
theorem number_ok {ns : List Int} {k : Nat} (hk : k < 1000) : ∃ x, phi_law_number [.scr ns, .int (k : Int)] = some (.ret (.sh (.int x)) []) := by
  obtain ⟨x, _, e⟩ := @number_nn ns k hk
  exact ⟨x, e⟩
theorem bnd_ok {α β : Type} {m : M α} {k : α → M β} {ρ ρ' : Sl} {a : α} (h : m ρ = some (.ok a ρ')) : bnd m k ρ = k a ρ' := by
  unfold bnd
  rw [h]
def vec (w : Nat) (g : Nat → Int) : List Int := (List.range w).map g
abbrev vecD (w : Nat) (g : Nat → Int) : List D := (vec w g).map D.int
theorem vec_len {w : Nat} {g : Nat → Int} : (vec w g).length = w := by unfold vec; rw [List.length_map, List.length_range]
theorem vec_congr {w : Nat} {g h : Nat → Int} (e : ∀ j, j < w → g j = h j) : vec w g = vec w h := by
  unfold vec
  exact List.map_congr_left fun j hj => e j (List.mem_range.mp hj)
theorem lens_vecD {w : Nat} {g : Nat → Int} : (vecD w g).length = w := by rw [List.length_map, vec_len]
theorem vec_get {w i : Nat} {g : Nat → Int} (h : i < w) : (vecD w g)[i]? = some (.int (g i)) := by
  show ((vec w g).map D.int)[i]? = _
  unfold vec
  rw [List.getElem?_map, List.getElem?_map, List.getElem?_range h]
  rfl
theorem ixN_nat {n i : Nat} (h : i < n) : ixN n (i : Int) = some i := by
  unfold ixN
  simp only [Int.toNat_natCast]
  split <;> simp_all <;> omega
theorem vecD_congr {w : Nat} {g h : Nat → Int} (e : ∀ j, j < w → g j = h j) : vecD w g = vecD w h := by
  show (vec _ _).map _ = (vec _ _).map _
  rw [vec_congr e]
theorem vec_zero {w : Nat} (hw : w ≤ 1000) : gRep (.lst [D.int 0]) (.int ((w : Nat) : Int)) = some (.fr (vecD w fun _ => 0)) := by
  rw [e_rep1 (by
    have e2 : (2 : Int) ^ 62 = 4611686018427387904 := by decide
    rw [e2]
    omega)]
  congr 2
  unfold vecD vec
  rw [List.map_map]
  rw [Int.toNat_natCast]
  refine List.ext_getElem? fun i => ?_
  rw [List.getElem?_replicate, List.getElem?_map]
  split
  · rename_i h
    rw [List.getElem?_range h]
    rfl
  · rename_i h
    rw [List.getElem?_eq_none (by rw [List.length_range]; omega)]
    rfl
theorem vec_at {w j : Nat} {g : Nat → Int} (hj : j < w) : gIx (.lst (vecD w g)) (.int (j : Int)) = some (.sh (.int (g j))) := by
  show (atI (vecD w g) (j : Int)).map SV.sh = _
  rw [atI_nat (j := j) (v := .int (g j)) (vec_get hj)]
  rfl
theorem mulOk_l' {i j : Int} (h1 : -18446744073709551616 < i) (h2 : i < 18446744073709551616) : Sim.MulOk i j := .inl ⟨by
  have e3 : (2 : Int) ^ 64 = 18446744073709551616 := by decide
  rw [e3]
  omega, by
  have e3 : (2 : Int) ^ 64 = 18446744073709551616 := by decide
  rw [e3]
  omega⟩
theorem mulOk_r' {i j : Int} (h1 : -18446744073709551616 < j) (h2 : j < 18446744073709551616) : Sim.MulOk i j := .inr (.inl ⟨by
  have e3 : (2 : Int) ^ 64 = 18446744073709551616 := by decide
  rw [e3]
  omega, by
  have e3 : (2 : Int) ^ 64 = 18446744073709551616 := by decide
  rw [e3]
  omega⟩)
theorem sum_map_congr {α : Type} {f g : α → Int} {l : List α} (h : ∀ a ∈ l, f a = g a) : (l.map f).sum = (l.map g).sum := by rw [List.map_congr_left h]
theorem intL_self (m : List Int) : intL (m.map D.int) = some m := by
  induction m with
  | nil => rfl
  | cons a m ih =>
    show (intL (m.map D.int)).map (a :: ·) = _
    rw [ih]
    rfl
theorem lcL_fd {vs : List Nat} {pk : List (Nat × List D)} {g : SV → Sl → Option Sl} {c : M Bool} {elt : M SV} {p : D → Bool} {f : D → D} (St : Sl → Prop) : ∀ {ds : List D} {acc : List D} {ρ : Sl},
    (∀ d ∈ ds, ∀ ρ, St ρ → ∃ ρ1 ρ2, g (.sh d) (wipeS ρ vs) = some ρ1 ∧ c ρ1 = some (.ok (p d) ρ2) ∧ (p d = false → St ρ2) ∧ (p d = true → ∃ sv ρ3, elt ρ2 = some (.ok sv ρ3) ∧ sv.d = f d ∧ St ρ3)) → (∀ ρ, St ρ → pkOk pk (wipeS ρ vs)) → acc.length + ds.length ≤ 1000000 → St ρ →
    ∃ ρ', lcL vs pk g c elt ds acc ρ = some (acc ++ (ds.filter p).map f, ρ') ∧ St ρ'
  | [], acc, ρ, _, hp, _, h0 => by
    refine ⟨ρ, ?_, h0⟩
    unfold lcL
    rw [if_pos (hp ρ h0), List.filter_nil, List.map_nil, List.append_nil]
  | d :: ds, acc, ρ, h, hp, hl, h0 => by
    rw [List.length_cons] at hl
    obtain ⟨ρ1, ρ2, h1, h2, h3, h4⟩ := h d List.mem_cons_self ρ h0
    cases hpd : p d with
    | false =>
      obtain ⟨ρ', e, k⟩ := lcL_fd St (ds := ds) (acc := acc) (ρ := ρ2) (fun d hd => h d (List.mem_cons_of_mem _ hd)) hp (by omega) (h3 hpd)
      refine ⟨ρ', ?_, k⟩
      unfold lcL
      rw [if_pos ⟨hp ρ h0, by omega⟩, h1]
      show (match c ρ1 with | some (.ok true ρ2) => _ | some (.ok false ρ2) => lcL vs pk g c elt ds acc ρ2 | _ => none) = _
      rw [h2, hpd]
      show lcL vs pk g c elt ds acc ρ2 = _
      rw [e, List.filter_cons, hpd]
      rfl
    | true =>
      obtain ⟨sv, ρ3, h5, hd5, h6⟩ := h4 hpd
      obtain ⟨ρ', e, k⟩ := lcL_fd St (ds := ds) (acc := acc ++ [f d]) (ρ := ρ3) (fun d hd => h d (List.mem_cons_of_mem _ hd)) hp (by rw [List.length_append, List.length_cons, List.length_nil]; omega) h6
      refine ⟨ρ', ?_, k⟩
      unfold lcL
      rw [if_pos ⟨hp ρ h0, by omega⟩, h1]
      show (match c ρ1 with | some (.ok true ρ2) => (match elt ρ2 with | some (.ok sv ρ3) => lcL vs pk g c elt ds (acc ++ [sv.d]) ρ3 | _ => none) | some (.ok false ρ2) => lcL vs pk g c elt ds acc ρ2 | _ => none) = _
      rw [h2, hpd]
      show (match elt ρ2 with | some (.ok sv ρ3) => lcL vs pk g c elt ds (acc ++ [sv.d]) ρ3 | _ => none) = _
      rw [h5]
      show lcL vs pk g c elt ds (acc ++ [sv.d]) ρ3 = _
      rw [hd5, e, List.filter_cons, hpd, List.append_assoc]
      rfl
theorem vLc_d {vs : List Nat} {it : M Itb} {ds : List D} {pk : List (Nat × List D)} {g : SV → Sl → Option Sl} {c : M Bool} {elt : M SV} {p : D → Bool} {f : D → D} {ρ ρ0 : Sl} (hi : it ρ0 = some (.ok ⟨ds, pk⟩ ρ)) (hn : noFr ρ vs) (hq : ∀ q ∈ pk, q.1 ∉ vs) (hk : pkOk pk ρ)
    (h : ∀ d ∈ ds, ∃ ρ1, g (.sh d) (wipeS ρ vs) = some ρ1 ∧ ρ1.length = ρ.length ∧ wipeS ρ1 vs = wipeS ρ vs ∧ c ρ1 = some (.ok (p d) ρ1) ∧ (p d = true → ∃ sv, elt ρ1 = some (.ok sv ρ1) ∧ sv.d = f d)) (hl : ds.length ≤ 1000000) :
    vLc vs it g c elt ρ0 = some (.ok (.fr ((ds.filter p).map f)) ρ) := by
  obtain ⟨ρ', e, h1, h2⟩ := lcL_fd (vs := vs) (pk := pk) (ds := ds) (acc := []) (g := g) (c := c) (elt := elt) (p := p) (f := f) (fun ρ' => ρ'.length = ρ.length ∧ wipeS ρ' vs = wipeS ρ vs) (ρ := ρ)
    (by
      rintro d hd ρ' ⟨h1, h2⟩
      obtain ⟨ρ1, e1, e2, e3, e4, e5⟩ := h d hd
      rw [h2]
      refine ⟨ρ1, ρ1, e1, e4, fun _ => ⟨e2, e3⟩, fun hp => ?_⟩
      obtain ⟨sv, e6, e7⟩ := e5 hp
      exact ⟨sv, ρ1, e6, e7, e2, e3⟩)
    (by
      rintro ρ' ⟨h1, h2⟩ q hq'
      rw [h2, wipe_get (hq q hq')]
      exact hk q hq')
    (by rw [List.length_nil]; omega) ⟨rfl, rfl⟩
  unfold vLc
  rw [bnd_ok hi]
  rw [if_pos ⟨hn, hq, hk⟩, e]
  show some (Out.ok (SV.fr ([] ++ _)) (restS ρ ρ' vs)) = _
  rw [rest_wipe h1 h2, List.nil_append]
theorem isTL_ints : ∀ l : List Int, isTL (l.map D.int) = true
  | [] => rfl
  | z :: l => by
    show (isT (.int z) && isTL (l.map D.int)) = true
    rw [isTL_ints l]
    rfl
/-- a list, handed in or owned -/
def OrF (sv : Option SV) (l : List D) : Prop := sv = some (.sh (.lst l)) ∨ sv = some (.fr l)
theorem zip_maps {α : Type} (a b : α → D) : ∀ l : List α, zipD (l.map a) (l.map b) = l.map fun x => .tup [a x, b x]
  | [] => rfl
  | x :: l => by
    show D.tup [a x, b x] :: zipD (l.map a) (l.map b) = _
    rw [zip_maps a b l]
    rfl
theorem okPy_ints (l : List Int) : okPy (.lst (l.map .int)) = true := by
  have h := okPy_all (k := 1) (by decide) (l := l.map .int) (by
    intro d hd
    obtain ⟨x, _, rfl⟩ := List.mem_map.mp hd
    exact ⟨rfl, Nat.zero_le 1⟩)
  refine okPy_of h.1 ?_
  show PyData.depthAll _ + 1 ≤ 64
  omega
/-! tables multiplied, and the wide polynomial's steps -/
def mat (n : Nat) (F : Nat → Nat → Int) : List D := (List.range n).map fun i => .lst (vecD n (F i))
theorem mat_len {n : Nat} {F : Nat → Nat → Int} : (mat n F).length = n := by unfold mat; rw [List.length_map, List.length_range]
theorem mat_at {n i : Nat} {F : Nat → Nat → Int} (hi : i < n) : gIx (.lst (mat n F)) (.int (i : Int)) = some (.sh (.lst (vecD n (F i)))) := by
  show (atI (mat n F) (i : Int)).map SV.sh = _
  rw [atI_nat (j := i) (v := .lst (vecD n (F i))) (by unfold mat; rw [List.getElem?_map, List.getElem?_range hi]; rfl)]
  rfl
theorem sum_ints (l : List Int) : gSum [.lst (l.map D.int)] = some (.sh (.int l.sum)) := by
  show (intL (l.map D.int)).map _ = _
  rw [intL_self]
  rfl
/-- a comprehension whose elements freeze a slot for good -/
theorem vLc_two {v : Nat} {it : M Itb} {ds : List D} {g : SV → Sl → Option Sl} {c : M Bool} {elt : M SV} {f : D → D} {A B ρ0 : Sl} (hi : it ρ0 = some (.ok ⟨ds, []⟩ A)) (hn : noFr A [v]) (hlen : B.length = A.length) (hv : B[v]? = A[v]?)
    (h : ∀ d ∈ ds, ∀ S, (S = A.set v none ∨ S = B.set v none) → ∃ ρ1 ρ2 sv, g (.sh d) S = some ρ1 ∧ c ρ1 = some (.ok true ρ1) ∧ elt ρ1 = some (.ok sv ρ2) ∧ sv.d = f d ∧ ρ2.set v none = B.set v none ∧ ρ2.length = B.length) (hl : ds.length ≤ 1000000) :
    ∃ ρ', vLc [v] it g c elt ρ0 = some (.ok (.fr (ds.map f)) ρ') ∧ (ρ' = A ∨ ρ' = B) := by
  obtain ⟨ρ', e, h1, h2⟩ := lcL_fd (vs := [v]) (pk := []) (ds := ds) (acc := []) (g := g) (c := c) (elt := elt) (p := fun _ => true) (f := f) (fun ρ' => ρ'.length = A.length ∧ (wipeS ρ' [v] = A.set v none ∨ wipeS ρ' [v] = B.set v none)) (ρ := A)
    (by
      rintro d hd ρ' ⟨h1, h2⟩
      obtain ⟨ρ1, ρ2, sv, e1, e2, e3, e4, e5, e6⟩ := h d hd (wipeS ρ' [v]) h2
      exact ⟨ρ1, ρ1, e1, e2, (fun z => nomatch z), (fun _ => ⟨sv, ρ2, e3, e4, (by rw [e6, hlen]), .inr e5⟩)⟩)
    (fun ρ' _ q hq' => nomatch hq')
    (by rw [List.length_nil]; omega) ⟨rfl, .inl rfl⟩
  refine ⟨restS A ρ' [v], ?_, ?_⟩
  · unfold vLc
    rw [bnd_ok hi]
    rw [if_pos ⟨hn, (fun q h => nomatch h), (fun q h => nomatch h)⟩, e]
    show some (Out.ok (SV.fr ([] ++ _)) (restS A ρ' [v])) = _
    rw [List.nil_append, filter_true']
  · rcases h2 with z | z
    · exact .inl (rest_wipe h1 z)
    · refine .inr ?_
      have r := rest_wipe (ρ := B) (ρ' := ρ') (vs := [v]) (by rw [h1, hlen]) z
      rw [← r]
      show ρ'.set v (A[v]?.getD none) = ρ'.set v (B[v]?.getD none)
      rw [hv]
def rowFn (F : Nat → Nat → Int) (n : Nat) : D → D
  | .int i => .lst (vecD n (F i.toNat))
  | _ => .non
theorem rng_mat {n : Nat} {F : Nat → Nat → Int} : ((rngD 0 n).filter fun _ => true).map (rowFn F n) = mat n F := by
  rw [filter_true']
  unfold rngD mat
  rw [List.map_map]
  refine List.map_congr_left fun i _ => ?_
  show D.lst (vecD n (F (0 + (i : Int)).toNat)) = _
  rw [Int.zero_add, Int.toNat_natCast]
def intFn (f : Nat → Int) : D → D
  | .int i => .int (f i.toNat)
  | _ => .non
theorem rng_vec {n : Nat} {f : Nat → Int} : ((rngD 0 n).filter fun _ => true).map (intFn f) = vecD n f := by
  rw [filter_true']
  unfold rngD vecD vec
  rw [List.map_map, List.map_map]
  refine List.map_congr_left fun i _ => ?_
  show D.int (f (0 + (i : Int)).toNat) = _
  rw [Int.zero_add, Int.toNat_natCast]
  rfl
/-- the number at a place of a row -/
def colD (l : Nat) : D → D
  | .lst r => r.getD l .non
  | _ => .non
theorem mat_col {n l : Nat} {F : Nat → Nat → Int} (hl : l < n) : ((mat n F).filter fun _ => true).map (colD l) = vecD n fun i => F i l := by
  rw [filter_true']
  unfold mat vecD vec
  rw [List.map_map, List.map_map]
  refine List.map_congr_left fun i _ => ?_
  show ((((List.range n).map (F i)).map D.int).getD l .non) = _
  rw [List.getD_eq_getElem?_getD, List.getElem?_map, List.getElem?_map, List.getElem?_range hl]
  rfl
theorem cols_x {n : Nat} {F : Nat → Nat → Int} {f0 : Option SV} (hn : n ≤ 1000) : vLc [3] (iR1 (aCons (oOf (vBi gLen (aCons (oPk 1) aNil))) aNil)) (gN 3) lc_times_table_2 le_times_table_2 [f0, some (.sh (.lst (mat n F))), none, none, none, none, none, none] =
    some (.ok (.fr (mat n fun l i => F i l)) [f0, some (.sh (.lst (mat n F))), none, none, none, none, none, none]) := by
  have rg : RngOk ((n : Nat) : Int) := rng_small (by omega) (by omega)
  have ml : ((mat n F).length : Int) = (n : Nat) := by rw [mat_len]
  have lc := vLc_d (vs := [3]) (it := iR1 (aCons (oOf (vBi gLen (aCons (oPk 1) aNil))) aNil)) (ds := rngD 0 n) (pk := []) (g := gN 3) (c := lc_times_table_2) (elt := le_times_table_2) (p := fun _ => true) (f := rowFn (fun l i => F i l) n)
    (ρ := [f0, some (.sh (.lst (mat n F))), none, none, none, none, none, none]) (ρ0 := [f0, some (.sh (.lst (mat n F))), none, none, none, none, none, none]) (by
      generalize mat n F = A at *
      simp_arith only [ml, rg, Int.toNat_natCast]) (noFr1 rfl) (fun q h => nomatch h) (fun q h => nomatch h) (fun d hd => by
      obtain ⟨l, hl, rfl⟩ := List.mem_map.mp hd
      have hl := List.mem_range.mp hl
      refine ⟨[f0, some (.sh (.lst (mat n F))), none, some (.sh (.int (0 + (l : Int)))), none, none, none, none], rfl, rfl, rfl, rfl, fun _ => ⟨.fr (vecD n fun i => F i l), ?_, ?_⟩⟩
      · rw [Int.zero_add]
        have li := vLc_sh (vs := [4]) (it := iLs (oOf (vVar 1))) (ds := mat n F) (g := gN 4) (c := lc_times_table_1) (elt := le_times_table_1) (p := fun _ => true) (f := colD l)
          (ρ := [f0, some (.sh (.lst (mat n F))), none, some (.sh (.int (l : Int))), none, none, none, none]) (ρ0 := [f0, some (.sh (.lst (mat n F))), none, some (.sh (.int (l : Int))), none, none, none, none]) (by
            generalize mat n F = A at *
            simp_arith only []) (noFr1 rfl) (fun d hd => by
            obtain ⟨i, hi, rfl⟩ := List.mem_map.mp hd
            have hi := List.mem_range.mp hi
            refine ⟨[f0, some (.sh (.lst (mat n F))), none, some (.sh (.int (l : Int))), some (.sh (.lst (vecD n (F i)))), none, none, none], rfl, rfl, rfl, rfl, fun _ => ?_⟩
            have v1 := vec_at (g := F i) hl
            have v2 : colD l (.lst (vecD n (F i))) = .int (F i l) := by
              show (vecD n (F i)).getD l .non = _
              rw [List.getD_eq_getElem?_getD, vec_get hl]
              rfl
            rw [v2]
            generalize vecD n (F i) = R at *
            generalize mat n F = A at *
            unfold le_times_table_1
            simp_arith only [v1]) (by rw [mat_len]; omega)
        rw [mat_col hl] at li
        generalize (vecD n fun i => F i l) = R at *
        generalize mat n F = A at *
        unfold le_times_table_2
        exact li
      · show D.lst (vecD n fun i => F i l) = D.lst (vecD n fun i => F i (0 + (l : Int)).toNat)
        rw [Int.zero_add, Int.toNat_natCast]) (by unfold rngD; rw [List.length_map, List.length_range]; omega)
  rw [rng_mat] at lc
  exact lc
def mulP : D → D
  | .tup [.int a, .int b] => .int (a * b)
  | _ => .non
def mulM (n : Nat) (T F : Nat → Nat → Int) (i j : Nat) : Int := ((List.range n).map fun l => T i l * F l j).sum
theorem dotc_x {n : Nat} {a b : Nat → Int} {f0 f1 f2 f3 : Option SV} (hn : n ≤ 1000) (hm : ∀ l, l < n → Sim.MulOk (a l) (b l)) : le_times_table_4 [f0, f1, f2, f3, some (.sh (.lst (vecD n a))), some (.sh (.lst (vecD n b))), none, none] =
    some (.ok (.sh (.int ((List.range n).map fun l => a l * b l).sum)) [f0, f1, f2, f3, some (.sh (.lst (vecD n a))), some (.sh (.lst (vecD n b))), none, none]) := by
  have lc := vLc_sh (vs := [6, 7]) (it := iZp (aCons (oOf (vVar 4)) (aCons (oOf (vVar 5)) aNil))) (ds := (List.range n).map fun j => .tup [.int (a j), .int (b j)]) (g := gT 2 (gsC (gN 6) (gsC (gN 7) gsN))) (c := lc_times_table_3) (elt := le_times_table_3) (p := fun _ => true) (f := mulP)
    (ρ := [f0, f1, f2, f3, some (.sh (.lst (vecD n a))), some (.sh (.lst (vecD n b))), none, none]) (ρ0 := [f0, f1, f2, f3, some (.sh (.lst (vecD n a))), some (.sh (.lst (vecD n b))), none, none]) (by
      have z := zip_maps (fun j => D.int (a j)) (fun j => D.int (b j)) (List.range n)
      rw [← z]
      have e1 : vecD n a = (List.range n).map fun j => D.int (a j) := List.map_map
      have e2 : vecD n b = (List.range n).map fun j => D.int (b j) := List.map_map
      rw [e1, e2]
      simp_arith only []) (noFr2 rfl rfl) (fun d hd => by
      obtain ⟨j, hj, rfl⟩ := List.mem_map.mp hd
      have m := hm j (List.mem_range.mp hj)
      refine ⟨[f0, f1, f2, f3, some (.sh (.lst (vecD n a))), some (.sh (.lst (vecD n b))), some (.sh (.int (a j))), some (.sh (.int (b j)))], rfl, rfl, rfl, rfl, fun _ => ?_⟩
      show _ = some (Out.ok (SV.sh (.int (a j * b j))) _)
      generalize vecD n a = A
      generalize vecD n b = B
      unfold le_times_table_3
      simp_arith only [m]) (by rw [List.length_map, List.length_range]; omega)
  rw [filter_true', List.map_map] at lc
  have er : (List.range n).map (mulP ∘ fun j => .tup [.int (a j), .int (b j)]) = ((List.range n).map fun l => a l * b l).map D.int := by
    rw [List.map_map]
    rfl
  rw [er] at lc
  have su := sum_ints ((List.range n).map fun l => a l * b l)
  generalize ((List.range n).map fun l => a l * b l).map D.int = Y at *
  generalize vecD n a = A at *
  generalize vecD n b = B at *
  unfold le_times_table_4
  simp_arith only [lc, su]
theorem times_x {n : Nat} {T F : Nat → Nat → Int} (hn : n ≤ 1000) (hm : ∀ i l j, i < n → l < n → j < n → Sim.MulOk (T i l) (F l j)) : phi_times_table [.lst (mat n T), .lst (mat n F)] = some (.ret (.fr (mat n (mulM n T F))) []) := by
  have c := cols_x (F := F) (f0 := some (.sh (.lst (mat n T)))) hn
  have row : ∀ i, i < n → ∀ s2, OrF s2 (mat n fun l i => F i l) → le_times_table_5 [some (.sh (.lst (mat n T))), some (.sh (.lst (mat n F))), s2, none, some (.sh (.lst (vecD n (T i)))), none, none, none] =
      some (.ok (.fr (vecD n (mulM n T F i))) [some (.sh (.lst (mat n T))), some (.sh (.lst (mat n F))), some (.sh (.lst (mat n fun l i => F i l))), none, some (.sh (.lst (vecD n (T i)))), none, none, none]) := fun i hi s2 h2 => by
    have lc := vLc_sh (vs := [5]) (it := iLs (oOf (vVar 2))) (ds := mat n fun l i => F i l) (g := gN 5) (c := lc_times_table_4) (elt := le_times_table_4) (p := fun _ => true) (f := fun d => .int ((List.range n).map fun l => T i l * (match colD l d with | .int z => z | _ => 0)).sum)
      (ρ := [some (.sh (.lst (mat n T))), some (.sh (.lst (mat n F))), some (.sh (.lst (mat n fun l i => F i l))), none, some (.sh (.lst (vecD n (T i)))), none, none, none]) (ρ0 := [some (.sh (.lst (mat n T))), some (.sh (.lst (mat n F))), s2, none, some (.sh (.lst (vecD n (T i)))), none, none, none]) (by
        generalize (mat n fun l i => F i l) = C at *
        generalize mat n F = A at *
        generalize mat n T = B at *
        generalize vecD n (T i) = E at *
        rcases h2 with rfl | rfl
        · simp_arith only []
        · simp_arith only []) (noFr1 rfl) (fun d hd => by
        obtain ⟨j, hj, rfl⟩ := List.mem_map.mp hd
        have hj := List.mem_range.mp hj
        refine ⟨[some (.sh (.lst (mat n T))), some (.sh (.lst (mat n F))), some (.sh (.lst (mat n fun l i => F i l))), none, some (.sh (.lst (vecD n (T i)))), some (.sh (.lst (vecD n fun l => F l j))), none, none], rfl, rfl, rfl, rfl, fun _ => ?_⟩
        have q := dotc_x (a := T i) (b := fun l => F l j) (f0 := some (.sh (.lst (mat n T)))) (f1 := some (.sh (.lst (mat n F)))) (f2 := some (.sh (.lst (mat n fun l i => F i l)))) (f3 := none) hn (fun l hl => hm i l j hi hl hj)
        have e : ((List.range n).map fun l => T i l * (match colD l (.lst (vecD n fun l => F l j)) with | .int z => z | _ => 0)).sum = ((List.range n).map fun l => T i l * F l j).sum := sum_map_congr fun l hl => by
          have v2 : colD l (.lst (vecD n fun l => F l j)) = .int (F l j) := by
            show (vecD n fun l => F l j).getD l .non = _
            rw [List.getD_eq_getElem?_getD, vec_get (List.mem_range.mp hl)]
            rfl
          rw [v2]
        rw [e]
        exact q) (by rw [mat_len]; omega)
    have ee : ((mat n fun l i => F i l).filter fun _ => true).map (fun d => D.int ((List.range n).map fun l => T i l * (match colD l d with | .int z => z | _ => 0)).sum) = vecD n (mulM n T F i) := by
      rw [filter_true']
      unfold mat vecD vec
      rw [List.map_map, List.map_map]
      refine List.map_congr_left fun j _ => ?_
      refine congrArg D.int ?_
      refine sum_map_congr fun l hl => ?_
      have v2 : colD l (.lst (vecD n fun l => F l j)) = .int (F l j) := by
        show (vecD n fun l => F l j).getD l .non = _
        rw [List.getD_eq_getElem?_getD, vec_get (List.mem_range.mp hl)]
        rfl
      show T i l * (match colD l (.lst (vecD n fun l => F l j)) with | .int z => z | _ => 0) = _
      rw [v2]
    rw [ee] at lc
    unfold le_times_table_5
    exact lc
  obtain ⟨ρ', e, hρ⟩ := vLc_two (v := 4) (it := iLs (oOf (vVar 0))) (ds := mat n T) (g := gN 4) (c := lc_times_table_5) (elt := le_times_table_5) (f := fun d => .lst (vecD n fun j => ((List.range n).map fun l => (match colD l d with | .int z => z | _ => 0) * F l j).sum))
    (A := [some (.sh (.lst (mat n T))), some (.sh (.lst (mat n F))), some (.fr (mat n fun l i => F i l)), none, none, none, none, none]) (B := [some (.sh (.lst (mat n T))), some (.sh (.lst (mat n F))), some (.sh (.lst (mat n fun l i => F i l))), none, none, none, none, none])
    (ρ0 := [some (.sh (.lst (mat n T))), some (.sh (.lst (mat n F))), some (.fr (mat n fun l i => F i l)), none, none, none, none, none]) (by
      generalize (mat n fun l i => F i l) = C at *
      generalize mat n F = A at *
      generalize mat n T = B at *
      simp_arith only []) (noFr1 rfl) rfl rfl (fun d hd S hS => by
      obtain ⟨i, hi, rfl⟩ := List.mem_map.mp hd
      have hi := List.mem_range.mp hi
      have e : D.lst (vecD n (mulM n T F i)) = D.lst (vecD n fun j => ((List.range n).map fun l => (match colD l (.lst (vecD n (T i))) with | .int z => z | _ => 0) * F l j).sum) := by
        refine congrArg D.lst ?_
        refine vecD_congr fun j _ => sum_map_congr fun l hl => ?_
        have v2 : colD l (.lst (vecD n (T i))) = .int (T i l) := by
          show (vecD n (T i)).getD l .non = _
          rw [List.getD_eq_getElem?_getD, vec_get (List.mem_range.mp hl)]
          rfl
        rw [v2]
      rcases hS with rfl | rfl
      · exact ⟨[some (.sh (.lst (mat n T))), some (.sh (.lst (mat n F))), some (.fr (mat n fun l i => F i l)), none, some (.sh (.lst (vecD n (T i)))), none, none, none], _, _, rfl, rfl, row i hi _ (.inr rfl), e, rfl, rfl⟩
      · exact ⟨[some (.sh (.lst (mat n T))), some (.sh (.lst (mat n F))), some (.sh (.lst (mat n fun l i => F i l))), none, some (.sh (.lst (vecD n (T i)))), none, none, none], _, _, rfl, rfl, row i hi _ (.inl rfl), e, rfl, rfl⟩) (by rw [mat_len]; omega)
  have ee : (mat n T).map (fun d => D.lst (vecD n fun j => ((List.range n).map fun l => (match colD l d with | .int z => z | _ => 0) * F l j).sum)) = mat n (mulM n T F) := by
    unfold mat
    rw [List.map_map]
    refine List.map_congr_left fun i _ => ?_
    refine congrArg D.lst ?_
    refine vecD_congr fun j _ => sum_map_congr fun l hl => ?_
    have v2 : colD l (.lst (vecD n (T i))) = .int (T i l) := by
      show (vecD n (T i)).getD l .non = _
      rw [List.getD_eq_getElem?_getD, vec_get (List.mem_range.mp hl)]
      rfl
    show (match colD l (.lst (vecD n (T i))) with | .int z => z | _ => 0) * F l j = _
    rw [v2]
  rw [ee] at e
  generalize mat n (mulM n T F) = Z at *
  generalize (mat n fun l i => F i l) = C at *
  generalize mat n F = A at *
  generalize mat n T = B at *
  unfold phi_times_table b_times_table
  simp_arith only [c, e]
theorem trace_x {n : Nat} {F : Nat → Nat → Int} (hn : n ≤ 1000) : phi_trace [.lst (mat n F)] = some (.ret (.sh (.int ((List.range n).map fun a => F a a).sum)) []) := by
  have rg : RngOk ((n : Nat) : Int) := rng_small (by omega) (by omega)
  have ml : ((mat n F).length : Int) = (n : Nat) := by rw [mat_len]
  have lc := vLc_sh (vs := [1]) (it := iR1 (aCons (oOf (vBi gLen (aCons (oPk 0) aNil))) aNil)) (ds := rngD 0 n) (g := gN 1) (c := lc_trace_1) (elt := le_trace_1) (p := fun _ => true) (f := intFn fun a => F a a)
    (ρ := [some (.sh (.lst (mat n F))), none]) (ρ0 := [some (.sh (.lst (mat n F))), none]) (by
      generalize mat n F = A at *
      simp_arith only [ml, rg, Int.toNat_natCast]) (noFr1 rfl) (fun x hx => by
      obtain ⟨a, ha, rfl⟩ := List.mem_map.mp hx
      have ha := List.mem_range.mp ha
      refine ⟨[some (.sh (.lst (mat n F))), some (.sh (.int (0 + (a : Int))))], rfl, rfl, rfl, rfl, fun _ => ?_⟩
      show _ = some (Out.ok (SV.sh (.int (F (0 + (a : Int)).toNat (0 + (a : Int)).toNat))) _)
      rw [Int.zero_add, Int.toNat_natCast]
      have i1 := mat_at (F := F) ha
      have i2 := vec_at (g := F a) ha
      generalize vecD n (F a) = R at *
      generalize mat n F = A at *
      unfold le_trace_1
      simp_arith only [i1, i2]) (by unfold rngD; rw [List.length_map, List.length_range]; omega)
  rw [rng_vec] at lc
  have su : gSum [.lst (vecD n fun a => F a a)] = some (.sh (.int ((List.range n).map fun a => F a a).sum)) := sum_ints _
  generalize (vecD n fun a => F a a) = Y at *
  generalize mat n F = A at *
  unfold phi_trace b_trace
  simp_arith only [lc, su]
/-! the wide polynomial and the half: runs, with bounds -/
/-- the numbers found so far, the last one first -/
def fnd (t : Nat) (c : Nat → Int) : List D := vecD (t + 1) fun i => c (t - i)
theorem fnd_cons {t : Nat} {c : Nat → Int} {z : Int} : D.int z :: fnd t c = fnd (t + 1) fun i => if i = t + 1 then z else c i := by
  unfold fnd vecD vec
  rw [List.range_succ_eq_map (n := t + 1), List.map_cons, List.map_cons]
  have e1 : (if t + 1 - 0 = t + 1 then z else c (t + 1 - 0)) = z := if_pos rfl
  show D.int z :: _ = D.int (if t + 1 - 0 = t + 1 then z else c (t + 1 - 0)) :: _
  rw [e1]
  refine congrArg (List.cons (D.int z)) ?_
  rw [List.map_map, List.map_map, List.map_map]
  refine List.map_congr_left fun i hi => ?_
  show D.int (c (t - i)) = D.int (if t + 1 - (i + 1) = t + 1 then z else c (t + 1 - (i + 1)))
  rw [if_neg (by omega), show t + 1 - (i + 1) = t - i by omega]
theorem fnd_len {t : Nat} {c : Nat → Int} : (fnd t c).length = t + 1 := by unfold fnd; rw [lens_vecD]
def pD (F : Nat → Nat → Int) (w : Int) (i j : Nat) : Int := F i j + w * (if i = j then 1 else 0)
theorem plus_x {n t : Nat} {F : Nat → Nat → Int} {c : Nat → Int} {f0 f4 f5 : Option SV} (hn : n ≤ 1000) : vLc [6] (iR1 (aCons (oPk 2) aNil)) (gN 6) lc_wide_3 le_wide_3 [f0, some (.fr (fnd t c)), some (.sh (.int (n : Nat))), some (.fr (mat n F)), f4, f5, none, none] =
    some (.ok (.fr (mat n (pD F (c t)))) [f0, some (.fr (fnd t c)), some (.sh (.int (n : Nat))), some (.fr (mat n F)), f4, f5, none, none]) := by
  have rg : RngOk ((n : Nat) : Int) := rng_small (by omega) (by omega)
  have h0 : gIx (.lst (fnd t c)) (.int 0) = some (.sh (.int (c t))) := vec_at (w := t + 1) (j := 0) (g := fun i => c (t - i)) (by omega)
  have lc := vLc_d (vs := [6]) (it := iR1 (aCons (oPk 2) aNil)) (ds := rngD 0 n) (pk := []) (g := gN 6) (c := lc_wide_3) (elt := le_wide_3) (p := fun _ => true) (f := rowFn (pD F (c t)) n)
    (ρ := [f0, some (.fr (fnd t c)), some (.sh (.int (n : Nat))), some (.fr (mat n F)), f4, f5, none, none]) (ρ0 := [f0, some (.fr (fnd t c)), some (.sh (.int (n : Nat))), some (.fr (mat n F)), f4, f5, none, none]) (by
      generalize mat n F = A at *
      generalize fnd t c = X at *
      simp_arith only [rg, Int.toNat_natCast]) (noFr1 rfl) (fun q h => nomatch h) (fun q h => nomatch h) (fun d hd => by
      obtain ⟨i, hi, rfl⟩ := List.mem_map.mp hd
      have hi := List.mem_range.mp hi
      refine ⟨[f0, some (.fr (fnd t c)), some (.sh (.int (n : Nat))), some (.fr (mat n F)), f4, f5, some (.sh (.int (0 + (i : Int)))), none], rfl, rfl, rfl, rfl, fun _ => ⟨.fr (vecD n (pD F (c t) i)), ?_, ?_⟩⟩
      · rw [Int.zero_add]
        have m1 := mat_at (F := F) hi
        have li := vLc_sh (vs := [7]) (it := iR1 (aCons (oPk 2) aNil)) (ds := rngD 0 n) (g := gN 7) (c := lc_wide_2) (elt := le_wide_2) (p := fun _ => true) (f := intFn (pD F (c t) i))
          (ρ := [f0, some (.fr (fnd t c)), some (.sh (.int (n : Nat))), some (.fr (mat n F)), f4, f5, some (.sh (.int (i : Int))), none]) (ρ0 := [f0, some (.fr (fnd t c)), some (.sh (.int (n : Nat))), some (.fr (mat n F)), f4, f5, some (.sh (.int (i : Int))), none]) (by
            generalize mat n F = A at *
            generalize fnd t c = X at *
            simp_arith only [rg, Int.toNat_natCast]) (noFr1 rfl) (fun x hx => by
            obtain ⟨j, hj, rfl⟩ := List.mem_map.mp hx
            have hj := List.mem_range.mp hj
            refine ⟨[f0, some (.fr (fnd t c)), some (.sh (.int (n : Nat))), some (.fr (mat n F)), f4, f5, some (.sh (.int (i : Int))), some (.sh (.int (0 + (j : Int))))], rfl, rfl, rfl, rfl, fun _ => ?_⟩
            show _ = some (Out.ok (SV.sh (.int (pD F (c t) i (0 + (j : Int)).toNat))) _)
            rw [Int.zero_add, Int.toNat_natCast]
            have m2 := vec_at (g := F i) hj
            unfold pD
            generalize vecD n (F i) = R at *
            generalize mat n F = A at *
            generalize fnd t c = X at *
            unfold le_wide_2
            by_cases e : i = j
            · have mo : Sim.MulOk (c t) 1 := mulOk_r (by decide) (by decide)
              have q1 : decide ((i : Int) = (j : Int)) = true := decide_eq_true (by omega)
              have i1 : gInt [.bl true] = some (.sh (.int 1)) := rfl
              rw [if_pos e]
              simp_arith only [m1, m2, h0, q1, i1, mo]
            · have mo : Sim.MulOk (c t) 0 := mulOk_r (by decide) (by decide)
              have q1 : decide ((i : Int) = (j : Int)) = false := decide_eq_false (by omega)
              have i1 : gInt [.bl false] = some (.sh (.int 0)) := rfl
              rw [if_neg e]
              simp_arith only [m1, m2, h0, q1, i1, mo]) (by unfold rngD; rw [List.length_map, List.length_range]; omega)
        rw [rng_vec] at li
        generalize vecD n (pD F (c t) i) = R at *
        unfold le_wide_3
        exact li
      · show D.lst (vecD n (pD F (c t) i)) = D.lst (vecD n (pD F (c t) (0 + (i : Int)).toNat))
        rw [Int.zero_add, Int.toNat_natCast]) (by unfold rngD; rw [List.length_map, List.length_range]; omega)
  rw [rng_mat] at lc
  exact lc
def trM (n : Nat) (F : Nat → Nat → Int) : Int := ((List.range n).map fun a => F a a).sum
/-! trees' runs -/
theorem frzO_frzO (a : Option SV) : frzO (frzO a) = frzO a := by cases a <;> rfl
theorem frzS_frzS (β : Sl) : frzS (frzS β) = frzS β := by
  unfold frzS
  rw [List.map_map]
  exact List.map_congr_left fun a _ => frzO_frzO a
theorem frz_full2 {x : Nat} {β : Sl} {T : OT} : frzS (full2 x β T) = full2 x β T := by
  unfold full2
  show List.map frzO ((frzS β).set x _) = _
  rw [List.map_set]
  show (frzS (frzS β)).set x _ = _
  rw [frzS_frzS]
  rfl
theorem full2_len {x : Nat} {β : Sl} {T : OT} : (full2 x β T).length = β.length := by
  unfold full2 frzS
  rw [List.length_set, List.length_map]
theorem full2_set {x i : Nat} {β : Sl} {T : OT} {s : Option SV} (h : x ≠ i) : frzS ((full2 x β T).set i s) = full2 x (β.set i s) T := by
  unfold full2
  show List.map frzO (((frzS β).set x _).set i s) = _
  rw [List.map_set, List.map_set]
  show ((frzS (frzS β)).set x _).set i _ = (List.map frzO (β.set i s)).set x _
  rw [frzS_frzS, List.map_set, List.set_comm _ _ h]
  rfl
theorem noFr_full2 {x : Nat} {β : Sl} {T : OT} {vs : List Nat} : noFr (full2 x β T) vs := fun v _ c h => by
  rw [← frz_full2] at h
  obtain ⟨s0, _, z⟩ := frzS_some h
  cases z
theorem p2_sv {x i : Nat} {sv : SV} {m : SM} {β : Sl} {T : OT} (hxi : x ≠ i) (hf : flatO (some sv) = some sv) (h : m (full2 x β T) = some (.nx ((full2 x β T).set i (some sv)))) :
    p2 [i] m β (full2 x β T) T = some (.nx (β.set i (some sv)) (full2 x (β.set i (some sv)) T) T) := by
  unfold p2
  rw [h]
  refine (if_pos (by rw [List.length_set, full2_len])).trans ?_
  rw [full2_set hxi]
  have e : survS [i] β ((full2 x β T).set i (some sv)) = β.set i (some sv) := by
    refine List.ext_getElem? fun j => ?_
    unfold survS
    rw [List.getElem?_map, List.length_set, full2_len]
    by_cases hj : j < β.length
    · rw [List.getElem?_range hj]
      show some (if j ∈ [i] then _ else _) = _
      by_cases e : j = i
      · subst e
        rw [if_pos (List.mem_singleton_self _), List.getElem?_set_self (by rw [full2_len]; exact hj), List.getElem?_set_self hj]
        exact congrArg some hf
      · rw [if_neg fun z => e (List.mem_singleton.mp z), List.getElem?_set_ne fun z => e z.symm, List.getElem?_eq_getElem hj]
        rfl
    · rw [List.getElem?_eq_none (by rw [List.length_range]; omega), List.getElem?_eq_none (by rw [List.length_set]; omega)]
      rfl
  rw [e]
theorem b2_nx {x : Nat} {m : SM} {β β' ρ : Sl} {T : OT} (h : m β = some (.nx β')) : b2 x m β ρ T = some (.nx β' (full2 x β' T) T) := by
  unfold b2
  rw [h]
theorem b2_rt {x : Nat} {m : SM} {β β' ρ : Sl} {T : OT} {sv : SV} (h : m β = some (.rt sv β')) : b2 x m β ρ T = some (.so (.rt sv β')) := by
  unfold b2
  rw [h]
theorem seq2_nx {m n : M2} {β ρ β' ρ' : Sl} {T T' : OT} (h : m β ρ T = some (.nx β' ρ' T')) : seq2 m n β ρ T = n β' ρ' T' := by
  unfold seq2
  rw [h]
theorem seq2_rt {m n : M2} {β ρ β' : Sl} {T : OT} {sv : SV} (h : m β ρ T = some (.so (.rt sv β'))) : seq2 m n β ρ T = some (.so (.rt sv β')) := by
  unfold seq2
  rw [h]
theorem if2b_T {x : Nat} {c : M Bool} {m n : M2} {β β' ρ : Sl} {T : OT} (h : c β = some (.ok true β')) : if2b x c m n β ρ T = m β' (full2 x β' T) T := by
  unfold if2b
  rw [h]
  rfl
theorem if2b_F {x : Nat} {c : M Bool} {m n : M2} {β β' ρ : Sl} {T : OT} (h : c β = some (.ok false β')) : if2b x c m n β ρ T = n β' (full2 x β' T) T := by
  unfold if2b
  rw [h]
  rfl
theorem for2r_x {x : Nat} {it : M Itb} {g : SV → Sl → Option Sl} {body : M2} {β : Sl} {T : OT} {ds : List D} (h : it (full2 x β T) = some (.ok ⟨ds, []⟩ (full2 x β T))) : for2r x it g body β (full2 x β T) T = forL2 x g body ds β (full2 x β T) T := by
  unfold for2r
  rw [h]
  refine (if_pos ⟨rfl, full2_len⟩).trans ?_
  rw [frz_full2]
theorem for2b_x {x : Nat} {it : M Itb} {g : SV → Sl → Option Sl} {body : M2} {β β' ρ : Sl} {T : OT} {ds : List D} (h : it β = some (.ok ⟨ds, []⟩ β')) : for2b x it g body β ρ T = forL2 x g body ds β' (full2 x β' T) T := by
  unfold for2b
  rw [h]
  exact if_pos rfl
theorem forL2_nx {x : Nat} {g : SV → Sl → Option Sl} {body : M2} {d : D} {ds : List D} {β β1 β2 ρ ρ2 : Sl} {T T2 : OT} (h1 : g (.sh d) β = some β1) (h2 : body β1 (full2 x β1 T) T = some (.nx β2 ρ2 T2)) : forL2 x g body (d :: ds) β ρ T = forL2 x g body ds β2 ρ2 T2 := by
  show (g (.sh d) β).bind _ = _
  rw [h1, Option.bind_some, h2]
theorem forL2_rt {x : Nat} {g : SV → Sl → Option Sl} {body : M2} {d : D} {ds : List D} {β β1 β2 ρ : Sl} {T : OT} {sv : SV} (h1 : g (.sh d) β = some β1) (h2 : body β1 (full2 x β1 T) T = some (.so (.rt sv β2))) : forL2 x g body (d :: ds) β ρ T = some (.so (.rt sv β2)) := by
  show (g (.sh d) β).bind _ = _
  rw [h1, Option.bind_some, h2]
theorem forL2_idx {x : Nat} {g : SV → Sl → Option Sl} {body : M2} (I : Nat → Sl → OT → Prop) : ∀ (ds : List D) (j : Nat) (β : Sl) (T : OT), I j β T →
    (∀ i d, ds[i]? = some d → ∀ β T, I (j + i) β T → ∃ β1 β2 T2, g (.sh d) β = some β1 ∧ body β1 (full2 x β1 T) T = some (.nx β2 (full2 x β2 T2) T2) ∧ I (j + i + 1) β2 T2) →
    ∃ β' T', forL2 x g body ds β (full2 x β T) T = some (.nx β' (full2 x β' T') T') ∧ I (j + ds.length) β' T'
  | [], j, β, T, h, _ => ⟨β, T, rfl, h⟩
  | d :: ds, j, β, T, h, st => by
    obtain ⟨β1, β2, T2, e1, e2, e3⟩ := st 0 d rfl β T h
    obtain ⟨β', T', e4, e5⟩ := forL2_idx I ds (j + 1) β2 T2 e3 fun i d hi β T hI => by
      have := st (i + 1) d (by simpa using hi) β T (by rw [show j + (i + 1) = j + 1 + i by omega]; exact hI)
      rw [show j + (i + 1) + 1 = j + 1 + i + 1 by omega] at this
      exact this
    refine ⟨β', T', ?_, by rw [List.length_cons, show j + (ds.length + 1) = j + 1 + ds.length by omega]; exact e5⟩
    unfold forL2
    show (g (.sh d) β).bind _ = _
    rw [e1, Option.bind_some, e2]
    exact e4
theorem otds_map {α : Type} (f : α → OT) : ∀ l : List α, otds (l.map f) = l.map fun a => (f a).d
  | [] => rfl
  | a :: l => by
    rw [List.map_cons, List.map_cons]
    unfold otds
    rw [otds_map f l]
/-! tables of whole numbers as trees -/
def otR (n : Nat) (r : Nat → Int) : List OT := (List.range n).map fun j => .sh (.int (r j))
def otM (n : Nat) (A : Nat → Nat → Int) : OT := .nd ((List.range n).map fun i => .nd (otR n (A i)))
theorem otM_d {n : Nat} {A : Nat → Nat → Int} : (otM n A).d = .lst (mat n A) := by
  unfold otM OT.d
  rw [otds_map]
  unfold mat
  refine congrArg D.lst (List.map_congr_left fun i _ => ?_)
  show D.lst (otds (otR n (A i))) = _
  unfold otR vecD vec
  rw [otds_map, List.map_map]
  rfl
theorem otM_congr {n : Nat} {A B : Nat → Nat → Int} (h : ∀ i, i < n → ∀ j, j < n → A i j = B i j) : otM n A = otM n B := by
  unfold otM otR
  refine congrArg OT.nd (List.map_congr_left fun i hi => congrArg OT.nd (List.map_congr_left fun j hj => ?_))
  rw [h i (List.mem_range.mp hi) j (List.mem_range.mp hj)]
def setA (A : Nat → Nat → Int) (i j : Nat) (v : Int) (a b : Nat) : Int := if a = i ∧ b = j then v else A a b
theorem map_range_set {α : Type} {n i : Nat} {f : Nat → α} {a : α} : ((List.range n).map f).set i a = (List.range n).map fun k => if k = i then a else f k := by
  refine List.ext_getElem? fun j => ?_
  by_cases h : j < n
  · rw [List.getElem?_map, List.getElem?_range h]
    by_cases e : j = i
    · subst e
      rw [List.getElem?_set_self (by rw [List.length_map, List.length_range]; exact h)]
      show _ = some (if j = j then a else f j)
      rw [if_pos rfl]
    · rw [List.getElem?_set_ne fun z => e z.symm, List.getElem?_map, List.getElem?_range h]
      show _ = some (if j = i then a else f j)
      rw [if_neg e]
      rfl
  · rw [List.getElem?_eq_none (by rw [List.length_set, List.length_map, List.length_range]; omega), List.getElem?_eq_none (by rw [List.length_map, List.length_range]; omega)]
theorem stX_ix {x n i j : Nat} {A : Nat → Nat → Int} {β ρ : Sl} {v : Int} {f fi fj : M Op} {oi oj : Op} (hf : f β = some (.ok (.val (.int v)) β)) (hi : fi β = some (.ok oi β)) (gi : get β oi = some (.int (i : Int))) (hj : fj β = some (.ok oj β)) (gj : get β oj = some (.int (j : Int))) (li : i < n) (lj : j < n) :
    stX x f (lcIx fi) fj β ρ (otM n A) = some (.nx β (full2 x β (otM n (setA A i j v))) (otM n (setA A i j v))) := by
  have e1 : lcIx fi β (otM n A) = some (some i, β) := by
    unfold lcIx
    rw [hi]
    dsimp only
    rw [gi]
    show (ixN ((List.range n).map fun i => OT.nd (otR n (A i))).length (i : Int)).bind _ = _
    rw [List.length_map, List.length_range, ixN_nat li, Option.bind_some, List.getElem?_map, List.getElem?_range li]
    rfl
  have e2 : otGet (otM n A) (some i) = some (otR n (A i)) := by
    show (match ((List.range n).map fun i => OT.nd (otR n (A i)))[i]? with
      | some (.nd m) => some m
      | _ => none) = _
    rw [List.getElem?_map, List.getElem?_range li]
    rfl
  have e3 : otPut (otM n A) (some i) ((otR n (A i)).set j (.sh (.int v))) = otM n (setA A i j v) := by
    show OT.nd (((List.range n).map fun i => OT.nd (otR n (A i))).set i (.nd ((otR n (A i)).set j (.sh (.int v))))) = _
    unfold otR
    rw [map_range_set, map_range_set]
    unfold otM otR setA
    refine congrArg OT.nd (List.map_congr_left fun a _ => ?_)
    by_cases e : a = i
    · subst e
      rw [if_pos rfl]
      refine congrArg OT.nd (List.map_congr_left fun b _ => ?_)
      by_cases e : b = j
      · rw [if_pos e, if_pos ⟨rfl, e⟩]
      · rw [if_neg e, if_neg fun z => e z.2]
    · rw [if_neg e]
      refine congrArg OT.nd (List.map_congr_left fun b _ => ?_)
      rw [if_neg fun z => e z.1]
  have e4 : ixN (otR n (A i)).length (j : Int) = some j := by
    unfold otR
    rw [List.length_map, List.length_range, ixN_nat lj]
  unfold stX
  rw [hf]
  show (lcIx fi β (otM n A)).bind _ = _
  rw [e1, Option.bind_some]
  show (match fj β with
    | some (.ok o β2) => match get β2 o with
      | some (.int k) => (otGet (otM n A) (some i)).bind fun m => (ixN m.length k).bind fun j => some (SO2.nx β2 (full2 x β2 (otPut (otM n A) (some i) (m.set j (.sh (.int v))))) (otPut (otM n A) (some i) (m.set j (.sh (.int v)))))
      | _ => none
    | _ => none) = _
  rw [hj]
  show (match get β oj with
    | some (.int k) => (otGet (otM n A) (some i)).bind fun m => (ixN m.length k).bind fun j => some (SO2.nx β (full2 x β (otPut (otM n A) (some i) (m.set j (.sh (.int v))))) (otPut (otM n A) (some i) (m.set j (.sh (.int v)))))
    | _ => none) = _
  rw [gj]
  show (otGet (otM n A) (some i)).bind _ = _
  rw [e2, Option.bind_some, e4, Option.bind_some, e3]
/-! `_law_determinant`: steps without parts -/
def redV (A : Nat → Nat → Int) (k : Nat) (ah : Int) (i j : Nat) : Int := (A i j * A k k - A i k * A k j).fdiv ah
theorem det_in {n i j k : Nat} {A : Nat → Nat → Int} {ah : Int} {t s sg s8 s9 r : Option SV} (hi : i < n) (hj : j < n) (hk : k < n) (m1 : Sim.MulOk (A i j) (A k k)) (m2 : Sim.MulOk (A i k) (A k j)) (dv : Sim.DivOk 0 ah) :
    fm_law_determinant_1 [t, none, sg, some (.sh (.int ah)), some (.sh (.int (k : Int))), s, some (.sh (.int (i : Int))), some (.sh (.int (j : Int))), s8, s9, r] (full2 1 [t, none, sg, some (.sh (.int ah)), some (.sh (.int (k : Int))), s, some (.sh (.int (i : Int))), some (.sh (.int (j : Int))), s8, s9, r] (otM n A)) (otM n A) =
      some (.nx [t, none, sg, some (.sh (.int ah)), some (.sh (.int (k : Int))), s, some (.sh (.int (i : Int))), some (.sh (.int (j : Int))), some (.sh (.int (A i j * A k k))), some (.sh (.int (A i k * A k j))), r] (full2 1 [t, none, sg, some (.sh (.int ah)), some (.sh (.int (k : Int))), s, some (.sh (.int (i : Int))), some (.sh (.int (j : Int))), some (.sh (.int (A i j * A k k))), some (.sh (.int (A i k * A k j))), r] (otM n (setA A i j (redV A k ah i j)))) (otM n (setA A i j (redV A k ah i j)))) := by
  have a1 := mat_at (F := A) hi
  have a2 := mat_at (F := A) hk
  have v1 := vec_at (g := A i) hj
  have v2 := vec_at (g := A k) hk
  have v3 := vec_at (g := A i) hk
  have v4 := vec_at (g := A k) hj
  have e1 := p2_sv (x := 1) (i := 8) (sv := .sh (.int (A i j * A k k))) (β := [t, none, sg, some (.sh (.int ah)), some (.sh (.int (k : Int))), s, some (.sh (.int (i : Int))), some (.sh (.int (j : Int))), s8, s9, r]) (T := otM n A) (m := rd_law_determinant_2) (by decide) rfl (by
    show rd_law_determinant_2 [frzO t, some (.sh (otM n A).d), frzO sg, some (.sh (.int ah)), some (.sh (.int (k : Int))), frzO s, some (.sh (.int (i : Int))), some (.sh (.int (j : Int))), frzO s8, frzO s9, frzO r] = some (.nx [frzO t, some (.sh (otM n A).d), frzO sg, some (.sh (.int ah)), some (.sh (.int (k : Int))), frzO s, some (.sh (.int (i : Int))), some (.sh (.int (j : Int))), some (.sh (.int (A i j * A k k))), frzO s9, frzO r])
    rw [otM_d]
    generalize vecD n (A i) = X at *
    generalize vecD n (A k) = Y at *
    generalize mat n A = M at *
    generalize frzO t = Z at *
    unfold rd_law_determinant_2
    simp_arith only [a1, a2, v1, v2, m1])
  have e2 := p2_sv (x := 1) (i := 9) (sv := .sh (.int (A i k * A k j))) (β := [t, none, sg, some (.sh (.int ah)), some (.sh (.int (k : Int))), s, some (.sh (.int (i : Int))), some (.sh (.int (j : Int))), some (.sh (.int (A i j * A k k))), s9, r]) (T := otM n A) (m := rd_law_determinant_3) (by decide) rfl (by
    show rd_law_determinant_3 [frzO t, some (.sh (otM n A).d), frzO sg, some (.sh (.int ah)), some (.sh (.int (k : Int))), frzO s, some (.sh (.int (i : Int))), some (.sh (.int (j : Int))), some (.sh (.int (A i j * A k k))), frzO s9, frzO r] = some (.nx [frzO t, some (.sh (otM n A).d), frzO sg, some (.sh (.int ah)), some (.sh (.int (k : Int))), frzO s, some (.sh (.int (i : Int))), some (.sh (.int (j : Int))), some (.sh (.int (A i j * A k k))), some (.sh (.int (A i k * A k j))), frzO r])
    rw [otM_d]
    generalize vecD n (A i) = X at *
    generalize vecD n (A k) = Y at *
    generalize mat n A = M at *
    generalize frzO t = Z at *
    generalize A i j * A k k = z at *
    unfold rd_law_determinant_3
    simp_arith only [a1, a2, v3, v4, m2])
  have dv2 : gDiv (.int (A i j * A k k - A i k * A k j)) (.int ah) = some (.sh (.int (redV A k ah i j))) := if_pos dv
  have e3 := stX_ix (x := 1) (ρ := full2 1 [t, none, sg, some (.sh (.int ah)), some (.sh (.int (k : Int))), s, some (.sh (.int (i : Int))), some (.sh (.int (j : Int))), some (.sh (.int (A i j * A k k))), some (.sh (.int (A i k * A k j))), r] (otM n A)) (A := A) (v := redV A k ah i j) (f := oOf (vOp2 gDiv (oOf (vOp2 Sim.gSub (oPk 8) (oPk 9))) (oPk 3))) (fi := oPk 6) (fj := oPk 7) (oi := .slot 6) (oj := .slot 7) (β := [t, none, sg, some (.sh (.int ah)), some (.sh (.int (k : Int))), s, some (.sh (.int (i : Int))), some (.sh (.int (j : Int))), some (.sh (.int (A i j * A k k))), some (.sh (.int (A i k * A k j))), r]) (by
    generalize redV A k ah i j = w at *
    generalize A i j * A k k = z at *
    generalize A i k * A k j = y at *
    simp_arith only [dv2]) rfl rfl rfl rfl hi hj
  unfold fm_law_determinant_1
  refine (seq2_nx e1).trans ((seq2_nx e2).trans e3)
theorem rngD_at {lo : Int} {m t : Nat} {d : D} (h : (rngD lo m)[t]? = some d) : t < m ∧ d = .int (lo + (t : Int)) := by
  unfold rngD at h
  rw [List.getElem?_map] at h
  by_cases ht : t < m
  · rw [List.getElem?_range ht] at h
    cases h
    exact ⟨ht, rfl⟩
  · rw [List.getElem?_eq_none (by rw [List.length_range]; omega)] at h
    cases h
theorem rngD_len {lo : Int} {m : Nat} : (rngD lo m).length = m := by unfold rngD; rw [List.length_map, List.length_range]
theorem det_it {n k : Nat} {A : Nat → Nat → Int} {t s sg ah i j s8 s9 r : Option SV} (hn : n ≤ 1000) (hk : k < n) :
    iR2 (aCons (oOf (vOp2 gAdd (oPk 4) (oOf (vC (.int 1))))) (aCons (oOf (vBi gLen (aCons (oPk 1) aNil))) aNil)) (full2 1 [t, none, sg, ah, some (.sh (.int (k : Int))), s, i, j, s8, s9, r] (otM n A)) = some (.ok ⟨rngD ((k : Int) + 1) (n - (k + 1)), []⟩ (full2 1 [t, none, sg, ah, some (.sh (.int (k : Int))), s, i, j, s8, s9, r] (otM n A))) := by
  show iR2 _ [frzO t, some (.sh (otM n A).d), frzO sg, frzO ah, some (.sh (.int (k : Int))), frzO s, frzO i, frzO j, frzO s8, frzO s9, frzO r] = some (.ok ⟨rngD ((k : Int) + 1) (n - (k + 1)), []⟩ [frzO t, some (.sh (otM n A).d), frzO sg, frzO ah, some (.sh (.int (k : Int))), frzO s, frzO i, frzO j, frzO s8, frzO s9, frzO r])
  rw [otM_d]
  have ml : ((mat n A).length : Int) = (n : Nat) := by rw [mat_len]
  have r1 : RngOk ((k : Int) + 1) := rng_small (by omega) (by omega)
  have r2 : RngOk ((n : Nat) : Int) := rng_small (by omega) (by omega)
  have tn : (((n : Nat) : Int) - ((k : Int) + 1)).toNat = n - (k + 1) := by omega
  generalize mat n A = M at *
  generalize frzO t = Z at *
  simp_arith only [ml, r1, r2, tn]
def sqA (A : Nat → Nat → Int) (k : Nat) (ah : Int) (u a b : Nat) : Int := if k < a ∧ a < k + 1 + u ∧ k < b then redV A k ah a b else A a b
def redA (A : Nat → Nat → Int) (k : Nat) (ah : Int) (a b : Nat) : Int := if k < a ∧ k < b then redV A k ah a b else A a b
def rowA (A : Nat → Nat → Int) (i k : Nat) (ah : Int) (u a b : Nat) : Int := if a = i ∧ k < b ∧ b < k + 1 + u then redV A k ah i b else A a b
theorem det_row {n i k : Nat} {A : Nat → Nat → Int} {ah : Int} {t s sg s7 s8 s9 r : Option SV} (hn : n ≤ 1000) (hi : i < n) (hk : k < n) (hik : i ≠ k) (m1 : ∀ j, k < j → j < n → Sim.MulOk (A i j) (A k k)) (m2 : ∀ j, k < j → j < n → Sim.MulOk (A i k) (A k j)) (dv : Sim.DivOk 0 ah) :
    ∃ s7' s8' s9', fm_law_determinant_2 [t, none, sg, some (.sh (.int ah)), some (.sh (.int (k : Int))), s, some (.sh (.int (i : Int))), s7, s8, s9, r] (full2 1 [t, none, sg, some (.sh (.int ah)), some (.sh (.int (k : Int))), s, some (.sh (.int (i : Int))), s7, s8, s9, r] (otM n A)) (otM n A) =
      some (.nx [t, none, sg, some (.sh (.int ah)), some (.sh (.int (k : Int))), s, some (.sh (.int (i : Int))), s7', s8', s9', r] (full2 1 [t, none, sg, some (.sh (.int ah)), some (.sh (.int (k : Int))), s, some (.sh (.int (i : Int))), s7', s8', s9', r] (otM n (rowA A i k ah (n - (k + 1))))) (otM n (rowA A i k ah (n - (k + 1))))) := by
  obtain ⟨β', T', e, s7', s8', s9', rfl, rfl⟩ := forL2_idx (x := 1) (g := gN 7) (body := fm_law_determinant_1) (fun u β T => ∃ s7 s8 s9, β = [t, none, sg, some (.sh (.int ah)), some (.sh (.int (k : Int))), s, some (.sh (.int (i : Int))), s7, s8, s9, r] ∧ T = otM n (rowA A i k ah u)) (rngD ((k : Int) + 1) (n - (k + 1))) 0
    [t, none, sg, some (.sh (.int ah)), some (.sh (.int (k : Int))), s, some (.sh (.int (i : Int))), s7, s8, s9, r] (otM n A) ⟨s7, s8, s9, rfl, otM_congr fun a _ b _ => by
      unfold rowA
      rw [if_neg (by omega)]⟩ (by
      rintro u d hd β T ⟨s7, s8, s9, rfl, rfl⟩
      obtain ⟨hu, rfl⟩ := rngD_at hd
      rw [Nat.zero_add, show (k : Int) + 1 + (u : Int) = ((k + 1 + u : Nat) : Int) by omega]
      have q1 : rowA A i k ah u i (k + 1 + u) = A i (k + 1 + u) := if_neg (by omega)
      have q2 : rowA A i k ah u k k = A k k := if_neg (by omega)
      have q3 : rowA A i k ah u i k = A i k := if_neg (by omega)
      have q4 : rowA A i k ah u k (k + 1 + u) = A k (k + 1 + u) := if_neg (by omega)
      have st := det_in (n := n) (i := i) (j := k + 1 + u) (k := k) (A := rowA A i k ah u) (ah := ah) (t := t) (s := s) (sg := sg) (s8 := s8) (s9 := s9) (r := r) hi (by omega) hk (by rw [q1, q2]; exact m1 _ (by omega) (by omega)) (by rw [q3, q4]; exact m2 _ (by omega) (by omega)) dv
      refine ⟨_, _, _, rfl, st, _, _, _, rfl, otM_congr fun a _ b _ => ?_⟩
      have q5 : redV (rowA A i k ah u) k ah i (k + 1 + u) = redV A k ah i (k + 1 + u) := by
        unfold redV
        rw [q1, q2, q3, q4]
      unfold setA
      rw [q5]
      by_cases z : a = i ∧ b = k + 1 + u
      · rw [if_pos z, z.1, z.2]
        exact (if_pos (by omega)).symm
      · rw [if_neg z]
        unfold rowA
        by_cases z2 : a = i ∧ k < b ∧ b < k + 1 + u
        · rw [if_pos z2, if_pos (by omega)]
        · rw [if_neg z2, if_neg (by omega)])
  rw [Nat.zero_add, rngD_len] at e
  refine ⟨s7', s8', s9', ?_⟩
  unfold fm_law_determinant_2
  rw [for2r_x (det_it (A := A) hn hk)]
  exact e

theorem det_rows {n k : Nat} {A : Nat → Nat → Int} {ah : Int} {t s sg s5 s6 s7 s8 r : Option SV} (hn : n ≤ 1000) (hk : k < n) (m1 : ∀ i j, k < i → i < n → k < j → j < n → Sim.MulOk (A i j) (A k k)) (m2 : ∀ i j, k < i → i < n → k < j → j < n → Sim.MulOk (A i k) (A k j)) (dv : Sim.DivOk 0 ah) :
    ∃ s5' s6' s7' s8', for2r 1 (iR2 (aCons (oOf (vOp2 gAdd (oPk 4) (oOf (vC (.int 1))))) (aCons (oOf (vBi gLen (aCons (oPk 1) aNil))) aNil))) (gN 6) fm_law_determinant_2 [t, none, sg, some (.sh (.int ah)), some (.sh (.int (k : Int))), s, s5, s6, s7, s8, r] (full2 1 [t, none, sg, some (.sh (.int ah)), some (.sh (.int (k : Int))), s, s5, s6, s7, s8, r] (otM n A)) (otM n A) =
      some (.nx [t, none, sg, some (.sh (.int ah)), some (.sh (.int (k : Int))), s, s5', s6', s7', s8', r] (full2 1 [t, none, sg, some (.sh (.int ah)), some (.sh (.int (k : Int))), s, s5', s6', s7', s8', r] (otM n (redA A k ah))) (otM n (redA A k ah))) := by
  obtain ⟨β', T', e, s5', s6', s7', s8', rfl, rfl⟩ := forL2_idx (x := 1) (g := gN 6) (body := fm_law_determinant_2) (fun u β T => ∃ s5 s6 s7 s8, β = [t, none, sg, some (.sh (.int ah)), some (.sh (.int (k : Int))), s, s5, s6, s7, s8, r] ∧ T = otM n (sqA A k ah u)) (rngD ((k : Int) + 1) (n - (k + 1))) 0
    [t, none, sg, some (.sh (.int ah)), some (.sh (.int (k : Int))), s, s5, s6, s7, s8, r] (otM n A) ⟨s5, s6, s7, s8, rfl, otM_congr fun a _ b _ => by
      unfold sqA
      rw [if_neg (by omega)]⟩ (by
      rintro u d hd β T ⟨s5, s6, s7, s8, rfl, rfl⟩
      obtain ⟨hu, rfl⟩ := rngD_at hd
      rw [Nat.zero_add, show (k : Int) + 1 + (u : Int) = ((k + 1 + u : Nat) : Int) by omega]
      have qi : ∀ b, sqA A k ah u (k + 1 + u) b = A (k + 1 + u) b := fun b => if_neg (by omega)
      have qk : ∀ b, sqA A k ah u k b = A k b := fun b => if_neg (by omega)
      obtain ⟨s6', s7', s8', st⟩ := det_row (n := n) (i := k + 1 + u) (k := k) (A := sqA A k ah u) (ah := ah) (t := t) (s := s) (sg := sg) (s7 := s6) (s8 := s7) (s9 := s8) (r := r) hn (by omega) hk (by omega) (fun j h1 h2 => by rw [qi, qk]; exact m1 _ _ (by omega) (by omega) h1 h2) (fun j h1 h2 => by rw [qi, qk]; exact m2 _ _ (by omega) (by omega) h1 h2) dv
      refine ⟨_, _, _, rfl, st, _, _, _, _, rfl, otM_congr fun a _ b hb => ?_⟩
      have q5 : ∀ b, redV (sqA A k ah u) k ah (k + 1 + u) b = redV A k ah (k + 1 + u) b := fun b => by
        unfold redV
        rw [qi, qi, qk, qk]
      unfold rowA
      rw [q5]
      by_cases z : a = k + 1 + u ∧ k < b ∧ b < k + 1 + (n - (k + 1))
      · rw [if_pos z, z.1]
        exact (if_pos (by omega)).symm
      · rw [if_neg z]
        unfold sqA
        by_cases z2 : k < a ∧ a < k + 1 + u ∧ k < b
        · rw [if_pos z2, if_pos (by omega)]
        · rw [if_neg z2, if_neg (by omega)])
  rw [Nat.zero_add, rngD_len] at e
  refine ⟨s5', s6', s7', s8', ?_⟩
  rw [for2r_x (det_it (A := A) hn hk), e]
  have eq : otM n (sqA A k ah (n - (k + 1))) = otM n (redA A k ah) := otM_congr fun a ha b _ => by
    unfold sqA redA
    by_cases z : k < a ∧ k < b
    · rw [if_pos z, if_pos (by omega)]
    · rw [if_neg z, if_neg (by omega)]
  rw [eq]
/-! the first row that is not 0 -/
def pivL (n : Nat) (A : Nat → Nat → Int) (k : Nat) : List Nat := ((List.range (n - k)).map (k + ·)).filter fun s => decide (A s k ≠ 0)
def pvP (A : Nat → Nat → Int) (k : Nat) : D → Bool
  | .int z => decide (A z.toNat k ≠ 0)
  | _ => false
theorem piv_map {n k : Nat} {A : Nat → Nat → Int} : ((rngD (k : Int) (n - k)).filter (pvP A k)).map id = (pivL n A k).map fun s : Nat => D.int (s : Int) := by
  unfold pivL
  have e : rngD (k : Int) (n - k) = ((List.range (n - k)).map (k + ·)).map fun s : Nat => D.int (s : Int) := by
    unfold rngD
    rw [List.map_map]
    refine List.map_congr_left fun t _ => ?_
    show D.int ((k : Int) + (t : Int)) = D.int (((k + t : Nat)) : Int)
    rw [Int.natCast_add]
  rw [e, List.filter_map, List.map_id]
  rfl
theorem flat_ints (l : List Nat) : flatO (some (.fr (l.map fun s : Nat => D.int (s : Int)))) = some (.fr (l.map fun s : Nat => D.int (s : Int))) := by
  show (if (l.map fun s : Nat => D.int (s : Int)).all isFlat = true then some (SV.fr (l.map fun s : Nat => D.int (s : Int))) else none) = _
  rw [if_pos]
  rw [List.all_map]
  exact List.all_eq_true.mpr fun _ _ => rfl
theorem det_piv {n k : Nat} {A : Nat → Nat → Int} {t s sg ah s5 s6 s7 s8 r : Option SV} (hn : n ≤ 1000) (hk : k < n) :
    p2 [5] rd_law_determinant_1 [t, none, sg, ah, some (.sh (.int (k : Int))), s, s5, s6, s7, s8, r] (full2 1 [t, none, sg, ah, some (.sh (.int (k : Int))), s, s5, s6, s7, s8, r] (otM n A)) (otM n A) =
      some (.nx [t, none, sg, ah, some (.sh (.int (k : Int))), some (.fr ((pivL n A k).map fun s : Nat => D.int (s : Int))), s5, s6, s7, s8, r] (full2 1 [t, none, sg, ah, some (.sh (.int (k : Int))), some (.fr ((pivL n A k).map fun s : Nat => D.int (s : Int))), s5, s6, s7, s8, r] (otM n A)) (otM n A)) := by
  refine p2_sv (x := 1) (i := 5) (sv := .fr ((pivL n A k).map fun s : Nat => D.int (s : Int))) (by decide) (flat_ints _) ?_
  show rd_law_determinant_1 [frzO t, some (.sh (otM n A).d), frzO sg, frzO ah, some (.sh (.int (k : Int))), frzO s, frzO s5, frzO s6, frzO s7, frzO s8, frzO r] = some (.nx [frzO t, some (.sh (otM n A).d), frzO sg, frzO ah, some (.sh (.int (k : Int))), some (.fr ((pivL n A k).map fun s : Nat => D.int (s : Int))), frzO s5, frzO s6, frzO s7, frzO s8, frzO r])
  have nf : noFr [frzO t, some (.sh (otM n A).d), frzO sg, frzO ah, some (.sh (.int (k : Int))), frzO s, frzO s5, frzO s6, frzO s7, frzO s8, frzO r] [6] := noFr_full2 (x := 1) (β := [t, none, sg, ah, some (.sh (.int (k : Int))), s, s5, s6, s7, s8, r]) (T := otM n A)
  rw [otM_d] at nf ⊢
  have ml : ((mat n A).length : Int) = (n : Nat) := by rw [mat_len]
  have r1 : RngOk (k : Int) := rng_small (by omega) (by omega)
  have r2 : RngOk ((n : Nat) : Int) := rng_small (by omega) (by omega)
  have tn : (((n : Nat) : Int) - (k : Int)).toNat = n - k := by omega
  have lc := vLc_sh (vs := [6]) (it := iR2 (aCons (oPk 4) (aCons (oOf (vBi gLen (aCons (oPk 1) aNil))) aNil))) (ds := rngD (k : Int) (n - k)) (g := gN 6) (c := lc_law_determinant_2) (elt := le_law_determinant_2) (p := pvP A k) (f := id)
    (ρ := [frzO t, some (.sh (.lst (mat n A))), frzO sg, frzO ah, some (.sh (.int (k : Int))), frzO s, frzO s5, frzO s6, frzO s7, frzO s8, frzO r]) (ρ0 := [frzO t, some (.sh (.lst (mat n A))), frzO sg, frzO ah, some (.sh (.int (k : Int))), frzO s, frzO s5, frzO s6, frzO s7, frzO s8, frzO r]) (by
      generalize mat n A = M at *
      generalize frzO t = Z at *
      simp_arith only [ml, r1, r2, tn]) nf (fun d hd => by
      obtain ⟨u, hu, rfl⟩ := List.mem_map.mp hd
      have hu := List.mem_range.mp hu
      refine ⟨[frzO t, some (.sh (.lst (mat n A))), frzO sg, frzO ah, some (.sh (.int (k : Int))), frzO s, some (.sh (.int ((k : Int) + (u : Int)))), frzO s6, frzO s7, frzO s8, frzO r], rfl, rfl, rfl, ?_, fun _ => ?_⟩
      · show _ = some (Out.ok (decide (A ((k : Int) + (u : Int)).toNat k ≠ 0)) _)
        have e1 : (k : Int) + (u : Int) = ((k + u : Nat) : Int) := by omega
        rw [e1, Int.toNat_natCast]
        have a1 := mat_at (F := A) (i := k + u) (n := n) (by omega)
        have v1 := vec_at (g := A (k + u)) hk
        have q : (!decide (A (k + u) k = 0)) = decide (A (k + u) k ≠ 0) := by by_cases z : A (k + u) k = 0 <;> simp [z]
        rw [← q]
        generalize vecD n (A (k + u)) = X at *
        generalize mat n A = M at *
        generalize frzO t = Z at *
        unfold lc_law_determinant_2
        simp_arith only [a1, v1]
      · generalize mat n A = M at *
        generalize frzO t = Z at *
        unfold le_law_determinant_2
        simp_arith only []
        rfl) (by rw [rngD_len]; omega)
  rw [piv_map] at lc
  generalize mat n A = M at *
  generalize (pivL n A k).map (fun s : Nat => D.int (s : Int)) = L at *
  generalize frzO t = Z at *
  unfold rd_law_determinant_1
  simp_arith only [lc]
def swpA (A : Nat → Nat → Int) (k s : Nat) (a : Nat) : Nat → Int := if a = k then A s else if a = s then A k else A a
theorem swX_rows {x n k s : Nat} {A : Nat → Nat → Int} {β ρ : Sl} {f3 f4 f1 f2 : M Op} (h3 : vI f3 β = some (.ok (s : Int) β)) (h4 : vI f4 β = some (.ok (k : Int) β)) (h1 : vI f1 β = some (.ok (k : Int) β)) (h2 : vI f2 β = some (.ok (s : Int) β)) (hk : k < n) (hs : s < n) (hne : k ≠ s) :
    swX x f3 f4 f1 f2 β ρ (otM n A) = some (.nx β (full2 x β (otM n (swpA A k s))) (otM n (swpA A k s))) := by
  have ik : ixN ((List.range n).map fun i => OT.nd (otR n (A i))).length (k : Int) = some k := by rw [List.length_map, List.length_range, ixN_nat hk]
  have is : ixN ((List.range n).map fun i => OT.nd (otR n (A i))).length (s : Int) = some s := by rw [List.length_map, List.length_range, ixN_nat hs]
  have gk : ((List.range n).map fun i => OT.nd (otR n (A i)))[k]? = some (.nd (otR n (A k))) := by rw [List.getElem?_map, List.getElem?_range hk]; rfl
  have gs : ((List.range n).map fun i => OT.nd (otR n (A i)))[s]? = some (.nd (otR n (A s))) := by rw [List.getElem?_map, List.getElem?_range hs]; rfl
  have e : OT.nd ((((List.range n).map fun i => OT.nd (otR n (A i))).set k (.nd (otR n (A s)))).set s (.nd (otR n (A k)))) = otM n (swpA A k s) := by
    rw [map_range_set, map_range_set]
    unfold otM swpA
    refine congrArg OT.nd (List.map_congr_left fun a _ => ?_)
    by_cases z1 : a = s
    · rw [if_pos z1, if_neg (fun z => hne (z.symm.trans z1)), if_pos z1]
    · rw [if_neg z1, if_neg z1]
      by_cases z2 : a = k
      · rw [if_pos z2, if_pos z2]
      · rw [if_neg z2, if_neg z2]
  unfold swX
  rw [h3]
  simp only
  rw [h4]
  simp only
  rw [h1]
  simp only
  rw [h2]
  simp only [otM]
  rw [ik, is]
  simp only
  rw [if_pos (by first | exact ⟨trivial, trivial, hne⟩ | exact ⟨rfl, rfl, hne⟩), gk, gs]
  simp only
  rw [e]
  rfl
theorem eq_nil {l : List Nat} : gEq (.lst (l.map fun s : Nat => D.int (s : Int))) (.lst []) = some (.sh (.bl (decide (l = [])))) := by
  have ok : okPy (.lst (l.map fun s : Nat => D.int (s : Int))) = true := by
    have : (l.map fun s : Nat => D.int (s : Int)) = (l.map fun s : Nat => (s : Int)).map D.int := by rw [List.map_map]; rfl
    rw [this]
    exact okPy_ints _
  show (if okPy (.lst (l.map fun s : Nat => D.int (s : Int))) = true ∧ okPy (.lst []) = true then some (SV.sh (.bl (eqD (.lst (l.map fun s : Nat => D.int (s : Int))) (.lst [])))) else none) = _
  rw [if_pos ⟨ok, rfl⟩]
  cases l with
  | nil => rfl
  | cons a l => rfl
theorem piv_mem {n k s : Nat} {A : Nat → Nat → Int} {r : List Nat} (h : pivL n A k = s :: r) : k ≤ s ∧ s < n ∧ A s k ≠ 0 := by
  have m : s ∈ pivL n A k := by rw [h]; exact List.mem_cons_self
  unfold pivL at m
  obtain ⟨m1, m2⟩ := List.mem_filter.mp m
  obtain ⟨t, ht, rfl⟩ := List.mem_map.mp m1
  have ht := List.mem_range.mp ht
  exact ⟨by omega, by omega, of_decide_eq_true m2⟩
def pvA (A : Nat → Nat → Int) (k s : Nat) : Nat → Nat → Int := if s = k then A else swpA A k s
def pvS (sg : Int) (k s : Nat) : Int := if s = k then sg else 0 - sg
/-- a step: the pivot is found -/
theorem det_step {n k s : Nat} {r : List Nat} {A : Nat → Nat → Int} {sg ah : Int} {t s4 s5 s6 s7 s8 c : Option SV} (hn : n ≤ 1000) (hk : k < n) (hp : pivL n A k = s :: r)
    (m1 : ∀ i j, k < i → i < n → k < j → j < n → Sim.MulOk (pvA A k s i j) (pvA A k s k k)) (m2 : ∀ i j, k < i → i < n → k < j → j < n → Sim.MulOk (pvA A k s i k) (pvA A k s k j)) (dv : Sim.DivOk 0 ah) :
    ∃ s4' s5' s6' s7' s8', fm_law_determinant_3 [t, none, some (.sh (.int sg)), some (.sh (.int ah)), some (.sh (.int (k : Int))), s4, s5, s6, s7, s8, c] (full2 1 [t, none, some (.sh (.int sg)), some (.sh (.int ah)), some (.sh (.int (k : Int))), s4, s5, s6, s7, s8, c] (otM n A)) (otM n A) =
      some (.nx [t, none, some (.sh (.int (pvS sg k s))), some (.sh (.int (pvA A k s k k))), some (.sh (.int (k : Int))), s4', s5', s6', s7', s8', c] (full2 1 [t, none, some (.sh (.int (pvS sg k s))), some (.sh (.int (pvA A k s k k))), some (.sh (.int (k : Int))), s4', s5', s6', s7', s8', c] (otM n (redA (pvA A k s) k ah))) (otM n (redA (pvA A k s) k ah))) := by
  obtain ⟨p1, p2', p3⟩ := piv_mem hp
  have e1 := det_piv (n := n) (k := k) (A := A) (t := t) (s := s4) (sg := some (.sh (.int sg))) (ah := some (.sh (.int ah))) (s5 := s5) (s6 := s6) (s7 := s7) (s8 := s8) (r := c) hn hk
  have q0 : gEq (.lst ((pivL n A k).map fun s : Nat => D.int (s : Int))) (.lst []) = some (.sh (.bl false)) := by
    rw [eq_nil, hp]
    rfl
  have i0 : gIx (.lst ((pivL n A k).map fun s : Nat => D.int (s : Int))) (.int 0) = some (.sh (.int (s : Int))) := by
    rw [hp, List.map_cons]
    show (atI (_ :: _) 0).map SV.sh = _
    rw [atI_0]
    rfl
  have e2 : bs_law_determinant_3 [t, none, some (.sh (.int sg)), some (.sh (.int ah)), some (.sh (.int (k : Int))), some (.fr ((pivL n A k).map fun s : Nat => D.int (s : Int))), s5, s6, s7, s8, c] = some (.nx [t, none, some (.sh (.int sg)), some (.sh (.int ah)), some (.sh (.int (k : Int))), some (.fr ((pivL n A k).map fun s : Nat => D.int (s : Int))), s5, s6, s7, s8, c]) := by
    generalize (pivL n A k).map (fun s : Nat => D.int (s : Int)) = L at *
    unfold bs_law_determinant_3
    simp_arith only [q0]
  have e3 : ∀ ρ, ∃ s4', if2b 1 (tst (vOp2 gNe (oOf (vOp2 gIx (oPk 5) (oOf (vC (.int 0))))) (oPk 4))) (seq2 (swX 1 (oOf (vOp2 gIx (oPk 5) (oOf (vC (.int 0))))) (oPk 4) (oPk 4) (oOf (vOp2 gIx (oPk 5) (oOf (vC (.int 0)))))) (b2 1 bs_law_determinant_4)) n2 [t, none, some (.sh (.int sg)), some (.sh (.int ah)), some (.sh (.int (k : Int))), some (.fr ((pivL n A k).map fun s : Nat => D.int (s : Int))), s5, s6, s7, s8, c] ρ (otM n A) =
      some (.nx [t, none, some (.sh (.int (pvS sg k s))), some (.sh (.int ah)), some (.sh (.int (k : Int))), s4', s5, s6, s7, s8, c] (full2 1 [t, none, some (.sh (.int (pvS sg k s))), some (.sh (.int ah)), some (.sh (.int (k : Int))), s4', s5, s6, s7, s8, c] (otM n (pvA A k s))) (otM n (pvA A k s))) := fun ρ => by
    by_cases z : s = k
    · have ea : pvA A k s = A := if_pos z
      have es : pvS sg k s = sg := if_pos z
      have q1 : (!decide ((s : Int) = (k : Int))) = false := by rw [decide_eq_true (by omega)]; rfl
      rw [ea, es]
      refine ⟨some (.fr ((pivL n A k).map fun s : Nat => D.int (s : Int))), (if2b_F (β' := [t, none, some (.sh (.int sg)), some (.sh (.int ah)), some (.sh (.int (k : Int))), some (.fr ((pivL n A k).map fun s : Nat => D.int (s : Int))), s5, s6, s7, s8, c]) ?_).trans rfl⟩
      generalize (pivL n A k).map (fun s : Nat => D.int (s : Int)) = L at *
      simp_arith only [i0, q1]
    · have ea : pvA A k s = swpA A k s := if_neg z
      have es : pvS sg k s = 0 - sg := if_neg z
      have q1 : (!decide ((s : Int) = (k : Int))) = true := by rw [decide_eq_false (by omega)]; rfl
      rw [ea, es]
      refine ⟨some (.fr ((pivL n A k).map fun s : Nat => D.int (s : Int))), (if2b_T (β' := [t, none, some (.sh (.int sg)), some (.sh (.int ah)), some (.sh (.int (k : Int))), some (.fr ((pivL n A k).map fun s : Nat => D.int (s : Int))), s5, s6, s7, s8, c]) ?_).trans ((seq2_nx (swX_rows (x := 1) (n := n) (k := k) (s := s) (A := A) ?_ ?_ ?_ ?_ hk p2' (fun w => z w.symm))).trans (b2_nx ?_))⟩
      · generalize (pivL n A k).map (fun s : Nat => D.int (s : Int)) = L at *
        simp_arith only [i0, q1]
      · show vI (oOf (vOp2 gIx (oPk 5) (oOf (vC (.int 0))))) _ = _
        unfold vI
        have : (oOf (vOp2 gIx (oPk 5) (oOf (vC (.int 0))))) [t, none, some (.sh (.int sg)), some (.sh (.int ah)), some (.sh (.int (k : Int))), some (.fr ((pivL n A k).map fun s : Nat => D.int (s : Int))), s5, s6, s7, s8, c] = some (.ok (.val (.int (s : Int))) [t, none, some (.sh (.int sg)), some (.sh (.int ah)), some (.sh (.int (k : Int))), some (.fr ((pivL n A k).map fun s : Nat => D.int (s : Int))), s5, s6, s7, s8, c]) := by
          generalize (pivL n A k).map (fun s : Nat => D.int (s : Int)) = L at *
          simp_arith only [i0]
        rw [bnd_ok this]
        rfl
      · rfl
      · rfl
      · unfold vI
        have : (oOf (vOp2 gIx (oPk 5) (oOf (vC (.int 0))))) [t, none, some (.sh (.int sg)), some (.sh (.int ah)), some (.sh (.int (k : Int))), some (.fr ((pivL n A k).map fun s : Nat => D.int (s : Int))), s5, s6, s7, s8, c] = some (.ok (.val (.int (s : Int))) [t, none, some (.sh (.int sg)), some (.sh (.int ah)), some (.sh (.int (k : Int))), some (.fr ((pivL n A k).map fun s : Nat => D.int (s : Int))), s5, s6, s7, s8, c]) := by
          generalize (pivL n A k).map (fun s : Nat => D.int (s : Int)) = L at *
          simp_arith only [i0]
        rw [bnd_ok this]
        rfl
      · generalize (pivL n A k).map (fun s : Nat => D.int (s : Int)) = L at *
        unfold bs_law_determinant_4
        simp_arith only []
  obtain ⟨s4', e3⟩ := e3 (full2 1 [t, none, some (.sh (.int sg)), some (.sh (.int ah)), some (.sh (.int (k : Int))), some (.fr ((pivL n A k).map fun s : Nat => D.int (s : Int))), s5, s6, s7, s8, c] (otM n A))
  obtain ⟨s5', s6', s7', s8', e4⟩ := det_rows (n := n) (k := k) (A := pvA A k s) (ah := ah) (t := t) (s := s4') (sg := some (.sh (.int (pvS sg k s)))) (s5 := s5) (s6 := s6) (s7 := s7) (s8 := s8) (r := c) hn hk m1 m2 dv
  have a2 := mat_at (F := redA (pvA A k s) k ah) hk
  have v2 := vec_at (g := redA (pvA A k s) k ah k) hk
  have w2 : redA (pvA A k s) k ah k k = pvA A k s k k := if_neg (by omega)
  rw [w2] at v2
  have e5 := p2_sv (x := 1) (i := 3) (sv := .sh (.int (pvA A k s k k))) (β := [t, none, some (.sh (.int (pvS sg k s))), some (.sh (.int ah)), some (.sh (.int (k : Int))), s4', s5', s6', s7', s8', c]) (T := otM n (redA (pvA A k s) k ah)) (m := rd_law_determinant_4) (by decide) rfl (by
    show rd_law_determinant_4 [frzO t, some (.sh (otM n (redA (pvA A k s) k ah)).d), some (.sh (.int (pvS sg k s))), some (.sh (.int ah)), some (.sh (.int (k : Int))), frzO s4', frzO s5', frzO s6', frzO s7', frzO s8', frzO c] = some (.nx [frzO t, some (.sh (otM n (redA (pvA A k s) k ah)).d), some (.sh (.int (pvS sg k s))), some (.sh (.int (pvA A k s k k))), some (.sh (.int (k : Int))), frzO s4', frzO s5', frzO s6', frzO s7', frzO s8', frzO c])
    rw [otM_d]
    generalize vecD n (redA (pvA A k s) k ah k) = X at *
    generalize mat n (redA (pvA A k s) k ah) = M at *
    generalize frzO t = Z at *
    generalize pvA A k s k k = z at *
    unfold rd_law_determinant_4
    simp_arith only [a2, v2])
  refine ⟨s4', s5', s6', s7', s8', ?_⟩
  unfold fm_law_determinant_3
  exact (seq2_nx e1).trans ((seq2_nx (b2_nx e2)).trans ((seq2_nx e3).trans ((seq2_nx e4).trans e5)))
/-- a step: there is no pivot -/
theorem det_none {n k : Nat} {A : Nat → Nat → Int} {sg ah : Int} {t s4 s5 s6 s7 s8 c : Option SV} (hn : n ≤ 1000) (hk : k < n) (hp : pivL n A k = []) :
    ∃ β', fm_law_determinant_3 [t, none, some (.sh (.int sg)), some (.sh (.int ah)), some (.sh (.int (k : Int))), s4, s5, s6, s7, s8, c] (full2 1 [t, none, some (.sh (.int sg)), some (.sh (.int ah)), some (.sh (.int (k : Int))), s4, s5, s6, s7, s8, c] (otM n A)) (otM n A) = some (.so (.rt (.sh (.int 0)) β')) := by
  have e1 := det_piv (n := n) (k := k) (A := A) (t := t) (s := s4) (sg := some (.sh (.int sg))) (ah := some (.sh (.int ah))) (s5 := s5) (s6 := s6) (s7 := s7) (s8 := s8) (r := c) hn hk
  have q0 : gEq (.lst ((pivL n A k).map fun s : Nat => D.int (s : Int))) (.lst []) = some (.sh (.bl true)) := by
    rw [eq_nil, hp]
    rfl
  have e2 : bs_law_determinant_3 [t, none, some (.sh (.int sg)), some (.sh (.int ah)), some (.sh (.int (k : Int))), some (.fr ((pivL n A k).map fun s : Nat => D.int (s : Int))), s5, s6, s7, s8, c] = some (.rt (.sh (.int 0)) [t, none, some (.sh (.int sg)), some (.sh (.int ah)), some (.sh (.int (k : Int))), some (.fr ((pivL n A k).map fun s : Nat => D.int (s : Int))), s5, s6, s7, s8, c]) := by
    generalize (pivL n A k).map (fun s : Nat => D.int (s : Int)) = L at *
    unfold bs_law_determinant_3
    simp_arith only [q0]
  refine ⟨[t, none, some (.sh (.int sg)), some (.sh (.int ah)), some (.sh (.int (k : Int))), some (.fr ((pivL n A k).map fun s : Nat => D.int (s : Int))), s5, s6, s7, s8, c], ?_⟩
  unfold fm_law_determinant_3
  exact (seq2_nx e1).trans (seq2_rt (b2_rt e2))
/-! all steps -/
def barR (n : Nat) : Nat → Nat → Int → Int → (Nat → Nat → Int) → Option (Int × (Nat → Nat → Int))
  | 0, _, sg, _, A => some (sg, A)
  | f + 1, k, sg, ah, A => match pivL n A k with
    | [] => none
    | s :: _ => barR n f (k + 1) (pvS sg k s) (pvA A k s k k) (redA (pvA A k s) k ah)
def BarOk (n : Nat) : Nat → Nat → Int → (Nat → Nat → Int) → Prop
  | 0, _, _, _ => True
  | f + 1, k, ah, A => match pivL n A k with
    | [] => True
    | s :: _ => (∀ i j, k < i → i < n → k < j → j < n → Sim.MulOk (pvA A k s i j) (pvA A k s k k)) ∧ (∀ i j, k < i → i < n → k < j → j < n → Sim.MulOk (pvA A k s i k) (pvA A k s k j)) ∧ Sim.DivOk 0 ah ∧ BarOk n f (k + 1) (pvA A k s k k) (redA (pvA A k s) k ah)
theorem rngD_cons {lo : Int} {m : Nat} : rngD lo (m + 1) = .int lo :: rngD (lo + 1) m := by
  unfold rngD
  rw [List.range_succ_eq_map, List.map_cons, List.map_map]
  show D.int (lo + 0) :: _ = _
  rw [Int.add_zero]
  refine congrArg _ (List.map_congr_left fun t _ => ?_)
  show D.int (lo + ((t + 1 : Nat) : Int)) = D.int (lo + 1 + (t : Int))
  congr 1
  omega
theorem det_loop {n : Nat} {t c : Option SV} (hn : n ≤ 1000) : ∀ (f k : Nat) (A : Nat → Nat → Int) (sg ah : Int) (s3 s4 s5 s6 s7 s8 : Option SV), k + f < n ∨ f = 0 → BarOk n f k ah A →
    match barR n f k sg ah A with
    | none => ∃ β', forL2 1 (gN 4) fm_law_determinant_3 (rngD (k : Int) f) [t, none, some (.sh (.int sg)), some (.sh (.int ah)), s3, s4, s5, s6, s7, s8, c] (full2 1 [t, none, some (.sh (.int sg)), some (.sh (.int ah)), s3, s4, s5, s6, s7, s8, c] (otM n A)) (otM n A) = some (.so (.rt (.sh (.int 0)) β'))
    | some (sg', A') => ∃ ah' s3' s4' s5' s6' s7' s8', forL2 1 (gN 4) fm_law_determinant_3 (rngD (k : Int) f) [t, none, some (.sh (.int sg)), some (.sh (.int ah)), s3, s4, s5, s6, s7, s8, c] (full2 1 [t, none, some (.sh (.int sg)), some (.sh (.int ah)), s3, s4, s5, s6, s7, s8, c] (otM n A)) (otM n A) =
        some (.nx [t, none, some (.sh (.int sg')), ah', s3', s4', s5', s6', s7', s8', c] (full2 1 [t, none, some (.sh (.int sg')), ah', s3', s4', s5', s6', s7', s8', c] (otM n A')) (otM n A'))
  | 0, k, A, sg, ah, s3, s4, s5, s6, s7, s8, _, _ => ⟨_, _, _, _, _, _, _, rfl⟩
  | f + 1, k, A, sg, ah, s3, s4, s5, s6, s7, s8, h, ok => by
    have hk : k < n := by omega
    unfold barR
    unfold BarOk at ok
    rw [rngD_cons]
    cases hp : pivL n A k with
    | nil =>
      obtain ⟨β', e⟩ := det_none (sg := sg) (ah := ah) (t := t) (s4 := s4) (s5 := s5) (s6 := s6) (s7 := s7) (s8 := s8) (c := c) hn hk hp
      exact ⟨β', forL2_rt rfl e⟩
    | cons s r =>
      rw [hp] at ok
      obtain ⟨m1, m2, dv, ok⟩ := ok
      obtain ⟨s4', s5', s6', s7', s8', e⟩ := det_step (sg := sg) (ah := ah) (t := t) (s4 := s4) (s5 := s5) (s6 := s6) (s7 := s7) (s8 := s8) (c := c) hn hk hp m1 m2 dv
      have ih := det_loop (t := t) (c := c) hn f (k + 1) (redA (pvA A k s) k ah) (pvS sg k s) (pvA A k s k k) (some (.sh (.int (k : Int)))) s4' s5' s6' s7' s8' (by omega) ok
      have fe : forL2 1 (gN 4) fm_law_determinant_3 (.int (k : Int) :: rngD ((k : Int) + 1) f) [t, none, some (.sh (.int sg)), some (.sh (.int ah)), s3, s4, s5, s6, s7, s8, c] (full2 1 [t, none, some (.sh (.int sg)), some (.sh (.int ah)), s3, s4, s5, s6, s7, s8, c] (otM n A)) (otM n A) =
          forL2 1 (gN 4) fm_law_determinant_3 (rngD (((k + 1 : Nat)) : Int) f) [t, none, some (.sh (.int (pvS sg k s))), some (.sh (.int (pvA A k s k k))), some (.sh (.int (k : Int))), s4', s5', s6', s7', s8', c] (full2 1 [t, none, some (.sh (.int (pvS sg k s))), some (.sh (.int (pvA A k s k k))), some (.sh (.int (k : Int))), s4', s5', s6', s7', s8', c] (otM n (redA (pvA A k s) k ah))) (otM n (redA (pvA A k s) k ah)) := by
        rw [show (((k + 1 : Nat)) : Int) = (k : Int) + 1 by omega]
        exact forL2_nx rfl e
      show match barR n f (k + 1) (pvS sg k s) (pvA A k s k k) (redA (pvA A k s) k ah) with
        | none => _
        | some (sg', A') => _
      cases hb : barR n f (k + 1) (pvS sg k s) (pvA A k s k k) (redA (pvA A k s) k ah) with
      | none =>
        rw [hb] at ih
        obtain ⟨β', e2⟩ := ih
        exact ⟨β', fe.trans e2⟩
      | some q =>
        obtain ⟨sg', A'⟩ := q
        rw [hb] at ih
        obtain ⟨ah', s3', s4', s5', s6', s7', s8', e2⟩ := ih
        exact ⟨ah', s3', s4', s5', s6', s7', s8', fe.trans e2⟩

theorem barR_sg {n : Nat} : ∀ (f k : Nat) (sg ah : Int) (A : Nat → Nat → Int) (q : Int × (Nat → Nat → Int)), barR n f k sg ah A = some q → (sg = 1 ∨ sg = -1) → (q.1 = 1 ∨ q.1 = -1)
  | 0, _, _, _, _, _, h, hs => by
    cases h
    exact hs
  | f + 1, k, sg, ah, A, q, h, hs => by
    unfold barR at h
    cases hp : pivL n A k with
    | nil =>
      rw [hp] at h
      cases h
    | cons s r =>
      rw [hp] at h
      refine barR_sg f _ _ _ _ _ h ?_
      unfold pvS
      split <;> omega
/-- the determinant by steps without parts -/
def barD (n : Nat) (A : Nat → Nat → Int) : Int := match barR n (n - 1) 0 1 1 A with
  | none => 0
  | some (sg, A') => if n = 0 then 1 else sg * A' (n - 1) (n - 1)
theorem lcT_pure {vs : List Nat} {pk : List (Nat × List D)} {g : SV → Sl → Option Sl} {c : M Bool} {elt : M OT} {f : D → OT} {ρ : Sl} (hk : pkOk pk (wipeS ρ vs)) : ∀ (ds : List D) (acc : List OT) (ρ' : Sl), ρ'.length = ρ.length → wipeS ρ' vs = wipeS ρ vs →
    (∀ d ∈ ds, ∃ ρ1, g (.sh d) (wipeS ρ vs) = some ρ1 ∧ ρ1.length = ρ.length ∧ wipeS ρ1 vs = wipeS ρ vs ∧ c ρ1 = some (.ok true ρ1) ∧ elt ρ1 = some (.ok (f d) ρ1)) → acc.length + ds.length ≤ 1000000 →
    ∃ ρ'', lcT vs pk g c elt ds acc ρ' = some (acc ++ ds.map f, ρ'') ∧ ρ''.length = ρ.length ∧ wipeS ρ'' vs = wipeS ρ vs
  | [], acc, ρ', h1, h2, _, _ => by
    refine ⟨ρ', ?_, h1, h2⟩
    unfold lcT
    rw [h2, if_pos hk, List.map_nil, List.append_nil]
  | d :: ds, acc, ρ', h1, h2, h, hl => by
    rw [List.length_cons] at hl
    obtain ⟨ρ1, e1, e2, e3, e4, e5⟩ := h d List.mem_cons_self
    obtain ⟨ρ2, q1, q2, q3⟩ := lcT_pure (f := f) hk ds (acc ++ [f d]) ρ1 e2 e3 (fun d hd => h d (List.mem_cons_of_mem _ hd)) (by rw [List.length_append, List.length_singleton]; omega)
    refine ⟨ρ2, ?_, q2, q3⟩
    unfold lcT
    rw [h2, if_pos ⟨hk, by omega⟩, e1]
    simp only [e4, e5]
    rw [q1, List.append_assoc]
    rfl
theorem vLcT_sh {vs : List Nat} {it : M Itb} {ds : List D} {g : SV → Sl → Option Sl} {c : M Bool} {elt : M OT} {f : D → OT} {ρ ρ0 : Sl} (hi : it ρ0 = some (.ok ⟨ds, []⟩ ρ)) (hn : noFr ρ vs)
    (h : ∀ d ∈ ds, ∃ ρ1, g (.sh d) (wipeS ρ vs) = some ρ1 ∧ ρ1.length = ρ.length ∧ wipeS ρ1 vs = wipeS ρ vs ∧ c ρ1 = some (.ok true ρ1) ∧ elt ρ1 = some (.ok (f d) ρ1)) (hl : ds.length ≤ 1000000) :
    vLcT vs it g c elt ρ0 = some (.ok (.nd (ds.map f)) ρ) := by
  have nq : ∀ q ∈ ([] : List (Nat × List D)), q.1 ∉ vs := fun _ h => nomatch h
  have np : pkOk [] ρ := fun _ h => nomatch h
  obtain ⟨ρ2, e1, e2, e3⟩ := lcT_pure (vs := vs) (pk := []) (g := g) (c := c) (elt := elt) (f := f) (ρ := ρ) (fun _ h => nomatch h) ds [] ρ rfl rfl h (by rw [List.length_nil]; omega)
  unfold vLcT
  rw [bnd_ok hi]
  refine (if_pos ⟨hn, nq, np⟩).trans ?_
  show (lcT vs [] g c elt ds [] ρ).map (fun r => Out.ok (OT.nd r.1) (restS ρ r.2 vs)) = _
  rw [e1, Option.map_some, rest_wipe e2 e3]
  rfl
theorem bg2_so {x : Nat} {f : M OT} {m : M2} {ρ ρ1 : Sl} {T : OT} {o : SO} (h1 : f ρ = some (.ok T ρ1)) (hl : x < ρ1.length) (h2 : m (ρ1.set x none) (full2 x (ρ1.set x none) T) T = some (.so o)) : bg2 x f m ρ = some o := by
  unfold bg2 sEx
  rw [h1]
  refine (if_pos hl).trans ?_
  unfold bgK
  rw [h2]
theorem e2_rt {x n : Nat} {A : Nat → Nat → Int} {m : SM} {β ρ : Sl} {o : SO} (h : m (β.set x (some (.fr (mat n A)))) = some o) : e2 x m β ρ (otM n A) = some (.so o) := by
  have e := otM_d (n := n) (A := A)
  unfold otM OT.d at e
  have e := D.lst.inj e
  unfold e2 otM
  simp only
  rw [e, h]
  rfl
def rowT : D → OT
  | .lst l => .nd (otsh l)
  | d => .sh d
theorem otsh_map {α : Type} (f : α → D) : ∀ l : List α, otsh (l.map f) = l.map fun a => OT.sh (f a)
  | [] => rfl
  | a :: l => by
    rw [List.map_cons, List.map_cons, ← otsh_map f l]
    rfl
theorem rowT_mat {n : Nat} {A : Nat → Nat → Int} : OT.nd ((mat n A).map rowT) = otM n A := by
  unfold mat otM otR
  rw [List.map_map]
  refine congrArg OT.nd (List.map_congr_left fun i _ => ?_)
  show OT.nd (otsh (vecD n (A i))) = _
  unfold vecD vec
  rw [List.map_map, otsh_map]
  rfl
theorem okPy_mat (n : Nat) (A : Nat → Nat → Int) : okPy (.lst (mat n A)) = true := by
  have tl : ∀ t : List Int, PyData.canLayAll0 (toPyL (t.map .int)) = true ∧ PyData.depthAll (toPyL (t.map .int)) ≤ 0 := fun t => okPy_all (k := 0) (by decide) (by
    intro d hd
    obtain ⟨x, _, rfl⟩ := List.mem_map.mp hd
    exact ⟨rfl, Nat.le_refl 0⟩)
  have h := okPy_all (k := 1) (by decide) (l := mat n A) (by
    intro d hd
    obtain ⟨i, _, rfl⟩ := List.mem_map.mp hd
    refine ⟨(tl _).1, ?_⟩
    have := (tl (vec n (A i))).2
    show PyData.depthAll (toPyL ((vec n (A i)).map .int)) + 1 ≤ 1
    omega)
  refine okPy_of h.1 ?_
  have := h.2
  show PyData.depthAll (toPyL (mat n A)) + 1 ≤ 64
  omega
theorem mat_snoc {m : Nat} {A : Nat → Nat → Int} : mat (m + 1) A = ((List.range m).map fun i => D.lst (vecD (m + 1) (A i))) ++ [.lst (vecD (m + 1) (A m))] := by
  unfold mat
  rw [List.range_succ, List.map_append]
  rfl
theorem vec_last {m : Nat} {r : Nat → Int} : gIx (.lst (vecD (m + 1) r)) (.int (-1)) = some (.sh (.int (r m))) := by
  have : vecD (m + 1) r = ((List.range m).map fun i => D.int (r i)) ++ [D.int (r m)] := by
    unfold vecD vec
    rw [List.map_map, List.range_succ, List.map_append]
    rfl
  rw [this]
  show (atI _ (-1)).map SV.sh = _
  rw [atI_last]
  rfl
theorem mat_last {m : Nat} {A : Nat → Nat → Int} : gIx (.lst (mat (m + 1) A)) (.int (-1)) = some (.sh (.lst (vecD (m + 1) (A m)))) := by
  rw [mat_snoc]
  show (atI _ (-1)).map SV.sh = _
  rw [atI_last]
  rfl

theorem det_end {n : Nat} {A : Nat → Nat → Int} {sg : Int} {t ah s3 s4 s5 s6 s7 s8 c : Option SV} (hs : sg = 1 ∨ sg = -1) :
    ∃ β', (sSeq (sIf (tst (vOp2 gEq (oPk 1) (oOf (vLst aNil)))) (sRet (vC (.int 1))) sNx) (sRet (vOp2 gMul (oPk 2) (oOf (vOp2 gIx (oOf (vOp2 gIx (oPk 1) (oOf (vOp1 gNeg (oOf (vC (.int 1))))))) (oOf (vOp1 gNeg (oOf (vC (.int 1)))))))))) [t, some (.fr (mat n A)), some (.sh (.int sg)), ah, s3, s4, s5, s6, s7, s8, c] = some (.rt (.sh (.int (if n = 0 then 1 else sg * A (n - 1) (n - 1)))) β') := by
  refine ⟨[t, some (.fr (mat n A)), some (.sh (.int sg)), ah, s3, s4, s5, s6, s7, s8, c], ?_⟩
  cases n with
  | zero =>
    rw [if_pos rfl]
    have q : gEq (.lst (mat 0 A)) (.lst []) = some (.sh (.bl true)) := rfl
    generalize mat 0 A = M at *
    simp_arith only [q]
  | succ m =>
    rw [if_neg (by omega), show m + 1 - 1 = m by omega]
    have q : gEq (.lst (mat (m + 1) A)) (.lst []) = some (.sh (.bl false)) := by
      show (if okPy (.lst (mat (m + 1) A)) = true ∧ okPy (.lst []) = true then some (SV.sh (.bl (eqD (.lst (mat (m + 1) A)) (.lst [])))) else none) = _
      rw [if_pos ⟨okPy_mat _ _, rfl⟩]
      unfold mat
      rw [List.range_succ_eq_map, List.map_cons]
      rfl
    have l1 := mat_last (m := m) (A := A)
    have l2 := vec_last (m := m) (r := A m)
    have mo : Sim.MulOk sg (A m m) := mulOk_l' (by omega) (by omega)
    generalize vecD (m + 1) (A m) = X at *
    generalize mat (m + 1) A = M at *
    simp_arith only [q, l1, l2, mo]
theorem det_x {n : Nat} {A : Nat → Nat → Int} (hn : n ≤ 1000) (ok : BarOk n (n - 1) 0 1 A) : phi_law_determinant [.lst (mat n A)] = some (.ret (.sh (.int (barD n A))) []) := by
  have e0 : vLcT [10] (iLs (oOf (vVar 0))) (gN 10) lc_law_determinant_1 le_law_determinant_1 [some (.sh (.lst (mat n A))), none, none, none, none, none, none, none, none, none, none] = some (.ok (otM n A) [some (.sh (.lst (mat n A))), none, none, none, none, none, none, none, none, none, none]) := by
    rw [← rowT_mat]
    refine vLcT_sh (vs := [10]) (ds := mat n A) (ρ := [some (.sh (.lst (mat n A))), none, none, none, none, none, none, none, none, none, none]) ?_ (noFr1 rfl) (fun d hd => ?_) (by rw [mat_len]; omega)
    · generalize mat n A = M
      simp_arith only []
    · obtain ⟨i, _, rfl⟩ := List.mem_map.mp hd
      exact ⟨[some (.sh (.lst (mat n A))), none, none, none, none, none, none, none, none, none, some (.sh (.lst (vecD n (A i))))], rfl, rfl, rfl, rfl, rfl⟩
  have key : ∃ β', t2_law_determinant_1 [some (.sh (.lst (mat n A))), none, none, none, none, none, none, none, none, none, none] (full2 1 [some (.sh (.lst (mat n A))), none, none, none, none, none, none, none, none, none, none] (otM n A)) (otM n A) = some (.so (.rt (.sh (.int (barD n A))) β')) := by
    have b1 : bs_law_determinant_1 [some (.sh (.lst (mat n A))), none, none, none, none, none, none, none, none, none, none] = some (.nx [some (.sh (.lst (mat n A))), none, some (.sh (.int 1)), none, none, none, none, none, none, none, none]) := rfl
    have b2 : bs_law_determinant_2 [some (.sh (.lst (mat n A))), none, some (.sh (.int 1)), none, none, none, none, none, none, none, none] = some (.nx [some (.sh (.lst (mat n A))), none, some (.sh (.int 1)), some (.sh (.int 1)), none, none, none, none, none, none, none]) := rfl
    have it : iR1 (aCons (oOf (vOp2 Sim.gSub (oOf (vBi gLen (aCons (oPk 1) aNil))) (oOf (vC (.int 1))))) aNil) (full2 1 [some (.sh (.lst (mat n A))), none, some (.sh (.int 1)), some (.sh (.int 1)), none, none, none, none, none, none, none] (otM n A)) = some (.ok ⟨rngD 0 (n - 1), []⟩ (full2 1 [some (.sh (.lst (mat n A))), none, some (.sh (.int 1)), some (.sh (.int 1)), none, none, none, none, none, none, none] (otM n A))) := by
      show iR1 _ [some (.sh (.lst (mat n A))), some (.sh (otM n A).d), some (.sh (.int 1)), some (.sh (.int 1)), none, none, none, none, none, none, none] = some (.ok ⟨rngD 0 (n - 1), []⟩ [some (.sh (.lst (mat n A))), some (.sh (otM n A).d), some (.sh (.int 1)), some (.sh (.int 1)), none, none, none, none, none, none, none])
      rw [otM_d]
      have ml : ((mat n A).length : Int) = (n : Nat) := by rw [mat_len]
      have r1 : RngOk ((n : Int) - 1) := rng_small (by omega) (by omega)
      have tn : ((n : Int) - 1).toNat = n - 1 := by omega
      generalize mat n A = M at *
      simp_arith only [ml, r1, tn]
    have lp := det_loop (n := n) (t := some (.sh (.lst (mat n A)))) (c := none) hn (n - 1) 0 A 1 1 none none none none none none (by omega) ok
    have st : ∀ r, forL2 1 (gN 4) fm_law_determinant_3 (rngD ((0 : Nat) : Int) (n - 1)) [some (.sh (.lst (mat n A))), none, some (.sh (.int 1)), some (.sh (.int 1)), none, none, none, none, none, none, none] (full2 1 [some (.sh (.lst (mat n A))), none, some (.sh (.int 1)), some (.sh (.int 1)), none, none, none, none, none, none, none] (otM n A)) (otM n A) = r →
        for2r 1 (iR1 (aCons (oOf (vOp2 Sim.gSub (oOf (vBi gLen (aCons (oPk 1) aNil))) (oOf (vC (.int 1))))) aNil)) (gN 4) fm_law_determinant_3 [some (.sh (.lst (mat n A))), none, some (.sh (.int 1)), some (.sh (.int 1)), none, none, none, none, none, none, none] (full2 1 [some (.sh (.lst (mat n A))), none, some (.sh (.int 1)), some (.sh (.int 1)), none, none, none, none, none, none, none] (otM n A)) (otM n A) = r := fun r h => (for2r_x it).trans h
    unfold t2_law_determinant_1
    unfold barD
    cases hb : barR n (n - 1) 0 1 1 A with
    | none =>
      rw [hb] at lp
      obtain ⟨β', e⟩ := lp
      exact ⟨β', (seq2_nx (b2_nx b1)).trans ((seq2_nx (b2_nx b2)).trans (seq2_rt (st _ e)))⟩
    | some q =>
      obtain ⟨sg, A'⟩ := q
      rw [hb] at lp
      obtain ⟨ah', s3', s4', s5', s6', s7', s8', e⟩ := lp
      obtain ⟨β', e3⟩ := det_end (n := n) (A := A') (sg := sg) (t := some (.sh (.lst (mat n A)))) (ah := ah') (s3 := s3') (s4 := s4') (s5 := s5') (s6 := s6') (s7 := s7') (s8 := s8') (c := none) (barR_sg _ _ _ _ _ _ hb (.inl rfl))
      exact ⟨β', (seq2_nx (b2_nx b1)).trans ((seq2_nx (b2_nx b2)).trans ((seq2_nx (st _ e)).trans (e2_rt e3)))⟩
  obtain ⟨β', key⟩ := key
  have b := bg2_so (x := 1) e0 (by decide : 1 < 11) key
  show (match b_law_determinant [some (.sh (.lst (mat n A))), none, none, none, none, none, none, none, none, none, none] with
    | some (.nx ρ) => (outS none ρ).map (CR.ret (.sh .non))
    | some (.rt sv ρ) => (outS none ρ).map (CR.ret sv)
    | some (.ex c ρ) => (outS none ρ).map (CR.exc c)
    | _ => none) = _
  unfold b_law_determinant
  rw [b]
  rfl
theorem dix1 {l : List D} {c : Int} {m : Int} (h : 0 < l.length) (hm : ((l.length : Nat) : Int) = m) : ∃ z ∈ l, gIx (.lst l) (.int (c % m)) = some (.sh z) := by
  subst hm
  have h1 := Int.emod_nonneg c (b := ((l.length : Nat) : Int)) (by omega)
  have h2 := Int.emod_lt_of_pos c (b := ((l.length : Nat) : Int)) (by omega)
  obtain ⟨j, hj⟩ := Int.eq_ofNat_of_zero_le h1
  have hl : j < l.length := by omega
  refine ⟨l[j], List.getElem_mem hl, ?_⟩
  show (atI l _).map SV.sh = _
  rw [hj, atI_nat (List.getElem?_eq_getElem hl)]
  rfl
theorem pow9 : gPow (.int 10) (.int 9) = some (.sh (.int 1000000000)) := pw (n := 9) (by decide) (by decide)
theorem pow30 : gPow (.int 10) (.int 30) = some (.sh (.int 1000000000000000000000000000000)) := pw (n := 30) (by decide) (by decide)
theorem whole_ok {n : Int} : phi_law_whole [.int n] = some (.ret (.sh (.bl true)) []) := by
  unfold phi_law_whole b_law_whole
  simp_arith only []
/-! determinants by columns, over any commutative ring -/
section
variable {R : Type} [Lean.Grind.CommRing R]
def dtSh (r : Nat → R) : Nat → R := fun j => r (j + 1)
def dtP : (List (Nat → R) → R) → List (Nat → R) → R
  | _, [] => 0
  | f, r :: rs => r 0 * f rs - dtP (fun l => f (r :: l)) rs
def dtD : Nat → List (Nat → R) → R
  | 0, l => match l with
    | [] => 1
    | _ :: _ => 0
  | n + 1, l => dtP (fun l => dtD n (l.map dtSh)) l
theorem dtP_zero : ∀ l : List (Nat → R), dtP (fun _ => (0 : R)) l = 0
  | [] => rfl
  | r :: rs => by
    show r 0 * 0 - dtP (fun _ => (0 : R)) rs = 0
    rw [dtP_zero rs]
    grind
theorem dtP_neg : ∀ (f : List (Nat → R) → R) (l : List (Nat → R)), dtP (fun l => - f l) l = - dtP f l
  | _, [] => by
    show (0 : R) = - 0
    grind
  | f, r :: rs => by
    show r 0 * (- f rs) - dtP (fun l => - f (r :: l)) rs = - (r 0 * f rs - dtP (fun l => f (r :: l)) rs)
    rw [dtP_neg (fun l => f (r :: l)) rs]
    grind
theorem dtP_lin (x y : R) : ∀ (f g : List (Nat → R) → R) (l : List (Nat → R)), dtP (fun l => x * f l + y * g l) l = x * dtP f l + y * dtP g l
  | _, _, [] => by
    show (0 : R) = x * 0 + y * 0
    grind
  | f, g, r :: rs => by
    show r 0 * (x * f rs + y * g rs) - dtP (fun l => x * f (r :: l) + y * g (r :: l)) rs = x * (r 0 * f rs - dtP (fun l => f (r :: l)) rs) + y * (r 0 * g rs - dtP (fun l => g (r :: l)) rs)
    rw [dtP_lin x y (fun l => f (r :: l)) (fun l => g (r :: l)) rs]
    grind
/-- two neighbours exchanged -/
def dtAlt (f : List (Nat → R) → R) : Prop := ∀ a u v b, f (a ++ u :: v :: b) = - f (a ++ v :: u :: b)
theorem dtP_alt : ∀ (a : List (Nat → R)) (f : List (Nat → R) → R) (u v : Nat → R) (b : List (Nat → R)), dtAlt f → dtP f (a ++ u :: v :: b) = - dtP f (a ++ v :: u :: b)
  | [], f, u, v, b, h => by
    show u 0 * f (v :: b) - (v 0 * f (u :: b) - dtP (fun l => f (u :: v :: l)) b) = - (v 0 * f (u :: b) - (u 0 * f (v :: b) - dtP (fun l => f (v :: u :: l)) b))
    have e : (fun l => f (u :: v :: l)) = fun l => - f (v :: u :: l) := funext fun l => h [] u v l
    rw [e, dtP_neg]
    grind
  | r :: a, f, u, v, b, h => by
    show r 0 * f (a ++ u :: v :: b) - dtP (fun l => f (r :: l)) (a ++ u :: v :: b) = - (r 0 * f (a ++ v :: u :: b) - dtP (fun l => f (r :: l)) (a ++ v :: u :: b))
    rw [dtP_alt a (fun l => f (r :: l)) u v b fun a u v b => h (r :: a) u v b, h a u v b]
    grind
theorem dtD_alt : ∀ n, dtAlt (dtD (R := R) n)
  | 0, a, u, v, b => by
    have z : ∀ (a : List (Nat → R)) (w : Nat → R) (b : List (Nat → R)), dtD 0 (a ++ w :: b) = (0 : R) := fun a w b => by cases a <;> rfl
    rw [z, z]
    grind
  | n + 1, a, u, v, b => dtP_alt a _ u v b fun a u v b => by
    rw [List.map_append, List.map_append]
    exact dtD_alt n (a.map dtSh) (dtSh u) (dtSh v) (b.map dtSh)
/-- two like neighbours -/
def dtEq0 (f : List (Nat → R) → R) : Prop := ∀ a u b, f (a ++ u :: u :: b) = 0
theorem dtP_eq0 : ∀ (a : List (Nat → R)) (f : List (Nat → R) → R) (u : Nat → R) (b : List (Nat → R)), dtEq0 f → dtP f (a ++ u :: u :: b) = 0
  | [], f, u, b, h => by
    show u 0 * f (u :: b) - (u 0 * f (u :: b) - dtP (fun l => f (u :: u :: l)) b) = 0
    have e : (fun l => f (u :: u :: l)) = fun _ => 0 := funext fun l => h [] u l
    rw [e, dtP_zero]
    grind
  | r :: a, f, u, b, h => by
    show r 0 * f (a ++ u :: u :: b) - dtP (fun l => f (r :: l)) (a ++ u :: u :: b) = 0
    rw [dtP_eq0 a (fun l => f (r :: l)) u b fun a u b => h (r :: a) u b, h a u b]
    grind
theorem dtD_eq0 : ∀ n, dtEq0 (dtD (R := R) n)
  | 0, a, u, b => by cases a <;> rfl
  | n + 1, a, u, b => dtP_eq0 a _ u b fun a u b => by
    rw [List.map_append]
    exact dtD_eq0 n (a.map dtSh) (dtSh u) (b.map dtSh)
theorem dtD_eqr {n : Nat} (a : List (Nat → R)) (u : Nat → R) (b : List (Nat → R)) : ∀ m : List (Nat → R), dtD n (a ++ u :: (m ++ u :: b)) = 0
  | [] => dtD_eq0 n a u b
  | v :: m => by
    have e := dtD_alt (R := R) n a u v (m ++ u :: b)
    have ih := dtD_eqr (n := n) (a ++ [v]) u b m
    rw [List.append_assoc] at ih
    show dtD n (a ++ u :: v :: (m ++ u :: b)) = 0
    have ih : dtD n (a ++ v :: u :: (m ++ u :: b)) = 0 := ih
    rw [e, ih]
    grind
/-- a row exchanged with one further down -/
theorem dtD_swap {n : Nat} (a : List (Nat → R)) (u v : Nat → R) (b : List (Nat → R)) : ∀ m : List (Nat → R), dtD n (a ++ u :: (m ++ v :: b)) = - dtD n (a ++ v :: (m ++ u :: b))
  | [] => dtD_alt n a u v b
  | w :: m => by
    have e1 := dtD_alt (R := R) n a u w (m ++ v :: b)
    have ih := dtD_swap (n := n) (a ++ [w]) u v b m
    rw [List.append_assoc, List.append_assoc] at ih
    have ih : dtD n (a ++ w :: u :: (m ++ v :: b)) = - dtD n (a ++ w :: v :: (m ++ u :: b)) := ih
    have e2 := dtD_alt (R := R) n a w v (m ++ u :: b)
    show dtD n (a ++ u :: w :: (m ++ v :: b)) = - dtD n (a ++ v :: w :: (m ++ u :: b))
    rw [e1, ih, e2]
    grind
/-- linear in each row -/
def dtLin (f : List (Nat → R) → R) : Prop := ∀ (x y : R) a u w b, f (a ++ (fun j => x * u j + y * w j) :: b) = x * f (a ++ u :: b) + y * f (a ++ w :: b)
theorem dtP_lin2 (x y : R) : ∀ (a : List (Nat → R)) (f : List (Nat → R) → R) (u w : Nat → R) (b : List (Nat → R)), dtLin f → dtP f (a ++ (fun j => x * u j + y * w j) :: b) = x * dtP f (a ++ u :: b) + y * dtP f (a ++ w :: b)
  | [], f, u, w, b, h => by
    show (x * u 0 + y * w 0) * f b - dtP (fun l => f ((fun j => x * u j + y * w j) :: l)) b = x * (u 0 * f b - dtP (fun l => f (u :: l)) b) + y * (w 0 * f b - dtP (fun l => f (w :: l)) b)
    have e : (fun l => f ((fun j => x * u j + y * w j) :: l)) = fun l => x * f (u :: l) + y * f (w :: l) := funext fun l => h x y [] u w l
    rw [e, dtP_lin]
    grind
  | r :: a, f, u, w, b, h => by
    show r 0 * f (a ++ (fun j => x * u j + y * w j) :: b) - dtP (fun l => f (r :: l)) (a ++ (fun j => x * u j + y * w j) :: b) = x * (r 0 * f (a ++ u :: b) - dtP (fun l => f (r :: l)) (a ++ u :: b)) + y * (r 0 * f (a ++ w :: b) - dtP (fun l => f (r :: l)) (a ++ w :: b))
    rw [dtP_lin2 x y a (fun l => f (r :: l)) u w b fun x y a u w b => h x y (r :: a) u w b, h x y a u w b]
    grind
theorem dtD_lin : ∀ n, dtLin (dtD (R := R) n)
  | 0, x, y, a, u, w, b => by
    have z : ∀ (a : List (Nat → R)) (w : Nat → R) (b : List (Nat → R)), dtD 0 (a ++ w :: b) = (0 : R) := fun a w b => by cases a <;> rfl
    rw [z, z, z]
    grind
  | n + 1, x, y, a, u, w, b => dtP_lin2 x y a _ u w b fun x y a u w b => by
    simp only [List.map_append]
    exact dtD_lin n x y (a.map dtSh) (dtSh u) (dtSh w) (b.map dtSh)
theorem dtD_zrow {n : Nat} (a b : List (Nat → R)) : dtD n (a ++ (fun _ => 0) :: b) = (0 : R) := by
  have e := dtD_lin (R := R) n 0 0 a (fun _ => 0) (fun _ => 0) b
  have f : (fun _ : Nat => (0 : R)) = fun j => 0 * (fun _ : Nat => (0 : R)) j + 0 * (fun _ : Nat => (0 : R)) j := by
    funext j
    grind
  rw [← f] at e
  rw [e]
  grind
theorem dtD_scl {n : Nat} (x : R) (a : List (Nat → R)) (u : Nat → R) (b : List (Nat → R)) : dtD n (a ++ (fun j => x * u j) :: b) = x * dtD n (a ++ u :: b) := by
  have e := dtD_lin (R := R) n x 0 a u u b
  have f : (fun j => x * u j + 0 * u j) = fun j => x * u j := by
    funext j
    grind
  rw [f] at e
  rw [e]
  grind
/-- the first column is clear below -/
theorem dtP_clr : ∀ (f : List (Nat → R) → R) (l : List (Nat → R)), (∀ r ∈ l, r 0 = 0) → dtP f l = 0
  | _, [], _ => rfl
  | f, r :: rs, h => by
    show r 0 * f rs - dtP (fun l => f (r :: l)) rs = 0
    rw [dtP_clr (fun l => f (r :: l)) rs fun x hx => h x (List.mem_cons_of_mem _ hx), h r List.mem_cons_self]
    grind
/-- sums of a few -/
def dtS (n : Nat) (f : Nat → R) : R := match n with
  | 0 => 0
  | n + 1 => dtS n f + f n
theorem dtS_congr {f g : Nat → R} : ∀ n, (∀ i, i < n → f i = g i) → dtS n f = dtS n g
  | 0, _ => rfl
  | n + 1, h => by
    show dtS n f + f n = dtS n g + g n
    rw [dtS_congr n fun i hi => h i (Nat.lt_succ_of_lt hi), h n (Nat.lt_succ_self n)]
theorem dtS_add (f g : Nat → R) : ∀ n, dtS n (fun i => f i + g i) = dtS n f + dtS n g
  | 0 => by
    show (0 : R) = 0 + 0
    grind
  | n + 1 => by
    show dtS n (fun i => f i + g i) + (f n + g n) = (dtS n f + f n) + (dtS n g + g n)
    rw [dtS_add f g n]
    grind
theorem dtS_mul (c : R) (f : Nat → R) : ∀ n, dtS n (fun i => c * f i) = c * dtS n f
  | 0 => by
    show (0 : R) = c * 0
    grind
  | n + 1 => by
    show dtS n (fun i => c * f i) + c * f n = c * (dtS n f + f n)
    rw [dtS_mul c f n]
    grind
theorem dtS_zero {f : Nat → R} : ∀ n, (∀ i, i < n → f i = 0) → dtS n f = 0
  | 0, _ => rfl
  | n + 1, h => by
    show dtS n f + f n = 0
    rw [dtS_zero n fun i hi => h i (Nat.lt_succ_of_lt hi), h n (Nat.lt_succ_self n)]
    grind
theorem dtS_one {f : Nat → R} {k : Nat} : ∀ n, k < n → (∀ i, i < n → i ≠ k → f i = 0) → dtS n f = f k
  | 0, h, _ => by omega
  | n + 1, h, g => by
    show dtS n f + f n = f k
    by_cases e : k = n
    · subst e
      rw [dtS_zero k fun i hi => g i (by omega) (by omega)]
      grind
    · rw [dtS_one n (by omega) fun i hi => g i (by omega), g n (by omega) (by omega)]
      grind
def dtE (j : Nat) : Nat → R := fun i => if i = j then 1 else 0
theorem dtD_sum {n : Nat} (a : List (Nat → R)) (u : Nat → Nat → R) (c : Nat → R) (b : List (Nat → R)) : ∀ m, dtD n (a ++ (fun j => dtS m fun i => c i * u i j) :: b) = dtS m fun i => c i * dtD n (a ++ u i :: b)
  | 0 => dtD_zrow a b
  | m + 1 => by
    have e := dtD_lin (R := R) n 1 (c m) a (fun j => dtS m fun i => c i * u i j) (u m) b
    have f : (fun j => 1 * (fun j => dtS m fun i => c i * u i j) j + c m * u m j) = fun j => dtS (m + 1) fun i => c i * u i j := by
      funext j
      show 1 * dtS m (fun i => c i * u i j) + c m * u m j = dtS m (fun i => c i * u i j) + c m * u m j
      grind
    rw [f, dtD_sum a u c b m] at e
    rw [e]
    show 1 * dtS m (fun i => c i * dtD n (a ++ u i :: b)) + c m * dtD n (a ++ u m :: b) = dtS m (fun i => c i * dtD n (a ++ u i :: b)) + c m * dtD n (a ++ u m :: b)
    grind
/-- rows of a table, cut to its width -/
def dtR (n : Nat) (M : Nat → R) : Nat → R := fun j => if j < n then M j else 0
theorem dtR_sum {n : Nat} {M : Nat → R} : dtR n M = fun j => dtS n fun i => M i * dtE i j := by
  funext j
  unfold dtR
  by_cases h : j < n
  · rw [if_pos h, dtS_one (k := j) n h]
    · unfold dtE
      rw [if_pos rfl]
      grind
    · intro i hi hne
      unfold dtE
      rw [if_neg fun e => hne e.symm]
      grind
  · rw [if_neg h, dtS_zero]
    intro i hi
    unfold dtE
    rw [if_neg (by omega)]
    grind
def dtM (n : Nat) (M : Nat → Nat → R) : List (Nat → R) := (List.range n).map fun i => dtR n (M i)
theorem dtM_len {n : Nat} {M : Nat → Nat → R} : (dtM n M).length = n := by
  unfold dtM
  rw [List.length_map, List.length_range]
theorem dtM_get {n i : Nat} {M : Nat → Nat → R} (h : i < n) : (dtM n M)[i]? = some (dtR n (M i)) := by
  unfold dtM
  rw [List.getElem?_map, List.getElem?_range h]
  rfl
/-- a list with one of it replaced -/
theorem dt_spl {α : Type} : ∀ {l : List α} {i : Nat} {x : α}, l[i]? = some x → ∃ a b, l = a ++ x :: b ∧ a.length = i ∧ ∀ y, l.set i y = a ++ y :: b
  | [], i, x, h => by cases i <;> cases h
  | z :: l, 0, x, h => by
    cases h
    exact ⟨[], l, rfl, rfl, fun y => rfl⟩
  | z :: l, i + 1, x, h => by
    obtain ⟨a, b, e, hl, hs⟩ := dt_spl (l := l) (i := i) (x := x) h
    exact ⟨z :: a, b, by rw [e]; rfl, by rw [List.length_cons, hl], fun y => by
      show z :: l.set i y = _
      rw [hs y]
      rfl⟩
theorem dt_two {α : Type} {l : List α} {i k : Nat} {x y : α} (h1 : l[i]? = some x) (h2 : l[k]? = some y) (h : i < k) : ∃ a m b, l = a ++ x :: (m ++ y :: b) ∧ (∀ z, l.set k z = a ++ x :: (m ++ z :: b)) ∧ (∀ z, l.set i z = a ++ z :: (m ++ y :: b)) := by
  obtain ⟨a, b, e, hl, hs⟩ := dt_spl h1
  have g : b[k - i - 1]? = some y := by
    rw [e, List.getElem?_append_right (by omega), hl] at h2
    rw [show k - i = (k - i - 1) + 1 by omega, List.getElem?_cons_succ] at h2
    exact h2
  obtain ⟨m, c, e2, hl2, hs2⟩ := dt_spl g
  refine ⟨a, m, c, by rw [e, e2], fun z => ?_, fun z => by rw [hs z, e2]⟩
  rw [e, List.set_append_right _ _ (by omega), hl, show k - i = (k - i - 1) + 1 by omega, List.set_cons_succ, hs2 z]
/-- the cofactors -/
def dtC (n : Nat) (M : Nat → Nat → R) (k j : Nat) : R := dtD n ((dtM n M).set k (dtE j))
theorem dt_adj {n i k : Nat} {M : Nat → Nat → R} (hi : i < n) (hk : k < n) : dtS n (fun j => M i j * dtC n M k j) = if i = k then dtD n (dtM n M) else 0 := by
  obtain ⟨a, b, e, hl, hs⟩ := dt_spl (dtM_get (M := M) hk)
  have key : dtS n (fun j => M i j * dtC n M k j) = dtD n ((dtM n M).set k (dtR n (M i))) := by
    rw [hs, dtR_sum, dtD_sum]
    exact dtS_congr n fun j _ => by
      unfold dtC
      rw [hs]
  rw [key]
  by_cases c : i = k
  · subst c
    rw [if_pos rfl, hs, ← e]
  · rw [if_neg c]
    rcases Nat.lt_or_ge i k with q | q
    · obtain ⟨a, m, b, e, h1, _⟩ := dt_two (dtM_get (M := M) hi) (dtM_get (M := M) hk) q
      rw [h1]
      exact dtD_eqr a _ b m
    · obtain ⟨a, m, b, e, _, h2⟩ := dt_two (dtM_get (M := M) hk) (dtM_get (M := M) hi) (by omega)
      rw [h2]
      exact dtD_eqr a _ b m
/-- derivations -/
structure dtDer (δ : R → R) : Prop where
  add : ∀ x y, δ (x + y) = δ x + δ y
  mul : ∀ x y, δ (x * y) = δ x * y + x * δ y
def dtW (δ : R → R) : (List (Nat → R) → R) → List (Nat → R) → R
  | _, [] => 0
  | f, r :: rs => f ((fun j => δ (r j)) :: rs) + dtW δ (fun l => f (r :: l)) rs
theorem dtDer.zero {δ : R → R} (h : dtDer δ) : δ 0 = 0 := by
  have e := h.add 0 0
  have : (0 : R) + 0 = 0 := by grind
  rw [this] at e
  grind
theorem dtDer.one {δ : R → R} (h : dtDer δ) : δ 1 = 0 := by
  have e := h.mul 1 1
  have : (1 : R) * 1 = 1 := by grind
  rw [this] at e
  grind
theorem dtDer.sub {δ : R → R} (h : dtDer δ) (x y : R) : δ (x - y) = δ x - δ y := by
  have e := h.add (x - y) y
  have : x - y + y = x := by grind
  rw [this] at e
  grind
theorem dtW_lin {δ : R → R} (x y : R) : ∀ (f g : List (Nat → R) → R) (l : List (Nat → R)), dtW δ (fun l => x * f l + y * g l) l = x * dtW δ f l + y * dtW δ g l
  | _, _, [] => by
    show (0 : R) = x * 0 + y * 0
    grind
  | f, g, r :: rs => by
    show x * f ((fun j => δ (r j)) :: rs) + y * g ((fun j => δ (r j)) :: rs) + dtW δ (fun l => x * f (r :: l) + y * g (r :: l)) rs = x * (f ((fun j => δ (r j)) :: rs) + dtW δ (fun l => f (r :: l)) rs) + y * (g ((fun j => δ (r j)) :: rs) + dtW δ (fun l => g (r :: l)) rs)
    rw [dtW_lin x y (fun l => f (r :: l)) (fun l => g (r :: l)) rs]
    grind
theorem dtP_der {δ : R → R} (h : dtDer δ) : ∀ (l : List (Nat → R)) (f g : List (Nat → R) → R), (∀ l, δ (f l) = g l + dtW δ f l) → δ (dtP f l) = dtP g l + dtW δ (dtP f) l
  | [], f, g, _ => by
    show δ 0 = 0 + 0
    rw [h.zero]
    grind
  | r :: rs, f, g, hf => by
    have ih := dtP_der h rs (fun l => f (r :: l)) (fun l => 1 * g (r :: l) + 1 * f ((fun j => δ (r j)) :: l)) (fun l => by
      have e : δ (f (r :: l)) = g (r :: l) + (f ((fun j => δ (r j)) :: l) + dtW δ (fun l => f (r :: l)) l) := hf (r :: l)
      rw [e]
      grind)
    rw [dtP_lin] at ih
    have e1 : δ (dtP f (r :: rs)) = δ (r 0 * f rs - dtP (fun l => f (r :: l)) rs) := rfl
    have e2 : dtW δ (dtP f) (r :: rs) = (δ (r 0) * f rs - dtP (fun l => f ((fun j => δ (r j)) :: l)) rs) + dtW δ (fun l => r 0 * f l - dtP (fun l => f (r :: l)) l) rs := rfl
    have e3 : dtW δ (fun l => r 0 * f l - dtP (fun l => f (r :: l)) l) rs = r 0 * dtW δ f rs - dtW δ (dtP (fun l => f (r :: l))) rs := by
      have q := dtW_lin (δ := δ) (r 0) (-1) f (dtP (fun l => f (r :: l))) rs
      have q2 : (fun l => r 0 * f l - dtP (fun l => f (r :: l)) l) = fun l => r 0 * f l + (-1) * dtP (fun l => f (r :: l)) l := by
        funext l
        grind
      rw [q2, q]
      grind
    have e4 : dtP g (r :: rs) = r 0 * g rs - dtP (fun l => g (r :: l)) rs := rfl
    rw [e1, h.sub, h.mul, hf rs, ih, e2, e3, e4]
    grind
theorem dtW_sh {δ : R → R} : ∀ (l : List (Nat → R)) (f : List (Nat → R) → R), dtW δ (fun l => f (l.map dtSh)) l = dtW δ f (l.map dtSh)
  | [], _ => rfl
  | r :: rs, f => by
    show f ((fun j => δ (r (j + 1))) :: rs.map dtSh) + dtW δ (fun l => f (dtSh r :: l.map dtSh)) rs = f ((fun j => δ (dtSh r j)) :: rs.map dtSh) + dtW δ (fun l => f (dtSh r :: l)) (rs.map dtSh)
    rw [dtW_sh rs (fun l => f (dtSh r :: l))]
    rfl
theorem dtW_0 {δ : R → R} : ∀ (l : List (Nat → R)) (f : List (Nat → R) → R), (∀ r l, f (r :: l) = 0) → dtW δ f l = 0
  | [], _, _ => rfl
  | r :: rs, f, h => by
    show f ((fun j => δ (r j)) :: rs) + dtW δ (fun l => f (r :: l)) rs = 0
    rw [h, dtW_0 rs _ fun a b => h r (a :: b)]
    grind
theorem dtD_der {δ : R → R} (h : dtDer δ) : ∀ (n : Nat) (l : List (Nat → R)), δ (dtD n l) = dtW δ (dtD n) l
  | 0, [] => h.one
  | 0, r :: l => by
    show δ 0 = _
    rw [h.zero, dtW_0 (r :: l) (dtD 0) fun _ _ => rfl]
  | n + 1, l => by
    have e := dtP_der h l (fun l => dtD n (l.map dtSh)) (fun _ => 0) (fun l => by
      rw [dtD_der h n (l.map dtSh), dtW_sh l (dtD n)]
      grind)
    rw [dtP_zero] at e
    show δ (dtP (fun l => dtD n (l.map dtSh)) l) = dtW δ (dtP (fun l => dtD n (l.map dtSh))) l
    rw [e]
    grind
theorem dtW_sum {δ : R → R} : ∀ (l : List (Nat → R)) (f : List (Nat → R) → R), dtW δ f l = dtS l.length fun i => f (l.set i fun j => δ ((l.getD i fun _ => 0) j))
  | [], _ => rfl
  | r :: rs, f => by
    have ih := dtW_sum (δ := δ) rs (fun l => f (r :: l))
    have sh : ∀ (g : Nat → R) n, dtS (n + 1) g = g 0 + dtS n fun i => g (i + 1) := fun g n => by
      induction n with
      | zero =>
        show (0 : R) + g 0 = g 0 + 0
        grind
      | succ n ihn =>
        show dtS (n + 1) g + g (n + 1) = g 0 + (dtS n (fun i => g (i + 1)) + g (n + 1))
        rw [ihn]
        grind
    show f ((fun j => δ (r j)) :: rs) + dtW δ (fun l => f (r :: l)) rs = _
    rw [ih, List.length_cons, sh]
    rfl
end
/-! series with whole numbers, and the wide polynomial of a table -/
structure dtPS where
  c : Nat → Int
theorem dtPS.ext' {f g : dtPS} (h : ∀ n, f.c n = g.c n) : f = g := by
  cases f
  cases g
  congr
  funext n
  exact h n
def dtMul : (Nat → Int) → (Nat → Int) → Nat → Int
  | f, g, 0 => f 0 * g 0
  | f, g, n + 1 => f 0 * g (n + 1) + dtMul (fun i => f (i + 1)) g n
def dtCo (a : Int) : dtPS := ⟨fun n => if n = 0 then a else 0⟩
theorem dtMul_addl (g : Nat → Int) : ∀ (n : Nat) (f f' : Nat → Int), dtMul (fun i => f i + f' i) g n = dtMul f g n + dtMul f' g n
  | 0, f, f' => by
    show (f 0 + f' 0) * g 0 = f 0 * g 0 + f' 0 * g 0
    grind
  | n + 1, f, f' => by
    show (f 0 + f' 0) * g (n + 1) + dtMul (fun i => f (i + 1) + f' (i + 1)) g n = (f 0 * g (n + 1) + dtMul (fun i => f (i + 1)) g n) + (f' 0 * g (n + 1) + dtMul (fun i => f' (i + 1)) g n)
    rw [dtMul_addl g n]
    grind
theorem dtMul_addr : ∀ (n : Nat) (f g g' : Nat → Int), dtMul f (fun i => g i + g' i) n = dtMul f g n + dtMul f g' n
  | 0, f, g, g' => by
    show f 0 * (g 0 + g' 0) = f 0 * g 0 + f 0 * g' 0
    grind
  | n + 1, f, g, g' => by
    show f 0 * (g (n + 1) + g' (n + 1)) + dtMul (fun i => f (i + 1)) (fun i => g i + g' i) n = (f 0 * g (n + 1) + dtMul (fun i => f (i + 1)) g n) + (f 0 * g' (n + 1) + dtMul (fun i => f (i + 1)) g' n)
    rw [dtMul_addr n]
    grind
theorem dtMul_cl (c : Int) (g : Nat → Int) : ∀ (n : Nat) (f : Nat → Int), dtMul (fun i => c * f i) g n = c * dtMul f g n
  | 0, f => by
    show c * f 0 * g 0 = c * (f 0 * g 0)
    grind
  | n + 1, f => by
    show c * f 0 * g (n + 1) + dtMul (fun i => c * f (i + 1)) g n = c * (f 0 * g (n + 1) + dtMul (fun i => f (i + 1)) g n)
    rw [dtMul_cl c g n]
    grind
theorem dtMul_z (g : Nat → Int) : ∀ (n : Nat), dtMul (fun _ => 0) g n = 0
  | 0 => by
    show 0 * g 0 = 0
    grind
  | n + 1 => by
    show 0 * g (n + 1) + dtMul (fun _ => 0) g n = 0
    rw [dtMul_z g n]
    grind
theorem dtMul_r : ∀ (n : Nat) (f g : Nat → Int), dtMul f g (n + 1) = dtMul f (fun i => g (i + 1)) n + f (n + 1) * g 0
  | 0, f, g => rfl
  | n + 1, f, g => by
    show f 0 * g (n + 2) + dtMul (fun i => f (i + 1)) g (n + 1) = (f 0 * g (n + 2) + dtMul (fun i => f (i + 1)) (fun i => g (i + 1)) n) + f (n + 2) * g 0
    rw [dtMul_r n]
    grind
theorem dtMul_comm : ∀ (n : Nat) (f g : Nat → Int), dtMul f g n = dtMul g f n
  | 0, f, g => by
    show f 0 * g 0 = g 0 * f 0
    grind
  | n + 1, f, g => by
    rw [dtMul_r n f g]
    show _ = g 0 * f (n + 1) + dtMul (fun i => g (i + 1)) f n
    rw [dtMul_comm n f]
    grind
theorem dtMul_assoc (h : Nat → Int) : ∀ (n : Nat) (f g : Nat → Int), dtMul (dtMul f g) h n = dtMul f (dtMul g h) n
  | 0, f, g => by
    show f 0 * g 0 * h 0 = f 0 * (g 0 * h 0)
    grind
  | n + 1, f, g => by
    show f 0 * g 0 * h (n + 1) + dtMul (fun i => f 0 * g (i + 1) + dtMul (fun i => f (i + 1)) g i) h n = f 0 * (g 0 * h (n + 1) + dtMul (fun i => g (i + 1)) h n) + dtMul (fun i => f (i + 1)) (dtMul g h) n
    rw [dtMul_addl, dtMul_cl, dtMul_assoc h n]
    grind
instance : Add dtPS := ⟨fun f g => ⟨fun n => f.c n + g.c n⟩⟩
instance : Mul dtPS := ⟨fun f g => ⟨dtMul f.c g.c⟩⟩
instance : Neg dtPS := ⟨fun f => ⟨fun n => - f.c n⟩⟩
instance : Sub dtPS := ⟨fun f g => ⟨fun n => f.c n - g.c n⟩⟩
instance : NatCast dtPS := ⟨fun n => dtCo n⟩
instance : IntCast dtPS := ⟨fun n => dtCo n⟩
instance (n : Nat) : OfNat dtPS n := ⟨dtCo n⟩
instance : SMul Nat dtPS := ⟨fun n f => dtCo n * f⟩
instance : SMul Int dtPS := ⟨fun n f => dtCo n * f⟩
def dtPow (f : dtPS) : Nat → dtPS
  | 0 => dtCo 1
  | n + 1 => dtPow f n * f
instance : HPow dtPS Nat dtPS := ⟨dtPow⟩
theorem dt_add (f g : dtPS) (n : Nat) : (f + g).c n = f.c n + g.c n := rfl
theorem dt_sub (f g : dtPS) (n : Nat) : (f - g).c n = f.c n - g.c n := rfl
theorem dt_mul (f g : dtPS) (n : Nat) : (f * g).c n = dtMul f.c g.c n := rfl
theorem dt_cm (a : Int) (f : dtPS) (n : Nat) : (dtCo a * f).c n = a * f.c n := by
  rw [dt_mul]
  cases n with
  | zero => rfl
  | succ n =>
    show a * f.c (n + 1) + dtMul (fun i => if i + 1 = 0 then a else 0) f.c n = _
    rw [show (fun i => if i + 1 = 0 then a else 0) = fun _ : Nat => (0 : Int) from funext fun i => if_neg (Nat.succ_ne_zero i), dtMul_z]
    grind
instance : Lean.Grind.CommRing dtPS where
  nsmul := inferInstance
  npow := inferInstance
  zsmul := inferInstance
  natCast := inferInstance
  intCast := inferInstance
  ofNat := inferInstance
  add_zero a := dtPS.ext' fun n => by
    rw [dt_add]
    show a.c n + (if n = 0 then ((0 : Nat) : Int) else 0) = a.c n
    split <;> omega
  add_comm a b := dtPS.ext' fun n => Int.add_comm _ _
  add_assoc a b c := dtPS.ext' fun n => Int.add_assoc _ _ _
  mul_assoc a b c := dtPS.ext' fun n => dtMul_assoc c.c n a.c b.c
  mul_comm a b := dtPS.ext' fun n => dtMul_comm n a.c b.c
  mul_one a := dtPS.ext' fun n => by
    rw [dt_mul, dtMul_comm]
    exact (dt_cm 1 a n).trans (Int.one_mul _)
  one_mul a := dtPS.ext' fun n => (dt_cm 1 a n).trans (Int.one_mul _)
  left_distrib a b c := dtPS.ext' fun n => dtMul_addr n a.c b.c c.c
  right_distrib a b c := dtPS.ext' fun n => dtMul_addl c.c n a.c b.c
  zero_mul a := dtPS.ext' fun n => by
    refine (dt_cm 0 a n).trans ?_
    show 0 * a.c n = if n = 0 then ((0 : Nat) : Int) else 0
    split <;> omega
  mul_zero a := dtPS.ext' fun n => by
    rw [dt_mul, dtMul_comm]
    refine (dt_cm 0 a n).trans ?_
    show 0 * a.c n = if n = 0 then ((0 : Nat) : Int) else 0
    split <;> omega
  pow_zero a := rfl
  pow_succ a n := rfl
  ofNat_succ n := dtPS.ext' fun k => by
    show (if k = 0 then ((n + 1 : Nat) : Int) else 0) = (if k = 0 then ((n : Nat) : Int) else 0) + (if k = 0 then ((1 : Nat) : Int) else 0)
    split <;> omega
  ofNat_eq_natCast n := rfl
  nsmul_eq_natCast_mul n a := rfl
  neg_add_cancel a := dtPS.ext' fun n => by
    show - a.c n + a.c n = if n = 0 then ((0 : Nat) : Int) else 0
    split <;> omega
  sub_eq_add_neg a b := dtPS.ext' fun n => Int.sub_eq_add_neg
  neg_zsmul i a := dtPS.ext' fun n => by
    show (dtCo (-i) * a).c n = - (dtCo i * a).c n
    rw [dt_cm, dt_cm]
    grind
  zsmul_natCast_eq_nsmul n a := rfl
  intCast_ofNat n := rfl
  intCast_neg i := dtPS.ext' fun n => by
    show (if n = 0 then -i else 0) = - (if n = 0 then i else 0)
    split <;> omega
/-- a + b x -/
def dtL (a b : Int) : dtPS := ⟨fun n => match n with
  | 0 => a
  | 1 => b
  | _ => 0⟩
def dtPv (b : Int) (f : Nat → Int) : Nat → Int
  | 0 => 0
  | n + 1 => b * f n
theorem dt_lin (a b : Int) (f : dtPS) (n : Nat) : (dtL a b * f).c n = a * f.c n + dtPv b f.c n := by
  rw [dt_mul]
  cases n with
  | zero =>
    show a * f.c 0 = a * f.c 0 + 0
    omega
  | succ n =>
    show a * f.c (n + 1) + dtMul (fun i => (dtL a b).c (i + 1)) f.c n = a * f.c (n + 1) + b * f.c n
    have e : (fun i => (dtL a b).c (i + 1)) = (dtCo b).c := by
      funext i
      cases i <;> rfl
    rw [e]
    have := dt_cm b f n
    rw [dt_mul] at this
    rw [this]
def dtd (f : dtPS) : dtPS := ⟨fun n => ((n : Int) + 1) * f.c (n + 1)⟩
theorem dtd_mul : ∀ (n : Nat) (f g : Nat → Int), ((n : Int) + 1) * dtMul f g (n + 1) = dtMul (fun i => ((i : Int) + 1) * f (i + 1)) g n + dtMul f (fun i => ((i : Int) + 1) * g (i + 1)) n
  | 0, f, g => by
    show ((0 : Int) + 1) * (f 0 * g 1 + f 1 * g 0) = ((0 : Int) + 1) * f 1 * g 0 + f 0 * (((0 : Int) + 1) * g 1)
    grind
  | n + 1, f, g => by
    have ih := dtd_mul n (fun i => f (i + 1)) g
    have e1 : dtMul (fun i => ((i : Int) + 1) * f (i + 1)) g (n + 1) = ((0 : Int) + 1) * f 1 * g (n + 1) + dtMul (fun i => (((i + 1 : Nat) : Int) + 1) * f (i + 2)) g n := rfl
    have e2 : dtMul f (fun i => ((i : Int) + 1) * g (i + 1)) (n + 1) = f 0 * ((((n + 1 : Nat) : Int) + 1) * g (n + 2)) + dtMul (fun i => f (i + 1)) (fun i => ((i : Int) + 1) * g (i + 1)) n := rfl
    have e3 : (fun i : Nat => (((i + 1 : Nat) : Int) + 1) * f (i + 2)) = fun i : Nat => (((i : Int) + 1) * f (i + 2)) + f (i + 2) := by
      funext i
      grind
    have e4 : dtMul f g (n + 2) = f 0 * g (n + 2) + dtMul (fun i => f (i + 1)) g (n + 1) := rfl
    have e5 : dtMul (fun i => f (i + 1)) g (n + 1) = f 1 * g (n + 1) + dtMul (fun i => f (i + 2)) g n := rfl
    have ih : ((n : Int) + 1) * dtMul (fun i => f (i + 1)) g (n + 1) = dtMul (fun i => ((i : Int) + 1) * f (i + 2)) g n + dtMul (fun i => f (i + 1)) (fun i => ((i : Int) + 1) * g (i + 1)) n := ih
    rw [e1, e2, e3, dtMul_addl, e4, show (((n + 1 : Nat) : Int)) = (n : Int) + 1 from rfl]
    grind
theorem dtd_der : dtDer dtd := ⟨fun x y => dtPS.ext' fun n => by
  show ((n : Int) + 1) * (x.c (n + 1) + y.c (n + 1)) = ((n : Int) + 1) * x.c (n + 1) + ((n : Int) + 1) * y.c (n + 1)
  grind, fun x y => dtPS.ext' fun n => dtd_mul n x.c y.c⟩
/-- the value of what has so many numbers -/
def dtEv (n : Nat) (f : dtPS) (x : Int) : Int := dtS n fun i => f.c i * x ^ i
/-- rows whose numbers are a + b x -/
def dtLR (u v : Nat → Int) : Nat → dtPS := fun j => dtL (u j) (v j)
theorem dt_S0 {R : Type} [Lean.Grind.CommRing R] (g : Nat → R) : ∀ n, dtS (n + 1) g = g 0 + dtS n fun i => g (i + 1)
  | 0 => by
    show (0 : R) + g 0 = g 0 + 0
    grind
  | n + 1 => by
    show dtS (n + 1) g + g (n + 1) = g 0 + (dtS n (fun i => g (i + 1)) + g (n + 1))
    rw [dt_S0 g n]
    grind
theorem dtEv_lin {n : Nat} {a b x : Int} {f : dtPS} (h : ∀ i, n ≤ i → f.c i = 0) : dtEv (n + 1) (dtL a b * f) x = (a + b * x) * dtEv n f x := by
  unfold dtEv
  have e : ∀ i, (dtL a b * f).c i * x ^ i = a * (f.c i * x ^ i) + dtPv (b * x) (fun i => f.c i * x ^ i) i := fun i => by
    rw [dt_lin]
    cases i with
    | zero =>
      show (a * f.c 0 + 0) * x ^ 0 = a * (f.c 0 * x ^ 0) + 0
      grind
    | succ i =>
      show (a * f.c (i + 1) + b * f.c i) * x ^ (i + 1) = a * (f.c (i + 1) * x ^ (i + 1)) + b * x * (f.c i * x ^ i)
      rw [Int.pow_succ]
      grind
  rw [dtS_congr (n + 1) fun i _ => e i, dtS_add, dtS_mul, dt_S0 (dtPv (b * x) (fun i => f.c i * x ^ i)) n]
  show a * (dtS n (fun i => f.c i * x ^ i) + f.c n * x ^ n) + (0 + dtS n fun i => b * x * (f.c i * x ^ i)) = _
  rw [dtS_mul, h n (Nat.le_refl n)]
  grind
theorem dtEv_sub {n : Nat} {x : Int} {f g : dtPS} : dtEv n (f - g) x = dtEv n f x - dtEv n g x := by
  unfold dtEv
  have e : ∀ i, i < n → (f - g).c i * x ^ i = f.c i * x ^ i + (-1) * (g.c i * x ^ i) := fun i _ => by
    rw [dt_sub]
    grind
  rw [dtS_congr n e, dtS_add, dtS_mul]
  grind
/-- degrees and values of a determinant whose numbers are a + b x -/
theorem dtP_ev {n : Nat} {x : Int} : ∀ (l : List ((Nat → Int) × (Nat → Int))) (f : List (Nat → dtPS) → dtPS) (g : List (Nat → Int) → Int),
    (∀ m : List ((Nat → Int) × (Nat → Int)), (∀ i, n ≤ i → (f (m.map fun p => dtLR p.1 p.2)).c i = 0) ∧ dtEv n (f (m.map fun p => dtLR p.1 p.2)) x = g (m.map fun p j => p.1 j + p.2 j * x)) →
    (∀ i, n + 1 ≤ i → (dtP f (l.map fun p => dtLR p.1 p.2)).c i = 0) ∧ dtEv (n + 1) (dtP f (l.map fun p => dtLR p.1 p.2)) x = dtP g (l.map fun p j => p.1 j + p.2 j * x)
  | [], f, g, _ => by
    have z : ∀ i, (0 : dtPS).c i = 0 := fun i => by
      show (if i = 0 then ((0 : Nat) : Int) else 0) = 0
      split <;> rfl
    refine ⟨fun i _ => z i, ?_⟩
    show dtS (n + 1) (fun i => (0 : dtPS).c i * x ^ i) = 0
    exact dtS_zero _ fun i _ => by
      rw [z]
      exact Int.zero_mul _
  | p :: l, f, g, h => by
    obtain ⟨h1, h2⟩ := h l
    obtain ⟨i1, i2⟩ := dtP_ev l (fun r => f (dtLR p.1 p.2 :: r)) (fun r => g ((fun j => p.1 j + p.2 j * x) :: r)) fun m => h (p :: m)
    have e : dtP f ((p :: l).map fun p => dtLR p.1 p.2) = dtL (p.1 0) (p.2 0) * f (l.map fun p => dtLR p.1 p.2) - dtP (fun r => f (dtLR p.1 p.2 :: r)) (l.map fun p => dtLR p.1 p.2) := rfl
    rw [e]
    refine ⟨fun i hi => ?_, ?_⟩
    · rw [dt_sub, i1 i hi, dt_lin]
      cases i with
      | zero => omega
      | succ i =>
        show p.1 0 * (f (l.map fun p => dtLR p.1 p.2)).c (i + 1) + p.2 0 * (f (l.map fun p => dtLR p.1 p.2)).c i - 0 = 0
        rw [h1 (i + 1) (by omega), h1 i (by omega)]
        grind
    · rw [dtEv_sub, dtEv_lin h1, h2, i2]
      rfl
theorem dtD_ev {x : Int} : ∀ (n : Nat) (l : List ((Nat → Int) × (Nat → Int))),
    (∀ i, n + 1 ≤ i → (dtD n (l.map fun p => dtLR p.1 p.2)).c i = 0) ∧ dtEv (n + 1) (dtD n (l.map fun p => dtLR p.1 p.2)) x = dtD n (l.map fun p j => p.1 j + p.2 j * x)
  | 0, [] => by
    refine ⟨fun i hi => ?_, ?_⟩
    · show (if i = 0 then ((1 : Nat) : Int) else 0) = 0
      rw [if_neg (by omega)]
    · show 0 + (if (0 : Nat) = 0 then ((1 : Nat) : Int) else 0) * x ^ 0 = 1
      rw [if_pos rfl, Int.pow_zero]
      rfl
  | 0, p :: l => by
    have z : ∀ i, (0 : dtPS).c i = 0 := fun i => by
      show (if i = 0 then ((0 : Nat) : Int) else 0) = 0
      split <;> rfl
    refine ⟨fun i hi => z i, ?_⟩
    show 0 + (0 : dtPS).c 0 * x ^ 0 = 0
    rw [z]
    grind
  | n + 1, l => by
    refine dtP_ev l _ _ fun m => ?_
    obtain ⟨h1, h2⟩ := dtD_ev (x := x) n (m.map fun p => (dtSh p.1, dtSh p.2))
    have e1 : ((m.map fun p => dtLR p.1 p.2).map dtSh) = (m.map fun p => (dtSh p.1, dtSh p.2)).map fun p => dtLR p.1 p.2 := by
      rw [List.map_map, List.map_map]
      rfl
    have e2 : ((m.map fun p j => p.1 j + p.2 j * x).map dtSh) = (m.map fun p => (dtSh p.1, dtSh p.2)).map fun p j => p.1 j + p.2 j * x := by
      rw [List.map_map, List.map_map]
      rfl
    show (∀ i, n + 1 ≤ i → (dtD n ((m.map fun p => dtLR p.1 p.2).map dtSh)).c i = 0) ∧ dtEv (n + 1) (dtD n ((m.map fun p => dtLR p.1 p.2).map dtSh)) x = dtD n ((m.map fun p j => p.1 j + p.2 j * x).map dtSh)
    rw [e1, e2]
    exact ⟨h1, h2⟩
/-! the wide polynomial by traces -/
def dtLi (A : Nat → Nat → Int) (i j : Nat) : dtPS := dtL (- A i j) (if i = j then 1 else 0)
def dtUV (n : Nat) (A : Nat → Nat → Int) : List ((Nat → Int) × (Nat → Int)) := (List.range n).map fun i => (dtR n fun j => - A i j, dtR n fun j => if i = j then 1 else 0)
theorem dt_L00 : dtL 0 0 = 0 := dtPS.ext' fun n => by
  show _ = if n = 0 then ((0 : Nat) : Int) else 0
  match n with
  | 0 => rfl
  | 1 => rfl
  | n + 2 => rfl
theorem dt_LR {n : Nat} {A : Nat → Nat → Int} {i : Nat} : dtLR (dtR n fun j => - A i j) (dtR n fun j => if i = j then 1 else 0) = dtR n (dtLi A i) := by
  funext j
  show dtL (dtR n (fun j => - A i j) j) (dtR n (fun j => if i = j then 1 else 0) j) = if j < n then dtLi A i j else 0
  unfold dtR
  by_cases h : j < n
  · rw [if_pos h, if_pos h, if_pos h]
    rfl
  · rw [if_neg h, if_neg h, if_neg h]
    exact dt_L00
theorem dt_M {n : Nat} {A : Nat → Nat → Int} : (dtUV n A).map (fun p => dtLR p.1 p.2) = dtM n (dtLi A) := by
  unfold dtUV dtM
  rw [List.map_map]
  exact List.map_congr_left fun i _ => dt_LR
/-- the polynomial -/
def dtp (n : Nat) (A : Nat → Nat → Int) (t : Nat) : Int := (dtD n (dtM n (dtLi A))).c t
def dtB (n : Nat) (A : Nat → Nat → Int) (t i k : Nat) : Int := (dtC n (dtLi A) k i).c t
theorem dtp_deg {n t : Nat} {A : Nat → Nat → Int} (h : n < t) : dtp n A t = 0 := by
  have e := (dtD_ev (x := 0) n (dtUV n A)).1 t h
  rw [dt_M] at e
  exact e
theorem dtp_val {n : Nat} {A : Nat → Nat → Int} {x : Int} : dtS (n + 1) (fun i => dtp n A i * x ^ i) = dtD n (dtM n fun i j => (if i = j then x else 0) - A i j) := by
  have e := (dtD_ev (x := x) n (dtUV n A)).2
  rw [dt_M] at e
  refine Eq.trans e ?_
  congr 1
  unfold dtUV dtM
  rw [List.map_map]
  refine List.map_congr_left fun i _ => ?_
  funext j
  show dtR n (fun j => - A i j) j + dtR n (fun j => if i = j then 1 else 0) j * x = dtR n (fun j => (if i = j then x else 0) - A i j) j
  unfold dtR
  by_cases h : j < n
  · rw [if_pos h, if_pos h, if_pos h]
    show - A i j + (if i = j then 1 else 0) * x = (if i = j then x else 0) - A i j
    by_cases c : i = j
    · rw [if_pos c, if_pos c]
      omega
    · rw [if_neg c, if_neg c]
      omega
  · rw [if_neg h, if_neg h, if_neg h]
    omega
theorem dtE_LR {j : Nat} : dtLR (dtE j) (fun _ => 0) = dtE (R := dtPS) j := by
  funext i
  show dtL (if i = j then 1 else 0) 0 = if i = j then 1 else 0
  split
  · exact dtPS.ext' fun n => by
      show _ = if n = 0 then ((1 : Nat) : Int) else 0
      match n with
      | 0 => rfl
      | 1 => rfl
      | n + 2 => rfl
  · exact dt_L00
theorem dtB_deg0 {n t i k : Nat} {A : Nat → Nat → Int} (h : n < t) : dtB n A t i k = 0 := by
  have e := (dtD_ev (x := 0) n ((dtUV n A).set k (dtE i, fun _ => 0))).1 t h
  rw [List.map_set, dt_M, dtE_LR] at e
  exact e
theorem dtS_c (f : Nat → dtPS) (t : Nat) : ∀ n, (dtS n f).c t = dtS n fun j => (f j).c t
  | 0 => by
    show (if t = 0 then ((0 : Nat) : Int) else 0) = 0
    split <;> rfl
  | n + 1 => by
    show (dtS n f).c t + (f n).c t = dtS n (fun j => (f j).c t) + (f n).c t
    rw [dtS_c f t n]
theorem dt_rec {n t i k : Nat} {A : Nat → Nat → Int} (hi : i < n) (hk : k < n) : dtPv 1 (fun t => dtB n A t i k) t = dtS n (fun j => A i j * dtB n A t j k) + if i = k then dtp n A t else 0 := by
  have e := congrArg (fun f => f.c t) (dt_adj (M := dtLi A) hi hk)
  have e : (dtS n fun j => dtLi A i j * dtC n (dtLi A) k j).c t = (if i = k then dtD n (dtM n (dtLi A)) else 0).c t := e
  rw [dtS_c] at e
  have e2 : ∀ j, j < n → (dtLi A i j * dtC n (dtLi A) k j).c t = (-1) * (A i j * dtB n A t j k) + dtPv (if i = j then 1 else 0) (fun t => dtB n A t j k) t := fun j _ => by
    unfold dtLi
    rw [dt_lin]
    show - A i j * dtB n A t j k + _ = _
    rw [Int.neg_mul, Int.neg_mul, Int.one_mul]
    rfl
  rw [dtS_congr n e2, dtS_add, dtS_mul] at e
  have e3 : dtS n (fun j => dtPv (if i = j then 1 else 0) (fun t => dtB n A t j k) t) = dtPv 1 (fun t => dtB n A t i k) t := by
    rw [dtS_one (k := i) n hi]
    · rw [if_pos rfl]
    · intro j hj hne
      rw [if_neg fun q => hne q.symm]
      cases t with
      | zero => rfl
      | succ t =>
        show 0 * dtB n A t j k = 0
        exact Int.zero_mul _
  rw [e3] at e
  have e4 : (if i = k then dtD n (dtM n (dtLi A)) else 0).c t = if i = k then dtp n A t else 0 := by
    by_cases c : i = k
    · rw [if_pos c, if_pos c]
      rfl
    · rw [if_neg c, if_neg c]
      show (if t = 0 then ((0 : Nat) : Int) else 0) = 0
      split <;> rfl
  rw [e4] at e
  omega
theorem dtB_top {n i k : Nat} {A : Nat → Nat → Int} (hi : i < n) (hk : k < n) : dtB n A n i k = 0 := by
  have e := dt_rec (t := n + 1) (A := A) hi hk
  have e : 1 * dtB n A n i k = _ := e
  rw [dtS_zero n fun j _ => by rw [dtB_deg0 (Nat.lt_succ_self n)]; exact Int.mul_zero _, dtp_deg (Nat.lt_succ_self n)] at e
  rw [Int.one_mul] at e
  rw [e]
  split <;> rfl
theorem dt_tr {n t : Nat} {A : Nat → Nat → Int} : ((t : Int) + 1) * dtp n A (t + 1) = dtS n fun i => dtB n A t i i := by
  have e := congrArg (fun f => f.c t) (dtD_der dtd_der n (dtM n (dtLi A)))
  have e : ((t : Int) + 1) * dtp n A (t + 1) = (dtW dtd (dtD n) (dtM n (dtLi A))).c t := e
  rw [e, dtW_sum, dtM_len, dtS_c]
  refine dtS_congr n fun i hi => ?_
  unfold dtB dtC
  have g : (fun j => dtd ((((dtM n (dtLi A)).getD i fun _ => 0)) j)) = dtE i := by
    rw [List.getD_eq_getElem?_getD, dtM_get hi, Option.getD_some]
    funext j
    unfold dtR dtE
    refine dtPS.ext' fun s => ?_
    show ((s : Int) + 1) * (if j < n then dtLi A i j else 0).c (s + 1) = (if j = i then 1 else 0 : dtPS).c s
    by_cases h : j < n
    · rw [if_pos h]
      by_cases c : j = i
      · rw [if_pos c]
        show ((s : Int) + 1) * (dtL (- A i j) (if i = j then 1 else 0)).c (s + 1) = if s = 0 then ((1 : Nat) : Int) else 0
        rw [if_pos c.symm]
        cases s with
        | zero => rfl
        | succ s =>
          rw [if_neg (Nat.succ_ne_zero s)]
          exact Int.mul_zero _
      · rw [if_neg c]
        show ((s : Int) + 1) * (dtL (- A i j) (if i = j then 1 else 0)).c (s + 1) = if s = 0 then ((0 : Nat) : Int) else 0
        rw [if_neg fun q => c q.symm]
        cases s with
        | zero => rfl
        | succ s =>
          rw [if_neg (Nat.succ_ne_zero s)]
          exact Int.mul_zero _
    · rw [if_neg h, if_neg (by omega)]
      show ((s : Int) + 1) * (if s + 1 = 0 then ((0 : Nat) : Int) else 0) = if s = 0 then ((0 : Nat) : Int) else 0
      rw [if_neg (Nat.succ_ne_zero s), Int.mul_zero]
      split <;> rfl
  rw [g]
theorem dt_AB {n t : Nat} {A : Nat → Nat → Int} : dtS n (fun i => dtS n fun j => A i j * dtB n A t j i) = ((t : Int) - n) * dtp n A t := by
  have e : ∀ i, i < n → dtS n (fun j => A i j * dtB n A t j i) = dtPv 1 (fun t => dtB n A t i i) t + (-1) * dtp n A t := fun i hi => by
    have := dt_rec (t := t) (A := A) hi hi
    rw [if_pos rfl] at this
    omega
  rw [dtS_congr n e, dtS_add]
  have c : ∀ (m : Nat) (z : Int), dtS m (fun _ => z) = (m : Int) * z := fun m z => by
    induction m with
    | zero => exact (Int.zero_mul z).symm
    | succ m ih =>
      show dtS m (fun _ => z) + z = _
      rw [ih, show ((m + 1 : Nat) : Int) = (m : Int) + 1 from rfl]
      grind
  rw [c]
  cases t with
  | zero =>
    rw [dtS_zero (f := fun i => dtPv 1 (fun t => dtB n A t i i) 0) n fun i _ => rfl]
    grind
  | succ t =>
    have h := dt_tr (n := n) (t := t) (A := A)
    have e2 : dtS n (fun i => dtPv 1 (fun t => dtB n A t i i) (t + 1)) = dtS n fun i => dtB n A t i i := dtS_congr n fun i _ => Int.one_mul _
    rw [e2, ← h]
    grind
/-- the highest number is 1 -/
theorem dtP_cst {N : Nat} : ∀ (l : List ((Nat → Int) × (Nat → Int))) (f : List (Nat → dtPS) → dtPS), (∀ m : List ((Nat → Int) × (Nat → Int)), ∀ i, N ≤ i → (f (m.map fun p => dtLR p.1 p.2)).c i = 0) → (∀ p ∈ l, p.2 0 = 0) → ∀ i, N ≤ i → (dtP f (l.map fun p => dtLR p.1 p.2)).c i = 0
  | [], f, _, _, i, _ => by
    show (if i = 0 then ((0 : Nat) : Int) else 0) = 0
    split <;> rfl
  | p :: l, f, h, hl, i, hi => by
    have ih := dtP_cst l (fun r => f (dtLR p.1 p.2 :: r)) (fun m => h (p :: m)) (fun q hq => hl q (List.mem_cons_of_mem _ hq)) i hi
    have e : dtP f ((p :: l).map fun p => dtLR p.1 p.2) = dtL (p.1 0) (p.2 0) * f (l.map fun p => dtLR p.1 p.2) - dtP (fun r => f (dtLR p.1 p.2 :: r)) (l.map fun p => dtLR p.1 p.2) := rfl
    rw [e, dt_sub, ih, dt_lin, h l i hi, hl p List.mem_cons_self]
    cases i with
    | zero =>
      show p.1 0 * 0 + 0 - 0 = 0
      grind
    | succ i =>
      show p.1 0 * 0 + 0 * _ - 0 = 0
      grind
theorem dtD_lead : ∀ (n : Nat) (U : Nat → Nat → Int), (dtD n ((List.range n).map fun i => dtLR (U i) (dtE i))).c n = 1
  | 0, _ => rfl
  | n + 1, U => by
    have ih := dtD_lead n fun i => dtSh (U (i + 1))
    rw [List.range_succ_eq_map, List.map_cons, List.map_map]
    have e : dtD (n + 1) (dtLR (U 0) (dtE 0) :: (List.range n).map ((fun i => dtLR (U i) (dtE i)) ∘ Nat.succ)) = dtL (U 0 0) 1 * dtD n (((List.range n).map ((fun i => dtLR (U i) (dtE i)) ∘ Nat.succ)).map dtSh) - dtP (fun r => dtD n ((dtLR (U 0) (dtE 0) :: r).map dtSh)) ((List.range n).map ((fun i => dtLR (U i) (dtE i)) ∘ Nat.succ)) := rfl
    have l1 : (List.range n).map ((fun i => dtLR (U i) (dtE i)) ∘ Nat.succ) = ((List.range n).map fun i => (U (i + 1), dtE (R := Int) (i + 1))).map fun p => dtLR p.1 p.2 := by
      rw [List.map_map]
      rfl
    have l2 : ((List.range n).map ((fun i => dtLR (U i) (dtE i)) ∘ Nat.succ)).map dtSh = (List.range n).map fun i => dtLR (dtSh (U (i + 1))) (dtE i) := by
      rw [List.map_map]
      refine List.map_congr_left fun i _ => ?_
      funext j
      show dtL (U (i + 1) (j + 1)) (if j + 1 = i + 1 then 1 else 0) = dtL (U (i + 1) (j + 1)) (if j = i then 1 else 0)
      by_cases c : j = i
      · rw [if_pos c, if_pos (by omega)]
      · rw [if_neg c, if_neg (by omega)]
    have tl := dtP_cst (N := n + 1) ((List.range n).map fun i => (U (i + 1), dtE (R := Int) (i + 1))) (fun r => dtD n ((dtLR (U 0) (dtE 0) :: r).map dtSh)) (fun m i hi => by
      have q := (dtD_ev (x := 0) n ((dtSh (U 0), dtSh (dtE (R := Int) 0)) :: m.map fun p => (dtSh p.1, dtSh p.2))).1 i hi
      have w : ((dtSh (U 0), dtSh (dtE (R := Int) 0)) :: m.map fun p => (dtSh p.1, dtSh p.2)).map (fun p => dtLR p.1 p.2) = ((dtLR (U 0) (dtE 0) :: m.map fun p => dtLR p.1 p.2).map dtSh) := by
        rw [List.map_cons, List.map_cons, List.map_map, List.map_map]
        rfl
      rw [w] at q
      exact q) (fun p hp => by
      obtain ⟨i, _, rfl⟩ := List.mem_map.mp hp
      rfl) (n + 1) (Nat.le_refl _)
    rw [e, dt_sub, l2, l1, tl, dt_lin]
    show U 0 0 * _ + 1 * (dtD n ((List.range n).map fun i => dtLR (dtSh (U (i + 1))) (dtE i))).c n - 0 = 1
    rw [ih]
    have z := (dtD_ev (x := 0) n ((List.range n).map fun i => (dtSh (U (i + 1)), dtE (R := Int) i))).1 (n + 1) (Nat.le_refl _)
    rw [List.map_map] at z
    have z : (dtD n ((List.range n).map fun i => dtLR (dtSh (U (i + 1))) (dtE i))).c (n + 1) = 0 := z
    rw [z]
    grind
theorem dtp_lead {n : Nat} {A : Nat → Nat → Int} : dtp n A n = 1 := by
  have e := dtD_lead n fun i => dtR n fun j => - A i j
  have l : (List.range n).map (fun i => dtLR (dtR n fun j => - A i j) (dtE i)) = dtM n (dtLi A) := by
    unfold dtM
    refine List.map_congr_left fun i hi => ?_
    have hi := List.mem_range.mp hi
    rw [← dt_LR]
    congr 1
    funext j
    unfold dtE dtR
    by_cases c : j = i
    · rw [if_pos c, if_pos (by omega)]
      show 1 = if i = j then 1 else 0
      rw [if_pos c.symm]
    · rw [if_neg c]
      split
      · show 0 = if i = j then 1 else 0
        rw [if_neg fun q : i = j => c q.symm]
      · rfl
  rw [l] at e
  exact e
/-! the determinant by steps without parts is the determinant -/
theorem dtP_map {R : Type} [Lean.Grind.CommRing R] {g : (Nat → R) → Nat → R} (h : ∀ r, g r 0 = r 0) : ∀ (l : List (Nat → R)) (f : List (Nat → R) → R), dtP f (l.map g) = dtP (fun l => f (l.map g)) l
  | [], _ => rfl
  | r :: rs, f => by
    show g r 0 * f (rs.map g) - dtP (fun l => f (g r :: l)) (rs.map g) = r 0 * f (rs.map g) - dtP (fun l => f (g r :: l.map g)) rs
    rw [dtP_map h rs (fun l => f (g r :: l)), h]
theorem dtD_cg {R : Type} [Lean.Grind.CommRing R] : ∀ (n : Nat) (l : List (Nat → R)), dtD n l = dtD n (l.map (dtR n))
  | 0, [] => rfl
  | 0, _ :: _ => rfl
  | n + 1, l => by
    show dtP (fun l => dtD n (l.map dtSh)) l = dtP (fun l => dtD n (l.map dtSh)) (l.map (dtR (n + 1)))
    rw [dtP_map (g := dtR (n + 1)) (fun r => if_pos (Nat.succ_pos n))]
    congr 1
    funext m
    rw [dtD_cg n (m.map dtSh)]
    congr 1
    rw [List.map_map, List.map_map]
    refine List.map_congr_left fun r _ => ?_
    funext j
    show (if j < n then r (j + 1) else 0) = if j + 1 < n + 1 then r (j + 1) else 0
    by_cases c : j < n
    · rw [if_pos c, if_pos (by omega)]
    · rw [if_neg c, if_neg (by omega)]
/-- blocks -/
theorem dtP_blk {R : Type} [Lean.Grind.CommRing R] {Q : List (Nat → R)} (hQ : ∀ r ∈ Q, r 0 = 0) : ∀ (a : List (Nat → R)) (f : List (Nat → R) → R), dtP f (a ++ Q) = dtP (fun l => f (l ++ Q)) a
  | [], f => dtP_clr f Q hQ
  | r :: a, f => by
    show r 0 * f (a ++ Q) - dtP (fun l => f (r :: l)) (a ++ Q) = r 0 * f (a ++ Q) - dtP (fun l => f (r :: (l ++ Q))) a
    rw [dtP_blk hQ a (fun l => f (r :: l))]
theorem dtP_len {R : Type} [Lean.Grind.CommRing R] : ∀ (a : List (Nat → R)) (f g : List (Nat → R) → R), (∀ l, l.length + 1 = a.length → f l = g l) → dtP f a = dtP g a
  | [], _, _, _ => rfl
  | r :: a, f, g, h => by
    show r 0 * f a - dtP (fun l => f (r :: l)) a = r 0 * g a - dtP (fun l => g (r :: l)) a
    rw [h a rfl, dtP_len a (fun l => f (r :: l)) (fun l => g (r :: l)) fun l hl => h (r :: l) (by rw [List.length_cons, List.length_cons, hl])]
theorem dtP_scl {R : Type} [Lean.Grind.CommRing R] (z : R) : ∀ (a : List (Nat → R)) (f : List (Nat → R) → R), dtP (fun l => f l * z) a = dtP f a * z
  | [], _ => by
    show (0 : R) = 0 * z
    grind
  | r :: a, f => by
    show r 0 * (f a * z) - dtP (fun l => f (r :: l) * z) a = (r 0 * f a - dtP (fun l => f (r :: l)) a) * z
    rw [dtP_scl z a (fun l => f (r :: l))]
    grind
theorem dtD_blk {R : Type} [Lean.Grind.CommRing R] (m : Nat) : ∀ (k : Nat) (a Q : List (Nat → R)), a.length = k → (∀ r ∈ Q, ∀ j, j < k → r j = 0) → dtD (k + m) (a ++ Q) = dtD k a * dtD m (Q.map fun r j => r (j + k))
  | 0, [], Q, _, _ => by
    show dtD (0 + m) Q = 1 * dtD m (Q.map fun r => r)
    rw [Nat.zero_add, List.map_id']
    grind
  | k + 1, a, Q, ha, hQ => by
    rw [show k + 1 + m = (k + m) + 1 by omega]
    show dtP (fun l => dtD (k + m) (l.map dtSh)) (a ++ Q) = dtP (fun l => dtD k (l.map dtSh)) a * _
    rw [dtP_blk (fun r hr => hQ r hr 0 (Nat.succ_pos k)), ← dtP_scl]
    refine dtP_len a _ _ fun l hl => ?_
    rw [List.map_append, dtD_blk m k (l.map dtSh) (Q.map dtSh) (by rw [List.length_map]; omega) (fun r hr j hj => by
      obtain ⟨r', h', rfl⟩ := List.mem_map.mp hr
      exact hQ r' h' (j + 1) (by omega)), List.map_map]
    rfl
/-- a row less some of those ahead -/
theorem dtD_span {n k : Nat} {a b : List (Nat → Int)} {v w : Nat → Int} {q : Nat → Int} {u : Nat → Nat → Int} (hu : ∀ l, l < k → u l ∈ a) (hv : ∀ j, v j = dtS k (fun l => q l * u l j) + w j) : dtD n (a ++ v :: b) = dtD n (a ++ w :: b) := by
  have e := dtD_lin (R := Int) n 1 1 a (fun j => dtS k fun l => q l * u l j) w b
  have f : (fun j => 1 * (fun j => dtS k fun l => q l * u l j) j + 1 * w j) = v := by
    funext j
    rw [hv j]
    show 1 * dtS k (fun l => q l * u l j) + 1 * w j = _
    omega
  rw [f, dtD_sum] at e
  rw [e, dtS_zero k fun l hl => by
    obtain ⟨a1, a2, e2⟩ := List.append_of_mem (hu l hl)
    rw [e2]
    have z := dtD_eqr (n := n) a1 (u l) b a2
    rw [List.append_assoc]
    show q l * dtD n (a1 ++ (u l :: (a2 ++ u l :: b))) = 0
    rw [z]
    exact Int.mul_zero _]
  omega
def dtSel (k c : Nat) (r : Nat → Int) : Nat → Int := fun j => if j < k then r j else if j = k then r c else 0
def dtMn (k : Nat) (P : Nat → Nat → Int) (i c : Nat) : Int := dtD (k + 1) (((List.range k).map fun l => dtSel k c (P l)) ++ [dtSel k c (P i)])
structure dtInv (n k : Nat) (P A : Nat → Nat → Int) (h : Int) : Prop where
  hH : h = dtD k ((List.range k).map fun l => dtR k (P l))
  h0 : h ≠ 0
  sp : ∀ i, k ≤ i → i < n → ∃ s : Int, s ≠ 0 ∧ ∃ q : Nat → Int, ∀ c, c < n → s * (h * P i c) = dtS k (fun l => q l * P l c) + s * (if c < k then 0 else A i c)
theorem dt_top {k c m : Nat} {P : Nat → Nat → Int} (hm : k ≤ m) : dtD k ((List.range k).map fun l => dtSel m c (P l)) = dtD k ((List.range k).map fun l => dtR k (P l)) := by
  rw [dtD_cg, List.map_map]
  congr 1
  refine List.map_congr_left fun l _ => ?_
  funext j
  show (if j < k then (if j < m then P l j else _) else 0) = if j < k then P l j else 0
  by_cases h : j < k
  · rw [if_pos h, if_pos h, if_pos (by omega)]
  · rw [if_neg h, if_neg h]
theorem dt_sel_sum {k m c : Nat} {q : Nat → Int} {P : Nat → Nat → Int} {x y : Int} {u w : Nat → Int} {n : Nat} (hc : c < n) (hm : m < n) (h : ∀ c, c < n → x * u c = dtS k (fun l => q l * P l c) + y * w c) : ∀ j, x * dtSel m c u j = dtS k (fun l => q l * dtSel m c (P l) j) + y * dtSel m c w j := fun j => by
  unfold dtSel
  by_cases h1 : j < m
  · simp only [if_pos h1]
    exact h j (by omega)
  · by_cases h2 : j = m
    · simp only [if_neg h1, if_pos h2]
      exact h c hc
    · simp only [if_neg h1, if_neg h2]
      rw [dtS_zero k fun l _ => Int.mul_zero _]
      omega
theorem dtD_1 (u : Nat → Int) : dtD 1 [u] = u 0 := by
  show u 0 * 1 - 0 = u 0
  omega
theorem dtD_2 (u v : Nat → Int) : dtD 2 [u, v] = u 0 * v 1 - u 1 * v 0 := by
  show u 0 * (v 1 * 1 - 0) - (v 0 * (u 1 * 1 - 0) - 0) = _
  grind
/-- the numbers of a stage are minors -/
theorem dtInv.mn {n k i c : Nat} {P A : Nat → Nat → Int} {h : Int} (I : dtInv n k P A h) (hi : k ≤ i) (hin : i < n) (hc : k ≤ c) (hcn : c < n) : A i c = dtMn k P i c := by
  obtain ⟨s, s0, q, e⟩ := I.sp i hi hin
  have e2 := dt_sel_sum (m := k) hcn (by omega) (x := s * h) (y := s) (u := P i) (w := fun c => if c < k then 0 else A i c) (fun c hc => by rw [← e c hc, Int.mul_assoc])
  have m1 : s * h * dtMn k P i c = dtD (k + 1) (((List.range k).map fun l => dtSel k c (P l)) ++ [fun j => s * h * dtSel k c (P i) j]) := (dtD_scl (s * h) _ _ []).symm
  rw [dtD_span (w := fun j => s * dtSel k c (fun c => if c < k then 0 else A i c) j) (u := fun l => dtSel k c (P l)) (fun l hl => List.mem_map.mpr ⟨l, List.mem_range.mpr hl, rfl⟩) e2, dtD_scl, dtD_blk 1 k _ _ (by rw [List.length_map, List.length_range]) (fun r hr j hj => by
    rw [List.mem_singleton.mp hr]
    show (if j < k then (if j < k then 0 else A i j) else _) = 0
    rw [if_pos hj, if_pos hj]), dt_top (Nat.le_refl k), ← I.hH, List.map_cons, List.map_nil, dtD_1] at m1
  have m2 : dtSel k c (fun c => if c < k then 0 else A i c) (0 + k) = A i c := by
    unfold dtSel
    rw [Nat.zero_add, if_neg (Nat.lt_irrefl k), if_pos rfl]
    exact if_neg (by omega)
  rw [m2] at m1
  have m3 : s * h * dtMn k P i c = s * h * A i c := by rw [m1, Int.mul_assoc]
  exact (Int.eq_of_mul_eq_mul_left (by
    intro z
    rcases Int.mul_eq_zero.mp z with z | z
    · exact s0 z
    · exact I.h0 z) m3).symm
theorem dtInv.syl {n k i c : Nat} {P A : Nat → Nat → Int} {h : Int} (I : dtInv n k P A h) (hi : k < i) (hin : i < n) (hc : k < c) (hcn : c < n) : h * dtMn (k + 1) P i c = A i c * A k k - A i k * A k c := by
  obtain ⟨s, s0, q, e⟩ := I.sp i (by omega) hin
  obtain ⟨t, t0, r, f⟩ := I.sp k (Nat.le_refl k) (by omega)
  have e2 := dt_sel_sum (m := k + 1) hcn (by omega) (x := s * h) (y := s) (u := P i) (w := fun c => if c < k then 0 else A i c) (fun c hc => by rw [← e c hc, Int.mul_assoc])
  have f2 := dt_sel_sum (m := k + 1) hcn (by omega) (x := t * h) (y := t) (u := P k) (w := fun c => if c < k then 0 else A k c) (fun c hc => by rw [← f c hc, Int.mul_assoc])
  have l1 : ((List.range (k + 1)).map fun l => dtSel (k + 1) c (P l)) ++ [dtSel (k + 1) c (P i)] = ((List.range k).map fun l => dtSel (k + 1) c (P l)) ++ dtSel (k + 1) c (P k) :: [dtSel (k + 1) c (P i)] := by
    rw [List.range_succ, List.map_append, List.append_assoc]
    rfl
  have m1 : (t * h) * ((s * h) * dtMn (k + 1) P i c) = dtD (k + 2) (((List.range k).map fun l => dtSel (k + 1) c (P l)) ++ (fun j => t * h * dtSel (k + 1) c (P k) j) :: [fun j => s * h * dtSel (k + 1) c (P i) j]) := by
    unfold dtMn
    rw [l1, dtD_scl]
    congr 1
    have := dtD_scl (n := k + 2) (s * h) (((List.range k).map fun l => dtSel (k + 1) c (P l)) ++ [dtSel (k + 1) c (P k)]) (dtSel (k + 1) c (P i)) []
    rw [List.append_assoc, List.append_assoc] at this
    exact this.symm
  have hmem : ∀ l, l < k → dtSel (k + 1) c (P l) ∈ ((List.range k).map fun l => dtSel (k + 1) c (P l)) := fun l hl => List.mem_map.mpr ⟨l, List.mem_range.mpr hl, rfl⟩
  rw [dtD_span (w := fun j => t * dtSel (k + 1) c (fun c => if c < k then 0 else A k c) j) (u := fun l => dtSel (k + 1) c (P l)) hmem f2, dtD_scl] at m1
  have m2 := dtD_span (n := k + 2) (a := ((List.range k).map fun l => dtSel (k + 1) c (P l)) ++ [dtSel (k + 1) c (fun c => if c < k then 0 else A k c)]) (b := []) (v := fun j => s * h * dtSel (k + 1) c (P i) j) (w := fun j => s * dtSel (k + 1) c (fun c => if c < k then 0 else A i c) j) (u := fun l => dtSel (k + 1) c (P l)) (fun l hl => List.mem_append.mpr (.inl (hmem l hl))) e2
  have m3 := dtD_scl (n := k + 2) s (((List.range k).map fun l => dtSel (k + 1) c (P l)) ++ [dtSel (k + 1) c (fun c => if c < k then 0 else A k c)]) (dtSel (k + 1) c (fun c => if c < k then 0 else A i c)) []
  rw [m3] at m2
  rw [List.append_assoc, List.append_assoc] at m2
  have m2 : dtD (k + 2) (((List.range k).map fun l => dtSel (k + 1) c (P l)) ++ (dtSel (k + 1) c (fun c => if c < k then 0 else A k c)) :: [fun j => s * h * dtSel (k + 1) c (P i) j]) = s * dtD (k + 2) (((List.range k).map fun l => dtSel (k + 1) c (P l)) ++ [dtSel (k + 1) c (fun c => if c < k then 0 else A k c), dtSel (k + 1) c (fun c => if c < k then 0 else A i c)]) := m2
  rw [m2, dtD_blk 2 k _ _ (by rw [List.length_map, List.length_range]) (fun r hr j hj => by
    simp only [List.mem_cons, List.not_mem_nil, or_false] at hr
    rcases hr with rfl | rfl
    · show (if j < k + 1 then (if j < k then 0 else A k j) else _) = 0
      rw [if_pos (by omega), if_pos hj]
    · show (if j < k + 1 then (if j < k then 0 else A i j) else _) = 0
      rw [if_pos (by omega), if_pos hj]), dt_top (by omega), ← I.hH, List.map_cons, List.map_cons, List.map_nil, dtD_2] at m1
  have g0 : ∀ x, dtSel (k + 1) c (fun c => if c < k then 0 else A x c) (0 + k) = A x k := fun x => by
    unfold dtSel
    rw [Nat.zero_add, if_pos (by omega)]
    exact if_neg (by omega)
  have g1 : ∀ x, dtSel (k + 1) c (fun c => if c < k then 0 else A x c) (1 + k) = A x c := fun x => by
    unfold dtSel
    rw [if_neg (by omega), if_pos (by omega)]
    exact if_neg (by omega)
  rw [g0, g0, g1, g1] at m1
  have hne : t * (h * s) ≠ 0 := fun z => by
    rcases Int.mul_eq_zero.mp z with z | z
    · exact t0 z
    · rcases Int.mul_eq_zero.mp z with z | z
      · exact I.h0 z
      · exact s0 z
  refine Int.eq_of_mul_eq_mul_left hne ?_
  rw [show t * (h * s) * (h * dtMn (k + 1) P i c) = t * h * (s * h * dtMn (k + 1) P i c) by grind, m1]
  grind
theorem dtInv.red {n k i c : Nat} {P A : Nat → Nat → Int} {h : Int} (I : dtInv n k P A h) (hi : k < i) (hin : i < n) (hc : k < c) (hcn : c < n) : h * redA A k h i c = A i c * A k k - A i k * A k c := by
  have e := I.syl hi hin hc hcn
  unfold redA redV
  rw [if_pos ⟨hi, hc⟩, ← e, Int.mul_fdiv_cancel_left _ I.h0]
theorem dtInv.next {n k : Nat} {P A : Nat → Nat → Int} {h : Int} (I : dtInv n k P A h) (hk : k < n) (hp : A k k ≠ 0) : dtInv n (k + 1) P (redA A k h) (A k k) := by
  refine ⟨?_, hp, fun i hi hin => ?_⟩
  · rw [I.mn (Nat.le_refl k) hk (Nat.le_refl k) hk]
    unfold dtMn
    have l1 : ((List.range k).map fun l => dtSel k k (P l)) ++ [dtSel k k (P k)] = (List.range (k + 1)).map fun l => dtSel k k (P l) := by
      rw [List.range_succ, List.map_append]
      rfl
    rw [l1]
    congr 1
    refine List.map_congr_left fun l _ => ?_
    funext j
    unfold dtSel dtR
    by_cases h1 : j < k
    · rw [if_pos h1, if_pos (by omega)]
    · by_cases h2 : j = k
      · rw [if_neg h1, if_pos h2, if_pos (by omega), h2]
      · rw [if_neg h1, if_neg h2, if_neg (by omega)]
  · obtain ⟨s, s0, q, e⟩ := I.sp i (by omega) hin
    obtain ⟨t, t0, r, f⟩ := I.sp k (Nat.le_refl k) hk
    refine ⟨s * t * h, fun z => ?_, fun l => if l < k then t * A k k * q l - s * A i k * r l else s * A i k * (t * h), fun c hc => ?_⟩
    · rcases Int.mul_eq_zero.mp z with z | z
      · rcases Int.mul_eq_zero.mp z with z | z
        · exact s0 z
        · exact t0 z
      · exact I.h0 z
    · have ec := e c hc
      have fc := f c hc
      have hz : h * (if c < k + 1 then 0 else redA A k h i c) = A k k * (if c < k then 0 else A i c) - A i k * (if c < k then 0 else A k c) := by
        by_cases h1 : c < k
        · rw [if_pos (by omega), if_pos h1, if_pos h1]
          omega
        · by_cases h2 : c = k
          · rw [if_pos (by omega), if_neg h1, if_neg h1, h2]
            grind
          · rw [if_neg (by omega), if_neg h1, if_neg h1, I.red (by omega) hin (by omega) hc]
            grind
      have hs : dtS (k + 1) (fun l => (if l < k then t * A k k * q l - s * A i k * r l else s * A i k * (t * h)) * P l c) = t * A k k * dtS k (fun l => q l * P l c) + - (s * A i k) * dtS k (fun l => r l * P l c) + s * A i k * (t * h) * P k c := by
        show dtS k _ + (if k < k then _ else s * A i k * (t * h)) * P k c = _
        rw [if_neg (Nat.lt_irrefl k), ← dtS_mul, ← dtS_mul, ← dtS_add]
        congr 1
        refine dtS_congr k fun l hl => ?_
        rw [if_pos hl]
        grind
      rw [hs]
      generalize (if c < k + 1 then 0 else redA A k h i c) = X at *
      generalize (if c < k then 0 else A i c) = Y at *
      generalize (if c < k then 0 else A k c) = Z at *
      generalize dtS k (fun l => q l * P l c) = S1 at *
      generalize dtS k (fun l => r l * P l c) = S2 at *
      grind
theorem dtInv.swp {n k s : Nat} {P A : Nat → Nat → Int} {h : Int} (I : dtInv n k P A h) (hk : k ≤ s) (hs : s < n) : dtInv n k (pvA P k s) (pvA A k s) h := by
  unfold pvA
  by_cases c : s = k
  · rw [if_pos c, if_pos c]
    exact I
  · rw [if_neg c, if_neg c]
    have lo : ∀ l, l < k → swpA P k s l = P l := fun l hl => by
      unfold swpA
      rw [if_neg (by omega), if_neg (by omega)]
    refine ⟨?_, I.h0, fun i hi hin => ?_⟩
    · rw [I.hH]
      congr 1
      refine List.map_congr_left fun l hl => ?_
      rw [lo l (List.mem_range.mp hl)]
    · have g : ∀ j, k ≤ j → j < n → swpA P k s i = P j → swpA A k s i = A j → ∃ z : Int, z ≠ 0 ∧ ∃ q : Nat → Int, ∀ c, c < n → z * (h * swpA P k s i c) = dtS k (fun l => q l * swpA P k s l c) + z * (if c < k then 0 else swpA A k s i c) := fun j h1 h2 e1 e2 => by
        obtain ⟨z, z0, q, e⟩ := I.sp j h1 h2
        refine ⟨z, z0, q, fun c hc => ?_⟩
        rw [e1, e2, e c hc]
        congr 1
        exact dtS_congr k fun l hl => by rw [lo l hl]
      unfold swpA at g ⊢
      by_cases h1 : i = k
      · exact g s hk hs (by rw [if_pos h1]) (by rw [if_pos h1])
      · by_cases h2 : i = s
        · exact g k (Nat.le_refl k) (by omega) (by rw [if_neg h1, if_pos h2]) (by rw [if_neg h1, if_pos h2])
        · exact g i hi hin (by rw [if_neg h1, if_neg h2]) (by rw [if_neg h1, if_neg h2])
theorem dt_set2 {α : Type} {a m b : List α} {x y z w : α} : ((a ++ x :: (m ++ y :: b)).set a.length z).set (a.length + 1 + m.length) w = a ++ z :: (m ++ w :: b) := by
  rw [List.set_append_right _ _ (Nat.le_refl _), Nat.sub_self, List.set_cons_zero, List.set_append_right _ _ (by omega), show a.length + 1 + m.length - a.length = m.length + 1 by omega, List.set_cons_succ, List.set_append_right _ _ (Nat.le_refl _), Nat.sub_self, List.set_cons_zero]
theorem dt_swpD {n k s : Nat} {P : Nat → Nat → Int} (hk : k ≤ s) (hs : s < n) : dtD n (dtM n (pvA P k s)) = if s = k then dtD n (dtM n P) else - dtD n (dtM n P) := by
  unfold pvA
  by_cases c : s = k
  · rw [if_pos c, if_pos c]
  · rw [if_neg c, if_neg c]
    obtain ⟨a, b, e, hl, _⟩ := dt_spl (dtM_get (n := n) (i := k) (M := P) (by omega))
    have g : b[s - k - 1]? = some (dtR n (P s)) := by
      have h2 := dtM_get (n := n) (i := s) (M := P) hs
      rw [e, List.getElem?_append_right (by omega), hl, show s - k = (s - k - 1) + 1 by omega, List.getElem?_cons_succ] at h2
      exact h2
    obtain ⟨m, b', e2, hl2, _⟩ := dt_spl g
    have e3 : dtM n (swpA P k s) = ((dtM n P).set k (dtR n (P s))).set s (dtR n (P k)) := by
      unfold dtM
      rw [map_range_set, map_range_set]
      refine List.map_congr_left fun i _ => ?_
      unfold swpA
      by_cases h1 : i = k
      · rw [if_pos h1, if_neg (by omega), if_pos h1]
      · by_cases h2 : i = s
        · rw [if_neg h1, if_pos h2, if_pos h2]
        · rw [if_neg h1, if_neg h2, if_neg h2, if_neg h1]
    have e4 := @dt_set2 _ a m b' (dtR n (P k)) (dtR n (P s)) (dtR n (P s)) (dtR n (P k))
    rw [hl, hl2, show k + 1 + (s - k - 1) = s by omega, ← e2, ← e] at e4
    rw [e3, e4, dtD_swap, e, e2]
/-- no number to part by -/
theorem dtInv.none {n k : Nat} {P A : Nat → Nat → Int} {h : Int} (I : dtInv n k P A h) (hk : k < n) (hz : ∀ s, k ≤ s → s < n → A s k = 0) : dtD n (dtM n P) = 0 := by
  have key : ∀ (L : List Nat) (pre : List (Nat → Int)), (∀ i ∈ L, k ≤ i ∧ i < n) → h ^ L.length * dtD n (((List.range k).map fun l => dtR n (P l)) ++ pre ++ L.map fun i => dtR n (P i)) = dtD n (((List.range k).map fun l => dtR n (P l)) ++ pre ++ L.map fun i => dtR n fun c => if c < k then 0 else A i c) := fun L => by
    induction L with
    | nil =>
      intro pre _
      rw [List.length_nil, Int.pow_zero, Int.one_mul]
      rfl
    | cons i L ih =>
      intro pre hL
      obtain ⟨h1, h2⟩ := hL i List.mem_cons_self
      obtain ⟨s, s0, q, e⟩ := I.sp i h1 h2
      have i1 := ih (pre ++ [dtR n fun c => if c < k then 0 else A i c]) fun j hj => hL j (List.mem_cons_of_mem _ hj)
      have m1 : (s * h) * dtD n (((List.range k).map fun l => dtR n (P l)) ++ pre ++ dtR n (P i) :: L.map fun i => dtR n (P i)) = s * dtD n (((List.range k).map fun l => dtR n (P l)) ++ pre ++ (dtR n fun c => if c < k then 0 else A i c) :: L.map fun i => dtR n (P i)) := by
        rw [← dtD_scl, ← dtD_scl]
        refine dtD_span (k := k) (q := q) (u := fun l => dtR n (P l)) (fun l hl => List.mem_append.mpr (.inl (List.mem_map.mpr ⟨l, List.mem_range.mpr hl, rfl⟩))) fun j => ?_
        unfold dtR
        by_cases hj : j < n
        · simp only [if_pos hj]
          rw [← e j hj, Int.mul_assoc]
        · simp only [if_neg hj]
          rw [dtS_zero k fun l _ => Int.mul_zero _]
          omega
      have m2 : h * dtD n (((List.range k).map fun l => dtR n (P l)) ++ pre ++ dtR n (P i) :: L.map fun i => dtR n (P i)) = dtD n (((List.range k).map fun l => dtR n (P l)) ++ pre ++ (dtR n fun c => if c < k then 0 else A i c) :: L.map fun i => dtR n (P i)) := by
        refine Int.eq_of_mul_eq_mul_left s0 ?_
        rw [← Int.mul_assoc]
        exact m1
      rw [List.length_cons, Int.pow_succ, Int.mul_assoc, List.map_cons, List.map_cons, m2]
      rw [show ∀ (X Y : List (Nat → Int)) (z : Nat → Int), X ++ pre ++ z :: Y = X ++ (pre ++ [z]) ++ Y from fun X Y z => by rw [List.append_assoc, List.append_assoc, List.append_assoc]; rfl, i1]
      rw [show ∀ (X Y : List (Nat → Int)) (z : Nat → Int), X ++ pre ++ z :: Y = X ++ (pre ++ [z]) ++ Y from fun X Y z => by rw [List.append_assoc, List.append_assoc, List.append_assoc]; rfl]
  have e := key ((List.range (n - k)).map (k + ·)) [] fun i hi => by
    obtain ⟨x, hx, rfl⟩ := List.mem_map.mp hi
    have := List.mem_range.mp hx
    omega
  rw [List.append_nil] at e
  have l1 : ((List.range k).map fun l => dtR n (P l)) ++ (((List.range (n - k)).map (k + ·)).map fun i => dtR n (P i)) = dtM n P := by
    unfold dtM
    rw [← List.map_append]
    congr 1
    have := List.range_add (n := k) (m := n - k)
    rw [show k + (n - k) = n by omega] at this
    exact this.symm
  rw [l1] at e
  have z : dtD n (((List.range k).map fun l => dtR n (P l)) ++ ((List.range (n - k)).map (k + ·)).map fun i => dtR n fun c => if c < k then 0 else A i c) = 0 := by
    have b := dtD_blk (n - k) k ((List.range k).map fun l => dtR n (P l)) (((List.range (n - k)).map (k + ·)).map fun i => dtR n fun c => if c < k then 0 else A i c) (by rw [List.length_map, List.length_range]) (fun r hr j hj => by
      obtain ⟨i, _, rfl⟩ := List.mem_map.mp hr
      unfold dtR
      rw [if_pos (by omega)]
      exact if_pos hj)
    rw [show k + (n - k) = n by omega] at b
    rw [b, show n - k = (n - k - 1) + 1 by omega]
    show _ * dtP _ _ = 0
    rw [dtP_clr]
    · exact Int.mul_zero _
    · intro r hr
      obtain ⟨r', h', rfl⟩ := List.mem_map.mp hr
      obtain ⟨i, hi, rfl⟩ := List.mem_map.mp h'
      obtain ⟨x, hx, rfl⟩ := List.mem_map.mp hi
      have := List.mem_range.mp hx
      show (if 0 + k < n then (if 0 + k < k then 0 else A (k + x) (0 + k)) else 0) = 0
      rw [Nat.zero_add, if_pos hk, if_neg (Nat.lt_irrefl k)]
      exact hz _ (by omega) (by omega)
  rw [z] at e
  rcases Int.mul_eq_zero.mp e with e | e
  · exact absurd e (fun q => by
      have : ∀ m : Nat, h ^ m ≠ 0 := fun m => by
        induction m with
        | zero => rw [Int.pow_zero]; decide
        | succ m ih =>
          rw [Int.pow_succ]
          intro z
          rcases Int.mul_eq_zero.mp z with z | z
          · exact ih z
          · exact I.h0 z
      exact this _ q)
  · exact e
/-- bounds -/
theorem dtP_bd {a F : Nat} : ∀ (l : List (Nat → Int)) (f : List (Nat → Int) → Int), (∀ m, (∀ r ∈ m, ∀ j, (r j).natAbs ≤ a) → m.length + 1 = l.length → (f m).natAbs ≤ F) → (∀ r ∈ l, ∀ j, (r j).natAbs ≤ a) → (dtP f l).natAbs ≤ l.length * (a * F)
  | [], _, _, _ => Nat.zero_le _
  | r :: l, f, hf, hl => by
    have ih := dtP_bd (a := a) (F := F) l (fun m => f (r :: m)) (fun m hm hlen => hf (r :: m) (fun x hx => by
      rcases List.mem_cons.mp hx with rfl | hx
      · exact hl _ List.mem_cons_self
      · exact hm x hx) (by rw [List.length_cons, List.length_cons, hlen])) fun x hx => hl x (List.mem_cons_of_mem _ hx)
    have h1 : (r 0 * f l).natAbs ≤ a * F := by
      rw [Int.natAbs_mul]
      exact Nat.mul_le_mul (hl r List.mem_cons_self 0) (hf l (fun x hx => hl x (List.mem_cons_of_mem _ hx)) rfl)
    show (r 0 * f l - dtP (fun m => f (r :: m)) l).natAbs ≤ (l.length + 1) * (a * F)
    rw [Nat.succ_mul]
    omega
theorem dtD_bd {a N : Nat} : ∀ (n : Nat) (l : List (Nat → Int)), l.length ≤ N → (∀ r ∈ l, ∀ j, (r j).natAbs ≤ a) → (dtD n l).natAbs ≤ (N * a) ^ n
  | 0, [], _, _ => by
    show (1 : Int).natAbs ≤ _
    rw [Nat.pow_zero]
    decide
  | 0, _ :: _, _, _ => Nat.zero_le _
  | n + 1, l, hN, hl => by
    have := dtP_bd (a := a) (F := (N * a) ^ n) l (fun l => dtD n (l.map dtSh)) (fun m hm hlen => dtD_bd n (m.map dtSh) (by rw [List.length_map]; omega) fun r hr j => by
      obtain ⟨r', h', rfl⟩ := List.mem_map.mp hr
      exact hm r' h' (j + 1)) hl
    refine Nat.le_trans this ?_
    rw [Nat.pow_succ, Nat.mul_comm ((N * a) ^ n), Nat.mul_assoc]
    exact Nat.mul_le_mul_right _ hN
theorem dtMn_bd {a k i c N : Nat} {P : Nat → Nat → Int} (hN : k + 1 ≤ N) (hP : ∀ i j, (P i j).natAbs ≤ a) : (dtMn k P i c).natAbs ≤ (N * a) ^ (k + 1) := by
  unfold dtMn
  refine dtD_bd _ _ (by rw [List.length_append, List.length_map, List.length_range, List.length_singleton]; exact hN) fun r hr j => ?_
  have g : ∀ x, (dtSel k c (P x) j).natAbs ≤ a := fun x => by
    unfold dtSel
    split
    · exact hP _ _
    · split
      · exact hP _ _
      · exact Nat.zero_le _
  rcases List.mem_append.mp hr with hr | hr
  · obtain ⟨x, _, rfl⟩ := List.mem_map.mp hr
    exact g x
  · rw [List.mem_singleton.mp hr]
    exact g i
theorem dt_log {x : Int} {m : Nat} (h : x.natAbs < 2 ^ m) (hm : m ≤ 9000) (h0 : 0 < m) : x.natAbs.log2 < 9000 := by
  by_cases e : x.natAbs = 0
  · rw [e]
    decide
  · exact Nat.lt_of_lt_of_le ((Nat.log2_lt e).mpr h) hm
theorem pvA_bd {a k s : Nat} {P : Nat → Nat → Int} (h : ∀ i j, (P i j).natAbs ≤ a) : ∀ i j, (pvA P k s i j).natAbs ≤ a := fun i j => by
  unfold pvA
  split
  · exact h i j
  · unfold swpA
    split
    · exact h _ _
    · split
      · exact h _ _
      · exact h _ _
theorem pivL_nil {n k : Nat} {A : Nat → Nat → Int} (h : pivL n A k = []) : ∀ s, k ≤ s → s < n → A s k = 0 := fun s h1 h2 => by
  by_cases e : A s k = 0
  · exact e
  · have : s ∈ pivL n A k := by
      unfold pivL
      exact List.mem_filter.mpr ⟨List.mem_map.mpr ⟨s - k, List.mem_range.mpr (by omega), by omega⟩, decide_eq_true e⟩
    rw [h] at this
    exact nomatch this
theorem bar_main {n a M : Nat} {D0 : Int} (hM : M ≤ 8999) (hb : (n * a) ^ n < 2 ^ M) (hna : 0 < n * a) (hM0 : 0 < M) : ∀ (f k : Nat) (sg h : Int) (A P : Nat → Nat → Int), k + f + 1 = n → dtInv n k P A h → sg * dtD n (dtM n P) = D0 → (∀ i j, (P i j).natAbs ≤ a) → h.natAbs < 2 ^ M →
    BarOk n f k h A ∧ (match barR n f k sg h A with | none => D0 = 0 | some q => q.1 * q.2 (n - 1) (n - 1) = D0)
  | 0, k, sg, h, A, P, hk, I, hD, hP, hh => by
    refine ⟨True.intro, ?_⟩
    show sg * A (n - 1) (n - 1) = D0
    have e : n - 1 = k := by omega
    rw [e, I.mn (Nat.le_refl k) (by omega) (Nat.le_refl k) (by omega), ← hD]
    congr 1
    unfold dtMn dtM
    rw [show n = k + 1 by omega]
    have l1 : ((List.range k).map fun l => dtSel k k (P l)) ++ [dtSel k k (P k)] = (List.range (k + 1)).map fun l => dtSel k k (P l) := by
      rw [List.range_succ, List.map_append]
      rfl
    rw [l1]
    congr 1
    refine List.map_congr_left fun l _ => ?_
    funext j
    unfold dtSel dtR
    by_cases h1 : j < k
    · rw [if_pos h1, if_pos (by omega)]
    · by_cases h2 : j = k
      · rw [if_neg h1, if_pos h2, if_pos (by omega), h2]
      · rw [if_neg h1, if_neg h2, if_neg (by omega)]
  | f + 1, k, sg, h, A, P, hk, I, hD, hP, hh => by
    cases e : pivL n A k with
    | nil =>
      have z := I.none (by omega) (pivL_nil e)
      rw [z, Int.mul_zero] at hD
      have e1 : BarOk n (f + 1) k h A := by
        unfold BarOk
        rw [e]
        exact True.intro
      have e2 : barR n (f + 1) k sg h A = none := by
        unfold barR
        rw [e]
      rw [e2]
      exact ⟨e1, hD.symm⟩
    | cons s r =>
      obtain ⟨h1, h2, h3⟩ := piv_mem e
      have I1 := I.swp h1 h2
      have hp : pvA A k s k k ≠ 0 := by
        unfold pvA
        by_cases c : s = k
        · rw [if_pos c]
          rw [c] at h3
          exact h3
        · rw [if_neg c]
          unfold swpA
          rw [if_pos rfl]
          exact h3
      have I2 := I1.next (by omega) hp
      have hP1 := pvA_bd (k := k) (s := s) hP
      have bd : ∀ i j, k ≤ i → i < n → k ≤ j → j < n → (pvA A k s i j).natAbs < 2 ^ M := fun i j a1 a2 a3 a4 => by
        rw [I1.mn a1 a2 a3 a4]
        refine Nat.lt_of_le_of_lt (dtMn_bd (N := n) (by omega) hP1) (Nat.lt_of_le_of_lt (Nat.pow_le_pow_right hna (by omega)) hb)
      have hD1 : pvS sg k s * dtD n (dtM n (pvA P k s)) = D0 := by
        rw [dt_swpD h1 h2, ← hD]
        unfold pvS
        by_cases c : s = k
        · rw [if_pos c, if_pos c]
        · rw [if_neg c, if_neg c]
          grind
      have ih := bar_main hM hb hna hM0 f (k + 1) (pvS sg k s) (pvA A k s k k) (redA (pvA A k s) k h) (pvA P k s) (by omega) I2 hD1 hP1 (bd k k (Nat.le_refl k) (by omega) (Nat.le_refl k) (by omega))
      have lg : ∀ i j, k ≤ i → i < n → k ≤ j → j < n → (pvA A k s i j).natAbs.log2 < 9000 := fun i j a1 a2 a3 a4 => dt_log (bd i j a1 a2 a3 a4) (by omega) hM0
      have mo : ∀ i j u v, k ≤ i → i < n → k ≤ j → j < n → k ≤ u → u < n → k ≤ v → v < n → Sim.MulOk (pvA A k s i j) (pvA A k s u v) := fun i j u v a1 a2 a3 a4 b1 b2 b3 b4 => .inr (.inr (by
        have := lg i j a1 a2 a3 a4
        have := lg u v b1 b2 b3 b4
        omega))
      have e1 : BarOk n (f + 1) k h A := by
        unfold BarOk
        rw [e]
        exact ⟨fun i j a1 a2 a3 a4 => mo i j k k (by omega) a2 (by omega) a4 (Nat.le_refl k) (by omega) (Nat.le_refl k) (by omega), fun i j a1 a2 a3 a4 => mo i k k j (by omega) a2 (Nat.le_refl k) (by omega) (Nat.le_refl k) (by omega) (by omega) a4, ⟨I.h0, dt_log hh (by omega) hM0⟩, ih.1⟩
      have e2 : barR n (f + 1) k sg h A = barR n f (k + 1) (pvS sg k s) (pvA A k s k k) (redA (pvA A k s) k h) := by
        show (match pivL n A k with | [] => _ | s :: _ => _) = _
        rw [e]
      rw [e2]
      exact ⟨e1, ih.2⟩
theorem bar_x {n a M : Nat} {A : Nat → Nat → Int} (hM : M ≤ 8999) (hb : (n * a) ^ n < 2 ^ M) (ha : 0 < a) (hM0 : 0 < M) (hA : ∀ i j, (A i j).natAbs ≤ a) : BarOk n (n - 1) 0 1 A ∧ barD n A = dtD n (dtM n A) := by
  cases n with
  | zero => exact ⟨True.intro, rfl⟩
  | succ m =>
    have I : dtInv (m + 1) 0 A A 1 := ⟨rfl, by decide, fun i _ _ => ⟨1, by decide, fun _ => 0, fun c _ => by
      show 1 * (1 * A i c) = 0 + 1 * A i c
      omega⟩⟩
    have h1 : (1 : Int).natAbs < 2 ^ M := by
      show 1 < 2 ^ M
      exact Nat.one_lt_two_pow (by omega)
    obtain ⟨e1, e2⟩ := bar_main hM hb (Nat.mul_pos (Nat.succ_pos m) ha) hM0 m 0 1 1 A A (by omega) I (Int.one_mul _) hA h1
    refine ⟨e1, ?_⟩
    unfold barD
    show (match barR (m + 1) m 0 1 1 A with | none => 0 | some (sg, A') => if m + 1 = 0 then 1 else sg * A' (m + 1 - 1) (m + 1 - 1)) = _
    cases q : barR (m + 1) m 0 1 1 A with
    | none =>
      rw [q] at e2
      exact e2.symm
    | some v =>
      rw [q] at e2
      obtain ⟨sg, A'⟩ := v
      show (if m + 1 = 0 then 1 else sg * A' (m + 1 - 1) (m + 1 - 1)) = _
      rw [if_neg (Nat.succ_ne_zero m)]
      exact e2
/-! the wide polynomial told by the program is the table's -/
theorem dtS_sum {f : Nat → Int} : ∀ n, ((List.range n).map f).sum = dtS n f
  | 0 => rfl
  | n + 1 => by
    rw [List.range_succ, List.map_append, List.sum_append, dtS_sum n]
    show dtS n f + (f n + 0) = dtS n f + f n
    omega
theorem dtS_abs {f : Nat → Int} {b : Nat} : ∀ n, (∀ i, i < n → (f i).natAbs ≤ b) → (dtS n f).natAbs ≤ n * b
  | 0, _ => by
    show (0 : Int).natAbs ≤ 0 * b
    rw [Nat.zero_mul]
    exact Nat.le_refl 0
  | n + 1, h => by
    have h1 := dtS_abs n fun i hi => h i (Nat.lt_succ_of_lt hi)
    have h2 := h n (Nat.lt_succ_self n)
    show (dtS n f + f n).natAbs ≤ (n + 1) * b
    rw [Nat.succ_mul]
    omega
theorem dtp_bd1 {n t a b : Nat} {A : Nat → Nat → Int} (ht : t < n) (hA : ∀ i j, (A i j).natAbs ≤ a) (hB : ∀ i k, i < n → k < n → (dtB n A t i k).natAbs ≤ b) : (dtp n A t).natAbs ≤ n * (n * (a * b)) := by
  have e := dt_AB (n := n) (t := t) (A := A)
  have h := dtS_abs (f := fun i => dtS n fun j => A i j * dtB n A t j i) (b := n * (a * b)) n fun i hi => dtS_abs n fun j hj => by
    rw [Int.natAbs_mul]
    exact Nat.mul_le_mul (hA i j) (hB j i hj hi)
  rw [e, Int.natAbs_mul] at h
  have h1 : 1 ≤ ((t : Int) - n).natAbs := by omega
  calc (dtp n A t).natAbs = 1 * (dtp n A t).natAbs := (Nat.one_mul _).symm
    _ ≤ ((t : Int) - n).natAbs * (dtp n A t).natAbs := Nat.mul_le_mul_right _ h1
    _ ≤ _ := h
theorem dtB_bd {n a : Nat} {A : Nat → Nat → Int} (hA : ∀ i j, (A i j).natAbs ≤ a) : ∀ (d : Nat), d + 1 ≤ n → ∀ i k, i < n → k < n → (dtB n A (n - 1 - d) i k).natAbs ≤ (2 * (n * (n * a))) ^ d
  | 0, hd, i, k, hi, hk => by
    have e := dt_rec (t := n) (A := A) hi hk
    rw [dtS_zero n fun j hj => by rw [dtB_top hj hk]; exact Int.mul_zero _, dtp_lead] at e
    rw [show n = (n - 1) + 1 by omega] at e
    have e : 1 * dtB (n - 1 + 1) A (n - 1) i k = 0 + if i = k then 1 else 0 := e
    rw [show n - 1 + 1 = n by omega, Int.one_mul] at e
    rw [Nat.sub_zero, e, Nat.pow_zero]
    split <;> decide
  | d + 1, hd, i, k, hi, hk => by
    have ih := dtB_bd (n := n) hA d (by omega)
    have e := dt_rec (t := n - 1 - d) (A := A) hi hk
    rw [show dtPv 1 (fun t => dtB n A t i k) (n - 1 - d) = dtB n A (n - 1 - (d + 1)) i k by
      rw [show n - 1 - d = (n - 1 - (d + 1)) + 1 by omega]
      exact Int.one_mul _] at e
    rw [e]
    have h1 := dtS_abs (f := fun j => A i j * dtB n A (n - 1 - d) j k) (b := a * (2 * (n * (n * a))) ^ d) n fun j hj => by
      rw [Int.natAbs_mul]
      exact Nat.mul_le_mul (hA i j) (ih j k hj hk)
    have h2 := dtp_bd1 (t := n - 1 - d) (b := (2 * (n * (n * a))) ^ d) (by omega) hA ih
    have h3 : (if i = k then dtp n A (n - 1 - d) else 0).natAbs ≤ n * (n * (a * (2 * (n * (n * a))) ^ d)) := by
      split
      · exact h2
      · exact Nat.zero_le _
    have h4 : n * (a * (2 * (n * (n * a))) ^ d) ≤ n * (n * (a * (2 * (n * (n * a))) ^ d)) := by
      refine Nat.mul_le_mul_left n ?_
      calc a * (2 * (n * (n * a))) ^ d = 1 * (a * (2 * (n * (n * a))) ^ d) := (Nat.one_mul _).symm
        _ ≤ n * (a * (2 * (n * (n * a))) ^ d) := Nat.mul_le_mul_right _ (show 1 ≤ n by omega)
    rw [Nat.pow_succ, Nat.mul_comm ((2 * (n * (n * a))) ^ d)]
    rw [show 2 * (n * (n * a)) * (2 * (n * (n * a))) ^ d = 2 * (n * (n * (a * (2 * (n * (n * a))) ^ d))) by simp only [Nat.mul_assoc]]
    omega
theorem mulM_S {n i j : Nat} {T F : Nat → Nat → Int} : mulM n T F i j = dtS n fun l => T i l * F l j := dtS_sum n
theorem wbody2 {n t : Nat} {T F : Nat → Nat → Int} {c : Nat → Int} {f5 : Option SV} {k : Int} (hn : n ≤ 1000) (ht : t ≤ 1000) (hk : 0 < k) (hk2 : k ≤ 1000) (hm : ∀ i l j, i < n → l < n → j < n → Sim.MulOk (T i l) (pD F (c t) l j)) :
    fb_wide_1 [some (.sh (.lst (mat n T))), some (.fr (fnd t c)), some (.sh (.int (n : Nat))), some (.fr (mat n F)), some (.sh (.int k)), f5, none, none] =
      some (.nx [some (.sh (.lst (mat n T))), some (.fr (fnd (t + 1) fun i => if i = t + 1 then 0 - trM n (mulM n T (pD F (c t))) / k else c i)), some (.sh (.int (n : Nat))), some (.fr (mat n (mulM n T (pD F (c t))))), some (.sh (.int k)), f5, none, none]) := by
  have p := plus_x (F := F) (t := t) (c := c) (f0 := some (.sh (.lst (mat n T)))) (f4 := some (.sh (.int k))) (f5 := f5) hn
  have tx := times_x (T := T) (F := pD F (c t)) hn hm
  have tr := trace_x (F := mulM n T (pD F (c t))) hn
  have tr : phi_trace [.lst (mat n (mulM n T (pD F (c t))))] = some (.ret (.sh (.int (trM n (mulM n T (pD F (c t)))))) []) := tr
  have fc := fnd_cons (t := t) (c := c) (z := 0 - trM n (mulM n T (pD F (c t))) / k)
  have fl : 1 + (fnd t c).length ≤ 1000000 := by rw [fnd_len]; omega
  have dv : gDiv (.int (trM n (mulM n T (pD F (c t))))) (.int k) = some (.sh (.int (trM n (mulM n T (pD F (c t))) / k))) := gDiv_pos hk (by
    have : k.natAbs < 2 ^ 10 := by omega
    have h0 : k.natAbs ≠ 0 := by omega
    have := (Nat.log2_lt h0).mpr this
    omega)
  rw [← fc]
  generalize trM n (mulM n T (pD F (c t))) = z at *
  generalize mat n (mulM n T (pD F (c t))) = A at *
  generalize mat n (pD F (c t)) = B at *
  generalize mat n F = C at *
  generalize mat n T = E at *
  generalize fnd t c = X at *
  unfold fb_wide_1
  simp_arith only [p, tx, tr, dv, fl]
structure WInvP (n t : Nat) (T F : Nat → Nat → Int) (c : Nat → Int) : Prop where
  f : ∀ i j, i < n → j < n → F i j = mulM n T (dtB n T (n - t)) i j
  c : ∀ i, i ≤ t → c i = dtp n T (n - i)
theorem winvp_pD {n t : Nat} {T F : Nat → Nat → Int} {c : Nat → Int} (I : WInvP n t T F c) (ht : t < n) {i j : Nat} (hi : i < n) (hj : j < n) : pD F (c t) i j = dtB n T (n - (t + 1)) i j := by
  unfold pD
  rw [I.f i j hi hj, mulM_S, I.c t (Nat.le_refl t)]
  have e := dt_rec (t := n - t) (A := T) hi hj
  rw [show dtPv 1 (fun t => dtB n T t i j) (n - t) = dtB n T (n - (t + 1)) i j by
    rw [show n - t = (n - (t + 1)) + 1 by omega]
    exact Int.one_mul _] at e
  rw [e]
  congr 1
  split
  · exact Int.mul_one _
  · exact Int.mul_zero _
theorem winvp_step {n t : Nat} {T F : Nat → Nat → Int} {c : Nat → Int} (I : WInvP n t T F c) (ht : t < n) : WInvP n (t + 1) T (mulM n T (pD F (c t))) fun i => if i = t + 1 then 0 - trM n (mulM n T (pD F (c t))) / (1 + (t : Int)) else c i := by
  have key : ∀ i j, i < n → j < n → mulM n T (pD F (c t)) i j = mulM n T (dtB n T (n - (t + 1))) i j := fun i j hi hj => by
    rw [mulM_S, mulM_S]
    exact dtS_congr n fun l hl => by rw [winvp_pD I ht hl hj]
  refine ⟨key, fun i hi => ?_⟩
  show (if i = t + 1 then _ else c i) = _
  by_cases h : i = t + 1
  · rw [if_pos h, h]
    have e : trM n (mulM n T (pD F (c t))) = (((n - (t + 1) : Nat) : Int) - n) * dtp n T (n - (t + 1)) := by
      rw [← dt_AB]
      unfold trM
      rw [dtS_sum]
      exact dtS_congr n fun i hi => by rw [key i i hi hi, mulM_S]
    rw [e, show (((n - (t + 1) : Nat) : Int) - n) * dtp n T (n - (t + 1)) = (1 + (t : Int)) * (- dtp n T (n - (t + 1))) by
      rw [show (((n - (t + 1) : Nat) : Int) - n) = - (1 + (t : Int)) by omega]
      grind, Int.mul_ediv_cancel_left _ (by omega)]
    omega
  · rw [if_neg h]
    exact I.c i (by omega)
theorem wide_p {n a : Nat} {T : Nat → Nat → Int} (hn : n ≤ 10) (ha : a ≤ 2 ^ 101) (hT : ∀ i j, (T i j).natAbs ≤ a) : phi_wide [.lst (mat n T)] = some (.ret (.fr (vecD (n + 1) (dtp n T))) []) := by
  have ml : ((mat n T).length : Int) = (n : Nat) := by rw [mat_len]
  have vz := vec_zero (w := n) (by omega)
  have rg1 : RngOk 1 := rng_small (by decide) (by decide)
  have rg : RngOk ((n : Nat) + 1 : Int) := rng_small (by omega) (by omega)
  have tn : (((n : Nat) : Int) + 1 - 1).toNat = n := by omega
  have l1 := vLc_d (vs := [5]) (it := iLs (oOf (vVar 0))) (ds := mat n T) (pk := []) (g := gN 5) (c := lc_wide_1) (elt := le_wide_1) (p := fun _ => true) (f := fun _ => .lst (vecD n fun _ => 0))
    (ρ := [some (.sh (.lst (mat n T))), some (.fr [.int 1]), some (.sh (.int (n : Nat))), none, none, none, none, none]) (ρ0 := [some (.sh (.lst (mat n T))), some (.fr [.int 1]), some (.sh (.int (n : Nat))), none, none, none, none, none]) (by
      generalize mat n T = A at *
      simp_arith only []) (noFr1 rfl) (fun q h => nomatch h) (fun q h => nomatch h) (fun d hd => by
      refine ⟨[some (.sh (.lst (mat n T))), some (.fr [.int 1]), some (.sh (.int (n : Nat))), none, none, some (.sh d), none, none], rfl, rfl, rfl, rfl, fun _ => ⟨.fr (vecD n fun _ => 0), ?_, rfl⟩⟩
      generalize mat n T = A at *
      generalize (vecD n fun _ => 0) = Z at *
      unfold le_wide_1
      simp_arith only [vz]) (by rw [mat_len]; omega)
  have ee : ((mat n T).filter fun _ => true).map (fun _ => D.lst (vecD n fun _ => 0)) = mat n fun _ _ => 0 := by
    rw [filter_true']
    unfold mat
    rw [List.map_map]
    rfl
  rw [ee] at l1
  have K : 2 * (n * (n * a)) ≤ 2 ^ 109 := by
    have h1 : n * (n * a) ≤ 10 * (10 * 2 ^ 101) := Nat.mul_le_mul hn (Nat.mul_le_mul hn ha)
    have h2 : 2 * (10 * (10 * 2 ^ 101)) ≤ 2 ^ 109 := by decide
    omega
  have bb : ∀ t, t < n → ∀ i k, i < n → k < n → (dtB n T t i k).natAbs.log2 < 9000 := fun t ht i k hi hk => by
    have h := dtB_bd (n := n) hT (n - 1 - t) (by omega) i k hi hk
    rw [show n - 1 - (n - 1 - t) = t by omega] at h
    refine dt_log (m := 1091) (Nat.lt_of_le_of_lt h (Nat.lt_of_le_of_lt (Nat.pow_le_pow_left K _) ?_)) (by decide) (by decide)
    rw [← Nat.pow_mul]
    exact Nat.pow_lt_pow_right (by decide) (by omega)
  have tb : ∀ i j, (T i j).natAbs.log2 < 9000 := fun i j => dt_log (m := 102) (Nat.lt_of_le_of_lt (hT i j) (Nat.lt_of_le_of_lt ha (by decide))) (by decide) (by decide)
  obtain ⟨ρ', e, F, c, I, _, s4, rfl⟩ := forR (g := gN 4) (body := fb_wide_1) (lo := 1) (m := n) (ρ := [some (.sh (.lst (mat n T))), some (.fr [.int 1]), some (.sh (.int (n : Nat))), some (.fr (mat n fun _ _ => 0)), none, none, none, none])
    (fun t ρ => ∃ F c, WInvP n t T F c ∧ (t = t) ∧ ∃ s4, ρ = [some (.sh (.lst (mat n T))), some (.fr (fnd t c)), some (.sh (.int (n : Nat))), some (.fr (mat n F)), s4, none, none, none])
    ⟨fun _ _ => 0, fun i => dtp n T (n - i), ⟨fun i j hi hj => by
      rw [mulM_S, dtS_zero n fun l hl => by rw [Nat.sub_zero, dtB_top hl hj]; exact Int.mul_zero _], fun i hi => rfl⟩, rfl, none, by
      have : fnd 0 (fun i => dtp n T (n - i)) = [.int 1] := by
        show [D.int (dtp n T (n - (0 - 0)))] = _
        rw [Nat.sub_zero, dtp_lead]
      rw [this]⟩
    (by
      rintro t ht ρ ⟨F, c, I, _, s4, rfl⟩
      have b := wbody2 (F := F) (c := c) (t := t) (f5 := none) (k := 1 + (t : Int)) (n := n) (T := T) (by omega) (by omega) (by omega) (by omega) (fun i l j hi hl hj => .inr (.inr (by
        rw [winvp_pD I ht hl hj]
        have := bb (n - (t + 1)) (by omega) l j hl hj
        have := tb i l
        omega)))
      exact ⟨_, _, rfl, b, _, _, winvp_step I ht, rfl, _, rfl⟩)
  have fin : fnd n c = vecD (n + 1) (dtp n T) := by
    unfold fnd
    exact vecD_congr fun j hj => by rw [I.c (n - j) (by omega), show n - (n - j) = j by omega]
  rw [fin] at e
  generalize vecD (n + 1) (dtp n T) = W at *
  generalize mat n F = Z2 at *
  generalize (mat n fun _ _ => 0) = Z at *
  generalize mat n T = A at *
  unfold phi_wide b_wide
  simp_arith only [ml, l1, rg1, rg, tn, e]
/-! its value -/
theorem value_lp {x : Int} {s0 : Option SV} (h1 : -18446744073709551616 < x) (h2 : x < 18446744073709551616) : ∀ (l : List Int) (f : Int) (s3 : Option SV), ∃ t3, forL (gN 3) fb_law_value_1 (l.map D.int) [s0, some (.sh (.int x)), some (.sh (.int f)), s3] = some (.nx [s0, some (.sh (.int x)), some (.sh (.int (l.foldl (fun f z => f * x + z) f))), t3])
  | [], f, s3 => ⟨s3, rfl⟩
  | z :: l, f, s3 => by
    obtain ⟨t3, e⟩ := value_lp (s0 := s0) h1 h2 l (f * x + z) (some (.sh (.int z)))
    refine ⟨t3, (forL_cons (d := .int z) (ρ1 := [s0, some (.sh (.int x)), some (.sh (.int f)), some (.sh (.int z))]) rfl ?_).trans e⟩
    have m : Sim.MulOk f x := mulOk_r' h1 h2
    unfold fb_law_value_1
    simp_arith only [m]
theorem horner {x : Int} {c : Nat → Int} : ∀ (w : Nat) (f : Int), (vec w c).reverse.foldl (fun f z => f * x + z) f = f * x ^ w + dtS w fun i => c i * x ^ i
  | 0, f => by
    show f = f * x ^ 0 + 0
    rw [Int.pow_zero]
    omega
  | w + 1, f => by
    have e : vec (w + 1) c = vec w c ++ [c w] := by
      unfold vec
      rw [List.range_succ, List.map_append]
      rfl
    rw [e, List.reverse_append]
    show (vec w c).reverse.foldl (fun f z => f * x + z) (f * x + c w) = f * x ^ (w + 1) + (dtS w (fun i => c i * x ^ i) + c w * x ^ w)
    rw [horner w, Int.pow_succ]
    grind
theorem value_x {w : Nat} {x : Int} {c : Nat → Int} (hw : w ≤ 1000) (h1 : -18446744073709551616 < x) (h2 : x < 18446744073709551616) : phi_law_value [.lst (vecD w c), .int x] = some (.ret (.sh (.int (dtS w fun i => c i * x ^ i))) []) := by
  obtain ⟨t3, e⟩ := value_lp (s0 := some (.sh (.lst (vecD w c)))) h1 h2 (vec w c).reverse 0 none
  rw [horner w 0, Int.zero_mul, Int.zero_add, List.map_reverse] at e
  have e : forL (gN 3) fb_law_value_1 (vecD w c).reverse [some (.sh (.lst (vecD w c))), some (.sh (.int x)), some (.sh (.int 0)), none] = some (.nx [some (.sh (.lst (vecD w c))), some (.sh (.int x)), some (.sh (.int (dtS w fun i => c i * x ^ i))), t3]) := e
  generalize (dtS w fun i => c i * x ^ i) = z at *
  generalize hY : vecD w c = Y at *
  unfold phi_law_value b_law_value
  simp_arith only [e]
/-! the law's tables -/
def entF (B c : Int) : Int := c % B * (1 - 2 * (c / B % 2))
def ccF (B c : Int) : Nat → Int
  | 0 => c
  | k + 1 => ccF B c k / (2 * B)
theorem ent_bd {B c : Int} {b : Nat} (h : 0 < B) (hb : B ≤ (b : Int)) : (entF B c).natAbs ≤ b := by
  have h1 := Int.emod_nonneg c (b := B) (by omega)
  have h2 := Int.emod_lt_of_pos c h
  unfold entF
  have : 1 - 2 * (c / B % 2) = 1 ∨ 1 - 2 * (c / B % 2) = -1 := by omega
  rcases this with e | e
  · rw [e]
    omega
  · rw [e]
    omega
theorem vecD_succ {w : Nat} {f : Nat → Int} : vecD w f ++ [D.int (f w)] = vecD (w + 1) f := by
  show _ = (vec (w + 1) f).map D.int
  unfold vec
  rw [List.range_succ, List.map_append, List.map_append]
  rfl
theorem tab_in {n : Nat} {B c : Int} {A : Nat → Int} {s3 s4 : Option SV} (hn : n ≤ 1000) (hB : 0 < B) (hB2 : B.natAbs.log2 < 9000) (hB3 : (2 * B).natAbs.log2 < 9000) (hA : ∀ j, A j = entF B (ccF B c j)) (s6 : Option SV) : ∃ t6, forL (gN 6) fb_law_table_1 (rngD 0 n) [some (.sh (.int c)), some (.sh (.int (n : Int))), some (.sh (.int B)), s3, s4, some (.fr []), s6] = some (.nx [some (.sh (.int (ccF B c n))), some (.sh (.int (n : Int))), some (.sh (.int B)), s3, s4, some (.fr (vecD n A)), t6]) := by
  obtain ⟨ρ', e, t6, rfl⟩ := forR (g := gN 6) (body := fb_law_table_1) (lo := 0) (m := n) (ρ := [some (.sh (.int c)), some (.sh (.int (n : Int))), some (.sh (.int B)), s3, s4, some (.fr []), s6])
    (fun j ρ => ∃ t6, ρ = [some (.sh (.int (ccF B c j))), some (.sh (.int (n : Int))), some (.sh (.int B)), s3, s4, some (.fr (vecD j A)), t6])
    ⟨s6, rfl⟩
    (by
      rintro j hj ρ ⟨t6, rfl⟩
      have al : (vecD j A).length < 1000000 := by rw [lens_vecD]; omega
      have hz : entF B (ccF B c j) = A j := (hA j).symm
      have hc : ccF B c (j + 1) = ccF B c j / (2 * B) := rfl
      rw [← vecD_succ, hc]
      unfold entF at hz
      generalize vecD j A = V at *
      generalize A j = z at *
      generalize ccF B c j = q at *
      have d1 := gDiv_pos (i := q) hB hB2
      have d2 := gDiv_pos (i := q) (j := 2 * B) (by omega) hB3
      have m1 : ∀ i, Sim.MulOk 2 i := fun i => mulOk_l (by decide) (by decide)
      have m2 : ∀ i, Sim.MulOk i (1 - 2 * (q / B % 2)) := fun i => mulOk_r (by omega) (by omega)
      refine ⟨[some (.sh (.int q)), some (.sh (.int (n : Int))), some (.sh (.int B)), s3, s4, some (.fr V), some (.sh (.int (0 + (j : Int))))], _, rfl, ?_, some (.sh (.int (0 + (j : Int)))), rfl⟩
      unfold fb_law_table_1
      simp_arith only [hB, d1, d2, m1, m2, hz, al])
  exact ⟨t6, e⟩
theorem ccF_add {B c : Int} {i : Nat} : ∀ j, ccF B (ccF B c i) j = ccF B c (i + j)
  | 0 => rfl
  | j + 1 => by
    show ccF B (ccF B c i) j / (2 * B) = ccF B c (i + j) / (2 * B)
    rw [ccF_add j]
def tabA (B c : Int) (n : Nat) (i j : Nat) : Int := entF B (ccF B c (i * n + j))
theorem tab_out {n : Nat} {B c : Int} (hn : n ≤ 1000) (hB : 0 < B) (hB2 : B.natAbs.log2 < 9000) (hB3 : (2 * B).natAbs.log2 < 9000) : ∃ ρ', forL (gN 4) fb_law_table_2 (rngD 0 n) [some (.sh (.int c)), some (.sh (.int (n : Int))), some (.sh (.int B)), some (.fr []), none, none, none] = some (.nx ρ') ∧ ∃ z s4 s5 s6, ρ' = [z, some (.sh (.int (n : Int))), some (.sh (.int B)), some (.fr (mat n (tabA B c n))), s4, s5, s6] := by
  obtain ⟨ρ', e, s4, s5, s6, rfl⟩ := forR (g := gN 4) (body := fb_law_table_2) (lo := 0) (m := n) (ρ := [some (.sh (.int c)), some (.sh (.int (n : Int))), some (.sh (.int B)), some (.fr []), none, none, none])
    (fun i ρ => ∃ s4 s5 s6, ρ = [some (.sh (.int (ccF B c (i * n)))), some (.sh (.int (n : Int))), some (.sh (.int B)), some (.fr ((List.range i).map fun a => .lst (vecD n (tabA B c n a)))), s4, s5, s6])
    ⟨none, none, none, by rw [Nat.zero_mul]; rfl⟩
    (by
      rintro i hi ρ ⟨s4, s5, s6, rfl⟩
      have rn : RngOk ((n : Nat) : Int) := rng_small (by omega) (by omega)
      have rt : (((n : Nat) : Int)).toNat = n := Int.toNat_natCast _
      obtain ⟨t6, e⟩ := tab_in (n := n) (c := ccF B c (i * n)) (A := tabA B c n i) (s3 := some (.fr ((List.range i).map fun a => .lst (vecD n (tabA B c n a))))) (s4 := some (.sh (.int (0 + (i : Int))))) hn hB hB2 hB3 (fun j => by
        unfold tabA
        rw [ccF_add]) s6
      rw [ccF_add, ← Nat.succ_mul] at e
      have al : ((List.range i).map fun a => D.lst (vecD n (tabA B c n a))).length < 1000000 := by
        rw [List.length_map, List.length_range]
        omega
      have es : (List.range (i + 1)).map (fun a => D.lst (vecD n (tabA B c n a))) = ((List.range i).map fun a => .lst (vecD n (tabA B c n a))) ++ [.lst (vecD n (tabA B c n i))] := by
        rw [List.range_succ, List.map_append]
        rfl
      rw [es]
      generalize ((List.range i).map fun a => D.lst (vecD n (tabA B c n a))) = L at *
      generalize vecD n (tabA B c n i) = V at *
      refine ⟨[some (.sh (.int (ccF B c (i * n)))), some (.sh (.int (n : Int))), some (.sh (.int B)), some (.fr L), some (.sh (.int (0 + (i : Int)))), s5, s6], _, rfl, ?_, some (.sh (.int (0 + (i : Int)))), some (.sh (.lst V)), t6, rfl⟩
      rw [Nat.succ_eq_add_one] at e
      generalize ccF B c (i * n) = q at *
      generalize ccF B c ((i + 1) * n) = q2 at *
      unfold fb_law_table_2
      simp_arith only [rn, rt, e, al])
  exact ⟨_, e, _, _, _, _, rfl⟩
theorem table_x {c : Int} : ∃ (n : Nat) (A : Nat → Nat → Int), n ≤ 10 ∧ (∀ i j, (A i j).natAbs ≤ 10 ^ 30) ∧ phi_law_table [.int c] = some (.ret (.fr (mat n A)) []) := by
  have d44 : gDiv (.int c) (.int 44) = some (.sh (.int (c / 44))) := gDiv_pos (by decide) (log_9000 (k := 10) (by decide) (by decide) (by decide))
  have d176 : gDiv (.int c) (.int 176) = some (.sh (.int (c / 176))) := gDiv_pos (by decide) (log_9000 (k := 10) (by decide) (by decide) (by decide))
  have d704 : gDiv (.int c) (.int 704) = some (.sh (.int (c / 704))) := gDiv_pos (by decide) (log_9000 (k := 10) (by decide) (by decide) (by decide))
  obtain ⟨B, hB, i1⟩ := dix1 (l := [.int 3, .int 10, .int 1000000000, .int 1000000000000000000000000000000]) (c := c / 176) (m := 4) (by show 0 < 4; decide) rfl
  obtain ⟨b, rfl, b0, b1⟩ : ∃ b : Int, B = .int b ∧ 0 < b ∧ b ≤ 1000000000000000000000000000000 := by
    simp only [List.mem_cons, List.not_mem_nil, or_false] at hB
    rcases hB with rfl | rfl | rfl | rfl
    · exact ⟨_, rfl, by decide, by decide⟩
    · exact ⟨_, rfl, by decide, by decide⟩
    · exact ⟨_, rfl, by decide, by decide⟩
    · exact ⟨_, rfl, by decide, by decide⟩
  have m4 := Int.emod_nonneg c (b := 4) (by omega)
  have m4' := Int.emod_lt_of_pos c (b := 4) (by omega)
  have m11 := Int.emod_nonneg c (b := 11) (by omega)
  have m11' := Int.emod_lt_of_pos c (b := 11) (by omega)
  obtain ⟨n, hn, en⟩ : ∃ n : Nat, n ≤ 10 ∧ (if decide (c / 44 % 4 = 0) = true then c % 11 else c % 4) = (n : Int) := by
    cases decide (c / 44 % 4 = 0) with
    | true => exact ⟨(c % 11).toNat, by omega, by show c % 11 = _; omega⟩
    | false => exact ⟨(c % 4).toNat, by omega, by show c % 4 = _; omega⟩
  have l1 : b.natAbs.log2 < 9000 := log_9000 (k := 100) (by omega) (by decide) (by decide)
  have l2 : (2 * b).natAbs.log2 < 9000 := log_9000 (k := 101) (by omega) (by decide) (by decide)
  obtain ⟨_, e, z, s4, s5, s6, rfl⟩ := tab_out (n := n) (c := c / 704) (by omega) b0 l1 l2
  refine ⟨n, tabA b (c / 704) n, hn, fun i j => ent_bd b0 (by rw [show ((10 ^ 30 : Nat) : Int) = 1000000000000000000000000000000 by decide]; exact b1), ?_⟩
  have rn : RngOk ((n : Nat) : Int) := rng_small (by omega) (by omega)
  have rt : (((n : Nat) : Int)).toNat = n := Int.toNat_natCast _
  have p4 : (0 : Int) < 4 := by decide
  have p11 : (0 : Int) < 11 := by decide
  have ix0 : ∀ x y : D, gIx (.lst [x, y]) (.int 0) = some (.sh x) := fun _ _ => rfl
  have ix1 : ∀ x y : D, gIx (.lst [x, y]) (.int 1) = some (.sh y) := fun _ _ => rfl
  generalize mat n (tabA b (c / 704) n) = X at *
  generalize c / 704 = c' at *
  cases q : decide (c / 44 % 4 = 0) with
  | true =>
    rw [q] at en
    have en : c % 11 = (n : Int) := en
    unfold phi_law_table b_law_table
    simp_arith only [p4, p11, d44, d176, d704, pow9, pow30, i1, q, ix0, ix1, en, rn, rt, e]
  | false =>
    rw [q] at en
    have en : c % 4 = (n : Int) := en
    unfold phi_law_table b_law_table
    simp_arith only [p4, p11, d44, d176, d704, pow9, pow30, i1, q, ix0, ix1, en, rn, rt, e]
theorem nums_x {m : Nat} {f : Nat → Int} (hm : m ≤ 1000) : phi_law_numbers [.lst (vecD m f), .int (m : Int)] = some (.ret (.sh (.bl true)) []) := by
  have lc := vLc_sh (vs := [2]) (it := iLs (oOf (vVar 0))) (ds := vecD m f) (g := gN 2) (c := lc_law_numbers_1) (elt := le_law_numbers_1) (p := fun _ => true) (f := fun d => .bl true) (ρ := [some (.sh (.lst (vecD m f))), some (.sh (.int (m : Int))), none]) (ρ0 := [some (.sh (.lst (vecD m f))), some (.sh (.int (m : Int))), none]) (by
      generalize vecD m f = V
      simp_arith only []) (noFr1 rfl) (fun d hd => by
    obtain ⟨z, _, rfl⟩ := List.mem_map.mp hd
    refine ⟨[some (.sh (.lst (vecD m f))), some (.sh (.int (m : Int))), some (.sh (.int z))], rfl, rfl, rfl, rfl, fun _ => ?_⟩
    generalize vecD m f = V
    unfold le_law_numbers_1
    simp_arith only [whole_ok]) (by rw [lens_vecD]; omega)
  rw [filter_true', map_const] at lc
  have ml : ((vecD m f).length : Int) = (m : Nat) := by rw [lens_vecD]
  generalize vecD m f = V at *
  unfold phi_law_numbers b_law_numbers
  simp_arith only [ml, lc, gAll_true]
/-! the law -/
abbrev LW (ns : List Int) (n : Nat) (A : Nat → Nat → Int) (s4 s5 s6 s7 s8 s10 : Option SV) : Sl := [some (.sh (.scr ns)), some (.sh (.lst (mat n A))), some (.sh (.int (n : Int))), none, s4, s5, s6, s7, s8, none, s10, none, none]
def shfM (x : Int) (A : Nat → Nat → Int) (i j : Nat) : Int := x * (if i = j then 1 else 0) - A i j
theorem shf_x {ns : List Int} {n : Nat} {A : Nat → Nat → Int} {x : Int} {s4 s6 s7 s8 s10 : Option SV} (hn : n ≤ 1000) : vLc [11] (iR1 (aCons (oPk 2) aNil)) (gN 11) lc_law_3 le_law_3 (LW ns n A s4 (some (.sh (.int x))) s6 s7 s8 s10) = some (.ok (.fr (mat n (shfM x A))) (LW ns n A s4 (some (.sh (.int x))) s6 s7 s8 s10)) := by
  have rg : RngOk ((n : Nat) : Int) := rng_small (by omega) (by omega)
  have ml : ((mat n A).length : Int) = (n : Nat) := by rw [mat_len]
  have lc := vLc_d (vs := [11]) (it := iR1 (aCons (oPk 2) aNil)) (ds := rngD 0 n) (pk := []) (g := gN 11) (c := lc_law_3) (elt := le_law_3) (p := fun _ => true) (f := rowFn (shfM x A) n)
    (ρ := LW ns n A s4 (some (.sh (.int x))) s6 s7 s8 s10) (ρ0 := LW ns n A s4 (some (.sh (.int x))) s6 s7 s8 s10) (by
      dsimp only [LW]
      generalize mat n A = M at *
      simp_arith only [rg, Int.toNat_natCast]) (noFr1 rfl) (fun q h => nomatch h) (fun q h => nomatch h) (fun d hd => by
      obtain ⟨i, hi, rfl⟩ := List.mem_map.mp hd
      have hi := List.mem_range.mp hi
      refine ⟨[some (.sh (.scr ns)), some (.sh (.lst (mat n A))), some (.sh (.int (n : Int))), none, s4, some (.sh (.int x)), s6, s7, s8, none, s10, some (.sh (.int (0 + (i : Int)))), none], rfl, rfl, rfl, rfl, fun _ => ⟨.fr (vecD n (shfM x A i)), ?_, by
        show D.lst (vecD n (shfM x A i)) = .lst (vecD n (shfM x A (0 + (i : Int)).toNat))
        rw [Int.zero_add, Int.toNat_natCast]⟩⟩
      have lc2 := vLc_sh (vs := [12]) (it := iR1 (aCons (oPk 2) aNil)) (ds := rngD 0 n) (g := gN 12) (c := lc_law_2) (elt := le_law_2) (p := fun _ => true) (f := intFn (shfM x A i))
        (ρ := [some (.sh (.scr ns)), some (.sh (.lst (mat n A))), some (.sh (.int (n : Int))), none, s4, some (.sh (.int x)), s6, s7, s8, none, s10, some (.sh (.int (0 + (i : Int)))), none]) (ρ0 := [some (.sh (.scr ns)), some (.sh (.lst (mat n A))), some (.sh (.int (n : Int))), none, s4, some (.sh (.int x)), s6, s7, s8, none, s10, some (.sh (.int (0 + (i : Int)))), none]) (by
          generalize mat n A = M at *
          simp_arith only [rg, Int.toNat_natCast]) (noFr1 rfl) (fun d hd => by
          obtain ⟨j, hj, rfl⟩ := List.mem_map.mp hd
          have hj := List.mem_range.mp hj
          refine ⟨[some (.sh (.scr ns)), some (.sh (.lst (mat n A))), some (.sh (.int (n : Int))), none, s4, some (.sh (.int x)), s6, s7, s8, none, s10, some (.sh (.int (0 + (i : Int)))), some (.sh (.int (0 + (j : Int))))], rfl, rfl, rfl, rfl, fun _ => ?_⟩
          show _ = some (Out.ok (SV.sh (.int (shfM x A i (0 + (j : Int)).toNat))) _)
          rw [Int.zero_add, Int.zero_add, Int.toNat_natCast]
          have i1 := mat_at (F := A) hi
          have i2 := vec_at (g := A i) hj
          have m1 : Sim.MulOk x 1 := mulOk_r (by decide) (by decide)
          have m0 : Sim.MulOk x 0 := mulOk_r (by decide) (by decide)
          unfold shfM
          generalize vecD n (A i) = R at *
          generalize mat n A = M at *
          generalize A i j = z at *
          by_cases c : i = j
          · have ce : decide ((i : Int) = (j : Int)) = true := decide_eq_true (by omega)
            rw [if_pos c]
            unfold le_law_2
            simp_arith only [i1, i2, ce, m1]
          · have ce : decide ((i : Int) = (j : Int)) = false := decide_eq_false (by omega)
            rw [if_neg c]
            unfold le_law_2
            simp_arith only [i1, i2, ce, m0]) (by rw [rngD_len]; omega)
      rw [rng_vec] at lc2
      generalize vecD n (shfM x A i) = V at *
      unfold le_law_3
      exact lc2) (by rw [rngD_len]; omega)
  rw [rng_mat] at lc
  exact lc
theorem check_x {ns : List Int} {n : Nat} {A : Nat → Nat → Int} {x : Nat} {s6 s7 s8 s10 : Option SV} (hn : n ≤ 10) (hx : x ≤ n) (hA : ∀ i j, (A i j).natAbs ≤ 10 ^ 30) : ∃ t6, fb_law_1 (LW ns n A (some (.fr (vecD (n + 1) (dtp n A)))) (some (.sh (.int (x : Int)))) s6 s7 s8 s10) = some (.nx (LW ns n A (some (.fr (vecD (n + 1) (dtp n A)))) (some (.sh (.int (x : Int)))) t6 s7 s8 s10)) := by
  have sh := shf_x (ns := ns) (A := A) (x := (x : Int)) (s4 := some (.fr (vecD (n + 1) (dtp n A)))) (s6 := s6) (s7 := s7) (s8 := s8) (s10 := s10) (show n ≤ 1000 by omega)
  have v := value_x (w := n + 1) (x := (x : Int)) (c := dtp n A) (by omega) (by omega) (by omega)
  rw [dtp_val] at v
  have hS : ∀ i j, (shfM (x : Int) A i j).natAbs ≤ 2 ^ 101 := fun i j => by
    have h := hA i j
    have p : 10 + 10 ^ 30 ≤ 2 ^ 101 := by decide
    unfold shfM
    split
    · omega
    · omega
  have bx := bar_x (n := n) (a := 2 ^ 101) (M := 1051) (A := shfM (x : Int) A) (by decide) (by
    have h1 : n * 2 ^ 101 ≤ 2 ^ 105 := Nat.le_trans (Nat.mul_le_mul_right _ hn) (by decide)
    refine Nat.lt_of_le_of_lt (Nat.pow_le_pow_left h1 n) ?_
    rw [← Nat.pow_mul]
    exact Nat.pow_lt_pow_right (by decide) (by omega)) (by decide) (by decide) hS
  have dx := det_x (n := n) (by omega) bx.1
  rw [bx.2] at dx
  have fe : (fun i j => (if i = j then (x : Int) else 0) - A i j) = shfM (x : Int) A := by
    funext i j
    unfold shfM
    split
    · rw [Int.mul_one]
    · rw [Int.mul_zero]
  rw [fe] at v
  refine ⟨some (.fr (mat n (shfM (x : Int) A))), ?_⟩
  dsimp only [LW] at sh ⊢
  generalize dtD n (dtM n (shfM (x : Int) A)) = z at *
  generalize mat n (shfM (x : Int) A) = S at *
  generalize vecD (n + 1) (dtp n A) = V at *
  generalize mat n A = M at *
  unfold fb_law_1
  simp_arith only [sh, v, dx]
theorem all_flat (l : List Int) : (l.map D.int).all isFlat = true := List.all_eq_true.mpr fun d hd => by
  obtain ⟨z, _, rfl⟩ := List.mem_map.mp hd
  rfl
theorem p2_nil {x : Nat} {m : SM} {β ρ ρ' : Sl} {T : OT} (h : m ρ = some (.nx ρ')) (hl : ρ'.length = β.length) : p2 [] m β ρ T = some (.nx β (frzS ρ') T) := by
  unfold p2
  rw [h]
  refine (if_pos hl).trans ?_
  have e : survS [] β ρ' = β := by
    refine List.ext_getElem? fun j => ?_
    unfold survS
    rw [List.getElem?_map, hl]
    by_cases hj : j < β.length
    · rw [List.getElem?_range hj, List.getElem?_eq_getElem hj]
      show some (if j ∈ [] then _ else _) = _
      rw [if_neg (fun h => nomatch h), List.getElem?_eq_getElem hj]
      rfl
    · rw [List.getElem?_eq_none (by rw [List.length_range]; omega), List.getElem?_eq_none (by omega)]
      rfl
  rw [e]
theorem row_z {n : Nat} {ns : List Int} {A : Nat → Nat → Int} {s4 s5 s6 s7 s8 : Option SV} {r : Nat → Int} (hn : n ≤ 10) (s10 : Option SV) : ∃ t10, ∀ ρ, mb_law_1 (LW ns n A s4 s5 s6 s7 s8 s10) ρ (.nd (otR n r)) = some (.nx (LW ns n A s4 s5 s6 s7 s8 t10) (full2 9 (LW ns n A s4 s5 s6 s7 s8 t10) (.nd (otR n fun _ => 0))) (.nd (otR n fun _ => 0))) := by
  have it : ∀ s10, iR1 (aCons (oPk 2) aNil) (LW ns n A s4 s5 s6 s7 s8 s10) = some (.ok ⟨rngD 0 n, []⟩ (LW ns n A s4 s5 s6 s7 s8 s10)) := fun s10 => by
    have rg : RngOk ((n : Nat) : Int) := rng_small (by omega) (by omega)
    dsimp only [LW]
    generalize mat n A = M at *
    simp_arith only [rg, Int.toNat_natCast]
  have step : ∀ (j : Nat), j < n → ∀ (s10 : Option SV) (f : Nat → Int), fm_law_1 (LW ns n A s4 s5 s6 s7 s8 (some (.sh (.int (j : Int))))) (full2 9 (LW ns n A s4 s5 s6 s7 s8 (some (.sh (.int (j : Int))))) (.nd (otR n f))) (.nd (otR n f)) = some (.nx (LW ns n A s4 s5 s6 s7 s8 (some (.sh (.int (j : Int))))) (full2 9 (LW ns n A s4 s5 s6 s7 s8 (some (.sh (.int (j : Int))))) (.nd (otR n fun a => if a = j then 0 else f a))) (.nd (otR n fun a => if a = j then 0 else f a))) := fun j hj s10 f => by
    have es : (otR n f).set j (.sh (.int 0)) = otR n fun a => if a = j then 0 else f a := by
      unfold otR
      rw [map_range_set]
      refine List.map_congr_left fun a _ => ?_
      show (if a = j then OT.sh (.int 0) else OT.sh (.int (f a))) = OT.sh (.int (if a = j then 0 else f a))
      by_cases c : a = j
      · rw [if_pos c, if_pos c]
      · rw [if_neg c, if_neg c]
    unfold fm_law_1 stX
    have h1 : (oOf (vC (.int 0))) (LW ns n A s4 s5 s6 s7 s8 (some (.sh (.int (j : Int))))) = some (.ok (.val (.int 0)) (LW ns n A s4 s5 s6 s7 s8 (some (.sh (.int (j : Int)))))) := rfl
    have h2 : (oPk 10) (LW ns n A s4 s5 s6 s7 s8 (some (.sh (.int (j : Int))))) = some (.ok (.slot 10) (LW ns n A s4 s5 s6 s7 s8 (some (.sh (.int (j : Int)))))) := rfl
    rw [h1]
    dsimp only
    show ((some (none, LW ns n A s4 s5 s6 s7 s8 (some (.sh (.int (j : Int))))) : Option (Option Nat × Sl)).bind _) = _
    rw [Option.bind_some]
    dsimp only
    rw [h2]
    dsimp only
    have g : get (LW ns n A s4 s5 s6 s7 s8 (some (.sh (.int (j : Int))))) (.slot 10) = some (.int (j : Int)) := rfl
    rw [g]
    dsimp only
    show ((some (otR n f)).bind _) = _
    rw [Option.bind_some, ixN_nat (by unfold otR; rw [List.length_map, List.length_range]; exact hj), Option.bind_some, es]
    rfl
  have loop : ∀ (m j : Nat) (s10 : Option SV) (f : Nat → Int), j + m = n → ∃ t10, forL2 9 (gN 10) fm_law_1 ((List.range' j m).map fun (x : Nat) => D.int (x : Int)) (LW ns n A s4 s5 s6 s7 s8 s10) (full2 9 (LW ns n A s4 s5 s6 s7 s8 s10) (.nd (otR n f))) (.nd (otR n f)) = some (.nx (LW ns n A s4 s5 s6 s7 s8 t10) (full2 9 (LW ns n A s4 s5 s6 s7 s8 t10) (.nd (otR n fun a => if j ≤ a then 0 else f a))) (.nd (otR n fun a => if j ≤ a then 0 else f a))) := fun m => by
    induction m with
    | zero =>
      intro j s10 f h
      refine ⟨s10, ?_⟩
      have e : otR n (fun a => if j ≤ a then 0 else f a) = otR n f := by
        unfold otR
        refine List.map_congr_left fun a ha => ?_
        have := List.mem_range.mp ha
        show OT.sh (.int (if j ≤ a then 0 else f a)) = OT.sh (.int (f a))
        rw [if_neg (by omega)]
      rw [e]
      rfl
    | succ m ih =>
      intro j s10 f h
      obtain ⟨t10, e⟩ := ih (j + 1) (some (.sh (.int (j : Int)))) (fun a => if a = j then 0 else f a) (by omega)
      refine ⟨t10, ?_⟩
      have fe : (fun a => if j + 1 ≤ a then 0 else if a = j then 0 else f a) = fun a => if j ≤ a then 0 else f a := by
        funext a
        by_cases c1 : j + 1 ≤ a
        · rw [if_pos c1, if_pos (by omega)]
        · by_cases c2 : a = j
          · rw [if_neg c1, if_pos c2, if_pos (by omega)]
          · rw [if_neg c1, if_neg c2, if_neg (by omega)]
      rw [fe] at e
      rw [List.range'_succ, List.map_cons]
      exact (forL2_nx (x := 9) (g := gN 10) (β1 := LW ns n A s4 s5 s6 s7 s8 (some (.sh (.int (j : Int))))) rfl (step j (by omega) s10 f)).trans e
  obtain ⟨t10, e⟩ := loop n 0 s10 r (Nat.zero_add n)
  refine ⟨t10, fun ρ => ?_⟩
  have hr : (List.range' 0 n).map (fun (x : Nat) => D.int (x : Int)) = rngD 0 n := by
    unfold rngD
    rw [List.range_eq_range']
    refine List.map_congr_left fun x _ => ?_
    rw [Int.zero_add]
  rw [hr] at e
  have fe : (fun a => if 0 ≤ a then 0 else r a) = fun _ : Nat => (0 : Int) := by
    funext a
    rw [if_pos (Nat.zero_le a)]
  rw [fe] at e
  unfold mb_law_1
  rw [for2b_x (it s10)]
  exact e
theorem muL_c {y : Nat} {body : M2} {t t' : OT} {ts : List OT} {β β2 ρ' : Sl} (hy : y < β.length) (h0 : β.set y none = β) (h : body β (full2 y β t) t = some (.nx β2 ρ' t')) (h2 : β2.set y none = β2) : muL y body (t :: ts) β = (muL y body ts β2).map fun q => (t' :: q.1, q.2) := by
  show (if y < β.length then _ else none) = _
  rw [if_pos hy, h0, h]
  show (muL y body ts (β2.set y none)).map _ = _
  rw [h2]
theorem rows_z {n : Nat} {ns : List Int} {A : Nat → Nat → Int} {s4 s5 s6 s7 s8 : Option SV} (hn : n ≤ 10) : ∀ (rs : List (Nat → Int)) (s10 : Option SV), ∃ t10, muL 9 mb_law_1 (rs.map fun r => .nd (otR n r)) (LW ns n A s4 s5 s6 s7 s8 s10) = some (rs.map fun _ => .nd (otR n fun _ => 0), LW ns n A s4 s5 s6 s7 s8 t10)
  | [], s10 => ⟨s10, rfl⟩
  | r :: rs, s10 => by
    obtain ⟨t1, e1⟩ := row_z (ns := ns) (A := A) (s4 := s4) (s5 := s5) (s6 := s6) (s7 := s7) (s8 := s8) (r := r) hn s10
    obtain ⟨t2, e2⟩ := rows_z (ns := ns) (A := A) (s4 := s4) (s5 := s5) (s6 := s6) (s7 := s7) (s8 := s8) hn rs t1
    refine ⟨t2, ?_⟩
    rw [List.map_cons, List.map_cons, muL_c (show 9 < 13 by decide) rfl (e1 _) rfl, e2]
    rfl
theorem plain_law (ns : List Int) (h : ns.length ≤ 63) : phi_law [.scr ns] = some (.ret (.sh (.bl true)) []) := by
  obtain ⟨N, eN⟩ := @number_ok ns 0 (by decide)
  have eN : phi_law_number [.scr ns, .int 0] = some (.ret (.sh (.int N)) []) := eN
  obtain ⟨n, A, hn, hA, et⟩ := @table_x N
  have ml : ((mat n A).length : Int) = (n : Nat) := by rw [mat_len]
  have a101 : (10 : Nat) ^ 30 ≤ 2 ^ 101 := by decide
  have hw := wide_p (a := 2 ^ 101) hn (Nat.le_refl _) fun i j => Nat.le_trans (hA i j) a101
  have hz := wide_p (n := n) (a := 2 ^ 101) (T := fun _ _ => 0) hn (Nat.le_refl _) fun _ _ => Nat.zero_le _
  have tr := trace_x (F := A) (show n ≤ 1000 by omega)
  have tz := trace_x (n := n) (F := fun _ _ => 0) (by omega)
  have ok := okPy_mat n A
  have ne1 := ne_self' ok
  have ne2 : gNe (.lst (vecD (n + 1) (dtp n A))) (.lst (vecD (n + 1) (dtp n A))) = some (.sh (.bl false)) := ne_self' (okPy_ints _)
  have nx := nums_x (m := n + 1) (f := dtp n A) (by omega)
  have ixn := vec_at (g := dtp n A) (Nat.lt_succ_self n)
  rw [dtp_lead] at ixn
  -- the law's first steps
  have e0 : vLcT [9] (iLs (oOf (vVar 1))) (gN 9) lc_law_1 le_law_1 [some (.sh (.scr ns)), some (.fr (mat n A)), some (.sh (.int (n : Int))), none, none, none, none, none, none, none, none, none, none] = some (.ok (otM n A) (LW ns n A none none none none none none)) := by
    rw [← rowT_mat]
    refine vLcT_sh (vs := [9]) (ds := mat n A) (ρ := LW ns n A none none none none none none) ?_ (noFr1 rfl) (fun d hd => ?_) (by rw [mat_len]; omega)
    · dsimp only [LW]
      generalize mat n A = M
      simp_arith only []
    · obtain ⟨i, _, rfl⟩ := List.mem_map.mp hd
      exact ⟨[some (.sh (.scr ns)), some (.sh (.lst (mat n A))), some (.sh (.int (n : Int))), none, none, none, none, none, none, some (.sh (.lst (vecD n (A i)))), none, none, none], rfl, rfl, rfl, rfl, rfl⟩
  have ef : ∀ s4 s5 s6 s7 s8 s10 : Option SV, full2 3 (LW ns n A s4 s5 s6 s7 s8 s10) (otM n A) = [some (.sh (.scr ns)), some (.sh (.lst (mat n A))), some (.sh (.int (n : Int))), some (.sh (.lst (mat n A))), frzO s4, frzO s5, frzO s6, frzO s7, frzO s8, none, frzO s10, none, none] := fun _ _ _ _ _ _ => by
    show [some (SV.sh (.scr ns)), some (.sh (.lst (mat n A))), some (.sh (.int (n : Int))), some (.sh (otM n A).d), _, _, _, _, _, none, _, none, none] = _
    rw [otM_d]
  have r1 : rd_law_1 (full2 3 (LW ns n A none none none none none none) (otM n A)) = some (.nx ((full2 3 (LW ns n A none none none none none none) (otM n A)).set 4 (some (.fr (vecD (n + 1) (dtp n A)))))) := by
    rw [ef]
    generalize vecD (n + 1) (dtp n A) = V at *
    generalize mat n A = M at *
    unfold rd_law_1
    simp_arith only [hw]
  have r2 : rd_law_2 (full2 3 (LW ns n A (some (.fr (vecD (n + 1) (dtp n A)))) none none none none none) (otM n A)) = some (.nx (full2 3 (LW ns n A (some (.fr (vecD (n + 1) (dtp n A)))) none none none none none) (otM n A))) := by
    rw [ef]
    show rd_law_2 [some (.sh (.scr ns)), some (.sh (.lst (mat n A))), some (.sh (.int (n : Int))), some (.sh (.lst (mat n A))), some (.sh (.lst (vecD (n + 1) (dtp n A)))), none, none, none, none, none, none, none, none] = some (.nx [some (.sh (.scr ns)), some (.sh (.lst (mat n A))), some (.sh (.int (n : Int))), some (.sh (.lst (mat n A))), some (.sh (.lst (vecD (n + 1) (dtp n A)))), none, none, none, none, none, none, none, none])
    have nx : phi_law_numbers [.lst (vecD (n + 1) (dtp n A)), .int ((n : Int) + 1)] = some (.ret (.sh (.bl true)) []) := nx
    generalize vecD (n + 1) (dtp n A) = V at *
    generalize mat n A = M at *
    unfold rd_law_2
    simp_arith only [ne1, nx, ixn]
  obtain ⟨_, fl, t5, t6, rfl⟩ := forR (g := gN 5) (body := fb_law_1) (lo := 0) (m := n + 1) (ρ := LW ns n A (some (.fr (vecD (n + 1) (dtp n A)))) none none none none none)
    (fun i ρ => ∃ t5 t6, ρ = LW ns n A (some (.fr (vecD (n + 1) (dtp n A)))) t5 t6 none none none)
    ⟨none, none, rfl⟩
    (by
      rintro i hi ρ ⟨t5, t6, rfl⟩
      obtain ⟨t6', e⟩ := check_x (ns := ns) (A := A) (x := i) (s6 := t6) (s7 := none) (s8 := none) (s10 := none) hn (by omega) hA
      rw [← Int.zero_add ((i : Nat) : Int)] at e
      exact ⟨_, _, rfl, e, _, _, rfl⟩)
  have b1 : bs_law_1 (LW ns n A (some (.fr (vecD (n + 1) (dtp n A)))) none none none none none) = some (.nx (LW ns n A (some (.fr (vecD (n + 1) (dtp n A)))) t5 t6 none none none)) := by
    have rg : RngOk ((n : Int) + 1) := rng_small (by omega) (by omega)
    have rt : ((n : Int) + 1).toNat = n + 1 := by omega
    dsimp only [LW] at fl ⊢
    generalize vecD (n + 1) (dtp n A) = V at *
    generalize mat n A = M at *
    unfold bs_law_1
    simp_arith only [rg, rt, fl]
  have b2' : bs_law_2 (LW ns n A (some (.fr (vecD (n + 1) (dtp n A)))) t5 t6 none none none) = some (.nx (LW ns n A (some (.fr (vecD (n + 1) (dtp n A)))) t5 t6 (some (.fr (vecD (n + 1) (dtp n A)))) none none)) := by
    have g1 : gListOf [.lst (vecD (n + 1) (dtp n A))] = some (.fr (vecD (n + 1) (dtp n A))) := rfl
    dsimp only [LW]
    generalize vecD (n + 1) (dtp n A) = V at *
    generalize mat n A = M at *
    unfold bs_law_2
    simp_arith only [g1]
  have b3 : bs_law_3 (LW ns n A (some (.fr (vecD (n + 1) (dtp n A)))) t5 t6 (some (.fr (vecD (n + 1) (dtp n A)))) none none) = some (.nx (LW ns n A (some (.fr (vecD (n + 1) (dtp n A) ++ [.int 1]))) t5 t6 (some (.fr (vecD (n + 1) (dtp n A)))) none none)) := by
    have al : (vecD (n + 1) (dtp n A)).length < 1000000 := by rw [lens_vecD]; omega
    dsimp only [LW]
    generalize vecD (n + 1) (dtp n A) = V at *
    generalize mat n A = M at *
    unfold bs_law_3
    simp_arith only [al]
  have b4 : bs_law_4 (LW ns n A (some (.fr (vecD (n + 1) (dtp n A) ++ [.int 1]))) t5 t6 (some (.fr (vecD (n + 1) (dtp n A)))) none none) = some (.nx (LW ns n A (some (.fr ((vecD (n + 1) (dtp n A) ++ [D.int 1]).reverse))) t5 t6 (some (.fr (vecD (n + 1) (dtp n A)))) none none)) := by
    dsimp only [LW]
    generalize vecD (n + 1) (dtp n A) = V at *
    generalize V ++ [D.int 1] = W at *
    generalize mat n A = M at *
    unfold bs_law_4
    simp_arith only []
  generalize (vecD (n + 1) (dtp n A) ++ [D.int 1]).reverse = W4 at *
  have b5 : bs_law_5 (LW ns n A (some (.fr W4)) t5 t6 (some (.fr (vecD (n + 1) (dtp n A)))) none none) = some (.nx (LW ns n A (some (.fr W4)) t5 t6 (some (.fr (vecD (n + 1) (dtp n A)))) (some (.sh (.int ((List.range n).map fun a => A a a).sum))) none)) := by
    have rg : RngOk ((n : Nat) : Int) := rng_small (by omega) (by omega)
    have lc := vLc_sh (vs := [10]) (it := iR1 (aCons (oPk 2) aNil)) (ds := rngD 0 n) (g := gN 10) (c := lc_law_4) (elt := le_law_4) (p := fun _ => true) (f := intFn fun a => A a a)
      (ρ := LW ns n A (some (.fr W4)) t5 t6 (some (.fr (vecD (n + 1) (dtp n A)))) none none) (ρ0 := LW ns n A (some (.fr W4)) t5 t6 (some (.fr (vecD (n + 1) (dtp n A)))) none none) (by
        dsimp only [LW]
        generalize vecD (n + 1) (dtp n A) = V at *
        generalize mat n A = M at *
        simp_arith only [rg, Int.toNat_natCast]) (noFr1 rfl) (fun x hx => by
        obtain ⟨a, ha, rfl⟩ := List.mem_map.mp hx
        have ha := List.mem_range.mp ha
        refine ⟨LW ns n A (some (.fr W4)) t5 t6 (some (.fr (vecD (n + 1) (dtp n A)))) none (some (.sh (.int (0 + (a : Int))))), rfl, rfl, rfl, rfl, fun _ => ?_⟩
        show _ = some (Out.ok (SV.sh (.int (A (0 + (a : Int)).toNat (0 + (a : Int)).toNat))) _)
        rw [Int.zero_add, Int.toNat_natCast]
        have i1 := mat_at (F := A) ha
        have i2 := vec_at (g := A a) ha
        dsimp only [LW]
        generalize vecD (n + 1) (dtp n A) = V at *
        generalize vecD n (A a) = R at *
        generalize mat n A = M at *
        unfold le_law_4
        simp_arith only [i1, i2]) (by rw [rngD_len]; omega)
    rw [rng_vec] at lc
    have su : gSum [.lst (vecD n fun a => A a a)] = some (.sh (.int ((List.range n).map fun a => A a a).sum)) := sum_ints _
    generalize ((List.range n).map fun a => A a a).sum = z at *
    dsimp only [LW] at lc ⊢
    generalize (vecD n fun a => A a a) = Y at *
    generalize vecD (n + 1) (dtp n A) = V at *
    generalize mat n A = M at *
    unfold bs_law_5
    simp_arith only [lc, su]
  have r3 : rd_law_3 (full2 3 (LW ns n A (some (.fr W4)) t5 t6 (some (.fr (vecD (n + 1) (dtp n A)))) (some (.sh (.int ((List.range n).map fun a => A a a).sum))) none) (otM n A)) = some (.nx (full2 3 (LW ns n A (some (.fr W4)) t5 t6 (some (.fr (vecD (n + 1) (dtp n A)))) (some (.sh (.int ((List.range n).map fun a => A a a).sum))) none) (otM n A))) := by
    rw [ef]
    show rd_law_3 [some (.sh (.scr ns)), some (.sh (.lst (mat n A))), some (.sh (.int (n : Int))), some (.sh (.lst (mat n A))), some (.sh (.lst W4)), frzO t5, frzO t6, some (.sh (.lst (vecD (n + 1) (dtp n A)))), some (.sh (.int ((List.range n).map fun a => A a a).sum)), none, none, none, none] = some (.nx [some (.sh (.scr ns)), some (.sh (.lst (mat n A))), some (.sh (.int (n : Int))), some (.sh (.lst (mat n A))), some (.sh (.lst W4)), frzO t5, frzO t6, some (.sh (.lst (vecD (n + 1) (dtp n A)))), some (.sh (.int ((List.range n).map fun a => A a a).sum)), none, none, none, none])
    clear fl b1 b2' b3 b4 b5 r1 r2 e0 ef
    generalize ((List.range n).map fun a => A a a).sum = z at *
    generalize vecD (n + 1) (dtp n A) = V at *
    generalize mat n A = M at *
    generalize frzO t5 = u5 at *
    generalize frzO t6 = u6 at *
    unfold rd_law_3
    simp_arith only [tr, whole_ok, ne1, hw, ne2]
  obtain ⟨t10, mz⟩ := rows_z (ns := ns) (A := A) (s4 := some (.fr W4)) (s5 := t5) (s6 := t6) (s7 := some (.fr (vecD (n + 1) (dtp n A)))) (s8 := some (.sh (.int ((List.range n).map fun a => A a a).sum))) hn ((List.range n).map fun i => A i) none
  rw [List.map_map, List.map_map] at mz
  have mu : ∀ ρ, mu2 3 9 mb_law_1 (LW ns n A (some (.fr W4)) t5 t6 (some (.fr (vecD (n + 1) (dtp n A)))) (some (.sh (.int ((List.range n).map fun a => A a a).sum))) none) ρ (otM n A) = some (.nx (LW ns n A (some (.fr W4)) t5 t6 (some (.fr (vecD (n + 1) (dtp n A)))) (some (.sh (.int ((List.range n).map fun a => A a a).sum))) t10) (full2 3 (LW ns n A (some (.fr W4)) t5 t6 (some (.fr (vecD (n + 1) (dtp n A)))) (some (.sh (.int ((List.range n).map fun a => A a a).sum))) t10) (otM n fun _ _ => 0)) (otM n fun _ _ => 0)) := fun ρ => by
    unfold mu2 otM
    dsimp only
    have mz : muL 9 mb_law_1 ((List.range n).map fun i => .nd (otR n (A i))) (LW ns n A (some (.fr W4)) t5 t6 (some (.fr (vecD (n + 1) (dtp n A)))) (some (.sh (.int ((List.range n).map fun a => A a a).sum))) none) = some ((List.range n).map fun _ => .nd (otR n fun _ => 0), LW ns n A (some (.fr W4)) t5 t6 (some (.fr (vecD (n + 1) (dtp n A)))) (some (.sh (.int ((List.range n).map fun a => A a a).sum))) t10) := mz
    rw [mz]
  have zp : vecD (n + 1) (dtp n fun _ _ => 0) = vecD n (fun _ => 0) ++ [.int 1] := by
    rw [← vecD_succ (w := n) (f := dtp n fun _ _ => 0), dtp_lead]
    have h0 : ∀ t, t < n → dtp n (fun _ _ => 0) t = 0 := fun t ht => by
      have b := dtp_bd1 (n := n) (t := t) (a := 0) (A := fun _ _ => 0) (b := (2 * (n * (n * 0))) ^ (n - 1 - t)) ht (fun _ _ => Nat.le_refl 0) (fun i k hi hk => by
        have := dtB_bd (n := n) (a := 0) (A := fun _ _ => 0) (fun _ _ => Nat.le_refl 0) (n - 1 - t) (by omega) i k hi hk
        rw [show n - 1 - (n - 1 - t) = t by omega] at this
        exact this)
      rw [Nat.zero_mul, Nat.mul_zero, Nat.mul_zero] at b
      omega
    rw [vecD_congr h0]
  have lst : ∃ β', e2 3 (sRet (vand (vOp2 gEq (oOf (vCall 1 none phi_wide (aCons (oPk 3) aNil))) (oOf (vOp2 gAdd (oOf (vOp2 gRep (oOf (vLst (aCons (oOf (vC (.int 0))) aNil))) (oPk 2))) (oOf (vLst (aCons (oOf (vC (.int 1))) aNil)))))) (vOp2 gEq (oOf (vCall 1 none phi_trace (aCons (oPk 3) aNil))) (oOf (vC (.int 0)))))) (LW ns n A (some (.fr W4)) t5 t6 (some (.fr (vecD (n + 1) (dtp n A)))) (some (.sh (.int ((List.range n).map fun a => A a a).sum))) t10) (full2 3 (LW ns n A (some (.fr W4)) t5 t6 (some (.fr (vecD (n + 1) (dtp n A)))) (some (.sh (.int ((List.range n).map fun a => A a a).sum))) t10) (otM n fun _ _ => 0)) (otM n fun _ _ => 0) = some (.so (.rt (.sh (.bl true)) β')) := by
    have q1 : gEq (.lst (vecD n (fun _ => 0) ++ [.int 1])) (.lst (vecD n (fun _ => 0) ++ [.int 1])) = some (.sh (.bl true)) := eq_self' (by rw [← zp]; exact okPy_ints _)
    have t1 : isTL (vecD n (fun _ => 0) ++ [.int 1]) = true := by
      rw [← zp]
      exact isTL_ints _
    rw [zp] at hz
    have sz : ((List.range n).map fun _ : Nat => (0 : Int)).sum = 0 := by
      rw [dtS_sum]
      exact dtS_zero n fun _ _ => rfl
    rw [sz] at tz
    have gr : gRep (.lst [.int 0]) (.int (n : Int)) = some (.fr (vecD n fun _ => 0)) := vec_zero (w := n) (by omega)
    have ga : gAdd (.lst (vecD n fun _ => 0)) (.lst [.int 1]) = some (.fr (vecD n (fun _ => 0) ++ [.int 1])) := if_pos (by rw [lens_vecD]; show n + 1 ≤ 1000000; omega)
    refine ⟨[some (.sh (.scr ns)), some (.sh (.lst (mat n A))), some (.sh (.int (n : Int))), some (.fr (mat n fun _ _ => 0)), some (.fr W4), t5, t6, some (.fr (vecD (n + 1) (dtp n A))), some (.sh (.int ((List.range n).map fun a => A a a).sum)), none, t10, none, none], e2_rt (o := .rt (.sh (.bl true)) [some (.sh (.scr ns)), some (.sh (.lst (mat n A))), some (.sh (.int (n : Int))), some (.fr (mat n fun _ _ => 0)), some (.fr W4), t5, t6, some (.fr (vecD (n + 1) (dtp n A))), some (.sh (.int ((List.range n).map fun a => A a a).sum)), none, t10, none, none]) ?_⟩
    show (sRet (vand (vOp2 gEq (oOf (vCall 1 none phi_wide (aCons (oPk 3) aNil))) (oOf (vOp2 gAdd (oOf (vOp2 gRep (oOf (vLst (aCons (oOf (vC (.int 0))) aNil))) (oPk 2))) (oOf (vLst (aCons (oOf (vC (.int 1))) aNil)))))) (vOp2 gEq (oOf (vCall 1 none phi_trace (aCons (oPk 3) aNil))) (oOf (vC (.int 0)))))) [some (.sh (.scr ns)), some (.sh (.lst (mat n A))), some (.sh (.int (n : Int))), some (.fr (mat n fun _ _ => 0)), some (.fr W4), t5, t6, some (.fr (vecD (n + 1) (dtp n A))), some (.sh (.int ((List.range n).map fun a => A a a).sum)), none, t10, none, none] = _
    clear fl b1 b2' b3 b4 b5 r1 r2 r3 e0 ef mz mu zp
    generalize ((List.range n).map fun a => A a a).sum = z at *
    generalize vecD (n + 1) (dtp n A) = V at *
    generalize mat n A = M at *
    generalize (mat n fun _ _ => 0) = MZ at *
    generalize (vecD n fun _ => 0) = RZ at *
    generalize RZ ++ [D.int 1] = RY at *
    simp_arith only [hz, gr, ga, q1, tz, t1]
  obtain ⟨β', lst⟩ := lst
  have key : t2_law_1 (LW ns n A none none none none none none) (full2 3 (LW ns n A none none none none none none) (otM n A)) (otM n A) = some (.so (.rt (.sh (.bl true)) β')) := by
    unfold t2_law_1
    rw [seq2_nx (p2_sv (x := 3) (i := 4) (by decide) (by
      show (if (vecD (n + 1) (dtp n A)).all isFlat = true then some (SV.ow (.lst (vecD (n + 1) (dtp n A)))) else none) = _
      rw [if_pos (all_flat _)]) r1)]
    show seq2 (p2 [] rd_law_2) _ (LW ns n A (some (.fr (vecD (n + 1) (dtp n A)))) none none none none none) (full2 3 (LW ns n A (some (.fr (vecD (n + 1) (dtp n A)))) none none none none none) (otM n A)) (otM n A) = _
    have q2 := p2_nil (x := 3) (β := LW ns n A (some (.fr (vecD (n + 1) (dtp n A)))) none none none none none) (T := otM n A) r2 (by rw [full2_len])
    have q3 := p2_nil (x := 3) (β := LW ns n A (some (.fr W4)) t5 t6 (some (.fr (vecD (n + 1) (dtp n A)))) (some (.sh (.int ((List.range n).map fun a => A a a).sum))) none) (T := otM n A) r3 (by rw [full2_len])
    rw [seq2_nx q2, seq2_nx (b2_nx b1), seq2_nx (b2_nx b2'), seq2_nx (b2_nx b3), seq2_nx (b2_nx b4), seq2_nx (b2_nx b5), seq2_nx q3, seq2_nx (mu _)]
    exact lst
  have bg := bg2_so (x := 3) e0 (by decide : 3 < 13) key
  clear fl b1 b2' b3 b4 b5 r1 r2 r3 e0 ef mz mu zp lst key
  generalize mat n A = M at *
  unfold phi_law b_law
  simp_arith only [eN, et, ml, bg]
end LawW

namespace LawW
open PySem PySem.Spec PyProof.Rows L2 Sim
/-! ### the text -/
def topS (i : Nat) : Stmt := PySem.Challenge.pw_fractionroads_k63_wide.main.body.getD i (.Pass ⟨0, 0, 0, 0⟩)
abbrev st_trace : Stmt := topS 1
abbrev N_trace : List Str := ["table", "k"]
theorem sc_trace : FnScope N_trace ["table"] (defScope st_trace) := ⟨rfl, rfl, rfl, by decide +kernel, rfl, by decide +kernel, by decide +kernel⟩
abbrev st_times_table : Stmt := topS 2
abbrev N_times_table : List Str := ["one", "other", "columns", "k", "row", "column", "x", "y"]
theorem sc_times_table : FnScope N_times_table ["one", "other"] (defScope st_times_table) := ⟨rfl, rfl, rfl, by decide +kernel, rfl, by decide +kernel, by decide +kernel⟩
abbrev st_wide : Stmt := topS 3
abbrev N_wide : List Str := ["table", "found", "many", "made", "k", "row", "i", "j"]
theorem sc_wide : FnScope N_wide ["table"] (defScope st_wide) := ⟨rfl, rfl, rfl, by decide +kernel, rfl, by decide +kernel, by decide +kernel⟩
abbrev st_law_cell_at : Stmt := topS 5
abbrev N_law_cell_at : List Str := ["_law_script", "_law_k"]
theorem sc_law_cell_at : FnScope N_law_cell_at ["_law_script", "_law_k"] (defScope st_law_cell_at) := ⟨rfl, rfl, rfl, by decide +kernel, rfl, by decide +kernel, by decide +kernel⟩
abbrev st_law_number : Stmt := topS 6
abbrev N_law_number : List Str := ["_law_script", "_law_k", "_law_cell", "_law_one"]
theorem sc_law_number : FnScope N_law_number ["_law_script", "_law_k"] (defScope st_law_number) := ⟨rfl, rfl, rfl, by decide +kernel, rfl, by decide +kernel, by decide +kernel⟩
abbrev st_law_whole : Stmt := topS 7
abbrev N_law_whole : List Str := ["_law_thing"]
theorem sc_law_whole : FnScope N_law_whole ["_law_thing"] (defScope st_law_whole) := ⟨rfl, rfl, rfl, by decide +kernel, rfl, by decide +kernel, by decide +kernel⟩
abbrev st_law_numbers : Stmt := topS 8
abbrev N_law_numbers : List Str := ["_law_thing", "_law_many", "_law_one"]
theorem sc_law_numbers : FnScope N_law_numbers ["_law_thing", "_law_many"] (defScope st_law_numbers) := ⟨rfl, rfl, rfl, by decide +kernel, rfl, by decide +kernel, by decide +kernel⟩
abbrev st_law_table : Stmt := topS 9
abbrev N_law_table : List Str := ["_law_number_here", "_law_many", "_law_base", "_law_table_here", "_law_i", "_law_row", "_law_j"]
theorem sc_law_table : FnScope N_law_table ["_law_number_here"] (defScope st_law_table) := ⟨rfl, rfl, rfl, by decide +kernel, rfl, by decide +kernel, by decide +kernel⟩
abbrev st_law_determinant : Stmt := topS 10
abbrev N_law_determinant : List Str := ["_law_table_here", "_law_rows", "_law_sign", "_law_ahead", "_law_k", "_law_some", "_law_i", "_law_j", "_law_one", "_law_other", "_law_row"]
theorem sc_law_determinant : FnScope N_law_determinant ["_law_table_here"] (defScope st_law_determinant) := ⟨rfl, rfl, rfl, by decide +kernel, rfl, by decide +kernel, by decide +kernel⟩
abbrev st_law_value : Stmt := topS 11
abbrev N_law_value : List Str := ["_law_numbers_here", "_law_x", "_law_found", "_law_one"]
theorem sc_law_value : FnScope N_law_value ["_law_numbers_here", "_law_x"] (defScope st_law_value) := ⟨rfl, rfl, rfl, by decide +kernel, rfl, by decide +kernel, by decide +kernel⟩
abbrev st_law : Stmt := topS 12
abbrev N_law : List Str := ["_law_script", "_law_table_here", "_law_many", "_law_handed", "_law_told", "_law_x", "_law_shifted", "_law_kept", "_law_due", "_law_row", "_law_k", "_law_i", "_law_j"]
theorem sc_law : FnScope N_law ["_law_script"] (defScope st_law) := ⟨rfl, rfl, rfl, by decide +kernel, rfl, by decide +kernel, by decide +kernel⟩
section
variable {P : Program} {w : World} {K : PySem.W.Frag} {mg : Str → Option Value} {base : Heap} {cv : Nat → Value} {dv : Nat → Addr}
set_option maxRecDepth 100000 in
theorem ok_trace (D0 : DefAt K mg "trace" st_trace ["table"]) (z_len : mg "len" = none) (z_range : mg "range" = none) (z_sum : mg "sum" = none) : Has P w K mg base cv 1 1 none phi_trace "trace" ["table"] := by
  obtain ⟨f0, fd0, G0, m0, b0⟩ := D0
  refine ⟨f0, fd0, fn_ok (n := 1) (io := none) (m := b_trace) (w := []) G0 sc_trace rfl ?hio (fun cdv A outer s H E hr => ?body) (fun _ _ h => h), m0, G0.kp, b0, fun_look G0⟩
  case body =>
    unfold b_trace le_trace_1 lc_trace_1
    refine' ⟨_, (sns_one (sns_ret (snd_bi (cr_sum rfl) ok_sum rfl z_sum boot_sum (snd_acons (snd_o ?lc1) snd_anil))))⟩
    case lc1 =>
      refine' snd_lc2 (own := [("k", 1)]) rfl sc_trace.nd ?qi1 (blkOk_by (own := [("k", 1)]) (N := N_trace) (sc := defScope st_trace) (by decide +kernel)) ?qg1 ?qt1 ?qe1 s ?qw1 ?qr1 ?qs1
      case qi1 =>
        refine' (sni_r1 rfl z_range (snd_acons (snd_o (snd_bi call_len ok_len rfl z_len PySem.boot_len (snd_acons (snd_pk (pv 0)) snd_anil))) snd_anil))
      case qg1 =>
        refine' (fun _ _ _ _ _ => (sng_name (i := 1) sc_trace.nd rfl (Or.inl rfl)))
      case qt1 =>
        refine' (fun _ _ _ _ _ => pts_no)
      case qe1 =>
        refine' (fun _ _ _ _ _ => (snd_ix (snd_o (snd_ix (snd_pk (pv 0)) (snd_pk (pv 1)) (fun _ _ => rfl))) (snd_pk (pv 1)) (fun _ _ => rfl)))
      case qw1 => decide
      case qr1 => intros; rfl
      case qs1 => intros; rfl
  case hio => exact fun i h => nomatch h
set_option maxRecDepth 100000 in
theorem ok_times_table (D0 : DefAt K mg "times_table" st_times_table ["one", "other"]) (z_len : mg "len" = none) (z_range : mg "range" = none) (z_sum : mg "sum" = none) (z_zip : mg "zip" = none) : Has P w K mg base cv 1 2 none phi_times_table "times_table" ["one", "other"] := by
  obtain ⟨f0, fd0, G0, m0, b0⟩ := D0
  refine ⟨f0, fd0, fn_ok (n := 2) (io := none) (m := b_times_table) (w := ([2] ++ [])) G0 sc_times_table rfl ?hio (fun cdv A outer s H E hr => ?body) (fun _ _ h => h), m0, G0.kp, b0, fun_look G0⟩
  case body =>
    unfold b_times_table le_times_table_5 lc_times_table_5 le_times_table_4 lc_times_table_4 le_times_table_3 lc_times_table_3 le_times_table_2 lc_times_table_2 le_times_table_1 lc_times_table_1
    refine' ⟨_, (sns_cons (sns_set (i := 2) sc_times_table.nd rfl (Or.inr rfl) ?lc2)
    (sns_one (sns_ret ?lc5)))⟩
    case lc2 =>
      refine' snd_lc2 (own := [("k", 3)]) rfl sc_times_table.nd ?qi2 (blkOk_by (own := [("k", 3)]) (N := N_times_table) (sc := defScope st_times_table) (by decide +kernel)) ?qg2 ?qt2 ?qe2 s ?qw2 ?qr2 ?qs2
      case qi2 =>
        refine' (sni_r1 rfl z_range (snd_acons (snd_o (snd_bi call_len ok_len rfl z_len PySem.boot_len (snd_acons (snd_pk (pv 1)) snd_anil))) snd_anil))
      case qg2 =>
        refine' (fun _ _ _ _ _ => (sng_name (i := 3) sc_times_table.nd rfl (Or.inr rfl)))
      case qt2 =>
        refine' (fun _ _ _ _ _ => pts_no)
      case qe2 =>
        refine' (fun _ _ _ _ _ => ?lc1)
        case lc1 =>
          refine' snd_lc2 (own := [("row", 4)]) rfl sc_times_table.nd ?qi1 (blkOk_by (own := [("row", 4)]) (N := N_times_table) (by rfl)) ?qg1 ?qt1 ?qe1 s ?qw1 ?qr1 ?qs1
          case qi1 =>
            refine' (sni_list (snd_o (snd_var (x := "") (pv 1))))
          case qg1 =>
            refine' (fun _ _ _ _ _ => (sng_name (i := 4) sc_times_table.nd rfl (Or.inl rfl)))
          case qt1 =>
            refine' (fun _ _ _ _ _ => pts_no)
          case qe1 =>
            refine' (fun _ _ _ _ _ => (snd_ix (snd_pk (pv 4)) (snd_pk (pv 3)) (fun _ _ => rfl)))
          case qw1 => decide
          case qr1 => intros; rfl
          case qs1 => intros; rfl
      case qw2 => decide
      case qr2 => intros; rfl
      case qs2 => intros; rfl
    case lc5 =>
      refine' snd_lc2 (own := [("row", 4)]) rfl sc_times_table.nd ?qi5 (blkOk_by (own := [("row", 4)]) (N := N_times_table) (sc := defScope st_times_table) (by decide +kernel)) ?qg5 ?qt5 ?qe5 s ?qw5 ?qr5 ?qs5
      case qi5 =>
        refine' (sni_list (snd_o (snd_var (x := "") (pv 0))))
      case qg5 =>
        refine' (fun _ _ _ _ _ => (sng_name (i := 4) sc_times_table.nd rfl (Or.inr rfl)))
      case qt5 =>
        refine' (fun _ _ _ _ _ => pts_no)
      case qe5 =>
        refine' (fun _ _ _ _ _ => ?lc4)
        case lc4 =>
          refine' snd_lc2 (own := [("column", 5)]) rfl sc_times_table.nd ?qi4 (blkOk_by (own := [("column", 5)]) (N := N_times_table) (by rfl)) ?qg4 ?qt4 ?qe4 s ?qw4 ?qr4 ?qs4
          case qi4 =>
            refine' (sni_list (snd_o (snd_var (x := "") (pv 2))))
          case qg4 =>
            refine' (fun _ _ _ _ _ => (sng_name (i := 5) sc_times_table.nd rfl (Or.inl rfl)))
          case qt4 =>
            refine' (fun _ _ _ _ _ => pts_no)
          case qe4 =>
            refine' (fun _ _ _ _ _ => (snd_bi (cr_sum rfl) ok_sum rfl z_sum boot_sum (snd_acons (snd_o ?lc3) snd_anil)))
            case lc3 =>
              refine' snd_lc2 (own := [("x", 6), ("y", 7)]) rfl sc_times_table.nd ?qi3 (blkOk_by (own := [("x", 6), ("y", 7)]) (N := N_times_table) (by rfl)) ?qg3 ?qt3 ?qe3 s ?qw3 ?qr3 ?qs3
              case qi3 =>
                refine' (sni_zip rfl z_zip (snd_acons (snd_o (snd_var (x := "") (pv 4))) (snd_acons (snd_o (snd_var (x := "") (pv 5))) snd_anil)))
              case qg3 =>
                refine' (fun _ _ _ _ _ => (sng_tupK (K := K) (len := 2) rfl rfl (sngs_cons (sng_name (i := 6) sc_times_table.nd rfl (Or.inl rfl)) (sngs_cons (sng_name (i := 7) sc_times_table.nd rfl (Or.inl rfl)) sngs_nil))))
              case qt3 =>
                refine' (fun _ _ _ _ _ => pts_no)
              case qe3 =>
                refine' (fun _ _ _ _ _ => (snd_mul (snd_pk (pv 6)) (snd_pk (pv 7))))
              case qw3 => decide
              case qr3 => intros; rfl
              case qs3 => intros; rfl
          case qw4 => decide
          case qr4 => intros; rfl
          case qs4 => intros; rfl
      case qw5 => decide
      case qr5 => intros; rfl
      case qs5 => intros; rfl
  case hio => exact fun i h => nomatch h
set_option maxRecDepth 100000 in
theorem ok_wide (D0 : DefAt K mg "wide" st_wide ["table"]) (H_times_table : Has P w K mg base cv 1 2 none phi_times_table "times_table" ["one", "other"]) (H_trace : Has P w K mg base cv 1 1 none phi_trace "trace" ["table"]) (z_int : mg "int" = none) (z_len : mg "len" = none) (z_range : mg "range" = none) : Has P w K mg base cv 2 1 none phi_wide "wide" ["table"] := by
  obtain ⟨f0, fd0, G0, m0, b0⟩ := D0
  obtain ⟨f_times_table, fd_times_table, G_times_table, m_times_table, k_times_table, b_times_table, _⟩ := H_times_table
  obtain ⟨f_trace, fd_trace, G_trace, m_trace, k_trace, b_trace, _⟩ := H_trace
  refine ⟨f0, fd0, fn_ok (n := 1) (io := none) (m := b_wide) (w := ([1] ++ ([2] ++ ([3] ++ (([4] ++ ([3] ++ ([3] ++ [1]))) ++ []))))) G0 sc_wide rfl ?hio (fun cdv A outer s H E hr => ?body) (fun _ _ h => h), m0, G0.kp, b0, fun_look G0⟩
  case body =>
    unfold b_wide fb_wide_1 le_wide_3 lc_wide_3 le_wide_2 lc_wide_2 le_wide_1 lc_wide_1
    refine' ⟨_, (sns_cons (sns_set (i := 1) sc_wide.nd rfl (Or.inr rfl) (snd_lst (snd_acons (snd_o snd_int) snd_anil)))
    (sns_cons (sns_set (i := 2) sc_wide.nd rfl (Or.inr rfl) (snd_bi call_len ok_len rfl z_len PySem.boot_len (snd_acons (snd_pk (pv 0)) snd_anil)))
    (sns_cons (sns_set (i := 3) sc_wide.nd rfl (Or.inr rfl) ?lc1)
    (sns_cons (sns_for (passes_of rfl) rfl (sni_r2 rfl z_range (snd_acons (snd_o snd_int) (snd_acons (snd_o (snd_add (snd_pk (pv 2)) (snd_o snd_int))) snd_anil))) (sng_name (i := 4) sc_wide.nd rfl (Or.inl rfl))
    (sns_cons (sns_set (i := 3) sc_wide.nd rfl (Or.inr rfl) ?lc3)
    (sns_cons (sns_set (i := 3) sc_wide.nd rfl (Or.inr rfl) (snd_call G_times_table (hr.mono (by decide)) rfl m_times_table k_times_table b_times_table (L2N.takes_of rfl rfl rfl rfl) (snd_acons (snd_o (snd_var (x := "") (pv 0))) (snd_acons (snd_o (snd_var (x := "") (pv 3))) snd_anil))))
    (sns_one (sns_set (i := 1) sc_wide.nd rfl (Or.inr rfl) (snd_add (snd_o (snd_lst (snd_acons (snd_o (snd_sub (snd_o snd_int) (snd_o (snd_div (snd_o (snd_call G_trace (hr.mono (by decide)) rfl m_trace k_trace b_trace (L2N.takes_of rfl rfl rfl rfl) (snd_acons (snd_pk (pv 3)) snd_anil))) (snd_pk (pv 4)))))) snd_anil))) (snd_pk (pv 1))))))))
    (sns_one (sns_ret (snd_mv (pv 1))))))))⟩
    case lc1 =>
      refine' snd_lc2 (own := [("row", 5)]) rfl sc_wide.nd ?qi1 (blkOk_by (own := [("row", 5)]) (N := N_wide) (sc := defScope st_wide) (by decide +kernel)) ?qg1 ?qt1 ?qe1 s ?qw1 ?qr1 ?qs1
      case qi1 =>
        refine' (sni_list (snd_o (snd_var (x := "") (pv 0))))
      case qg1 =>
        refine' (fun _ _ _ _ _ => (sng_name (i := 5) sc_wide.nd rfl (Or.inl rfl)))
      case qt1 =>
        refine' (fun _ _ _ _ _ => pts_no)
      case qe1 =>
        refine' (fun _ _ _ _ _ => (snd_rep (snd_o (snd_lst (snd_acons (snd_o snd_int) snd_anil))) (snd_pk (pv 2))))
      case qw1 => decide
      case qr1 => intros; rfl
      case qs1 => intros; rfl
    case lc3 =>
      refine' snd_lc2 (own := [("i", 6)]) rfl sc_wide.nd ?qi3 (blkOk_by (own := [("i", 6)]) (N := N_wide) (sc := defScope st_wide) (by decide +kernel)) ?qg3 ?qt3 ?qe3 s ?qw3 ?qr3 ?qs3
      case qi3 =>
        refine' (sni_r1 rfl z_range (snd_acons (snd_pk (pv 2)) snd_anil))
      case qg3 =>
        refine' (fun _ _ _ _ _ => (sng_name (i := 6) sc_wide.nd rfl (Or.inr rfl)))
      case qt3 =>
        refine' (fun _ _ _ _ _ => pts_no)
      case qe3 =>
        refine' (fun _ _ _ _ _ => ?lc2)
        case lc2 =>
          refine' snd_lc2 (own := [("j", 7)]) rfl sc_wide.nd ?qi2 (blkOk_by (own := [("j", 7)]) (N := N_wide) (by rfl)) ?qg2 ?qt2 ?qe2 s ?qw2 ?qr2 ?qs2
          case qi2 =>
            refine' (sni_r1 rfl z_range (snd_acons (snd_pk (pv 2)) snd_anil))
          case qg2 =>
            refine' (fun _ _ _ _ _ => (sng_name (i := 7) sc_wide.nd rfl (Or.inl rfl)))
          case qt2 =>
            refine' (fun _ _ _ _ _ => pts_no)
          case qe2 =>
            refine' (fun _ _ _ _ _ => (snd_add (snd_o (snd_ix (snd_o (snd_ix (snd_pk (pv 3)) (snd_pk (pv 6)) (fun _ _ => rfl))) (snd_pk (pv 7)) (fun _ _ => rfl))) (snd_o (snd_mul (snd_o (snd_ix (snd_pk (pv 1)) (snd_o snd_int) (fun _ _ => rfl))) (snd_o (snd_bt call_int1 ok_int rfl z_int PyProof.Rows.boot_int (snd_acons (snd_o (snd_cmp (op_eqD hr.units) ok_eq (snd_pk (pv 6)) (snd_pk (pv 7)) (nomark _))) snd_anil)))))))
          case qw2 => decide
          case qr2 => intros; rfl
          case qs2 => intros; rfl
      case qw3 => decide
      case qr3 => intros; rfl
      case qs3 => intros; rfl
  case hio => exact fun i h => nomatch h
set_option maxRecDepth 100000 in
theorem ok_law_cell_at (D0 : DefAt K mg "_law_cell_at" st_law_cell_at ["_law_script", "_law_k"]) (z_len : mg "len" = none) : Has P w K mg base cv 1 2 none phi_law_cell_at "_law_cell_at" ["_law_script", "_law_k"] := by
  obtain ⟨f0, fd0, G0, m0, b0⟩ := D0
  refine ⟨f0, fd0, fn_ok (n := 2) (io := none) (m := b_law_cell_at) (w := (([] ++ []) ++ [])) G0 sc_law_cell_at rfl ?hio (fun cdv A outer s H E hr => ?body) (fun _ _ h => h), m0, G0.kp, b0, fun_look G0⟩
  case body =>
    unfold b_law_cell_at
    exact ⟨_, (sns_cons (sns_if (snb_cmp op_lt ok_cmp (snd_pk (pv 1)) (snd_o (snd_bi call_len ok_len rfl z_len PySem.boot_len (snd_acons (snd_pk (pv 0)) snd_anil))) (nomark _))
    (sns_one (sns_ret (snd_ix (snd_pk (pv 0)) (snd_pk (pv 1)) (fun _ _ => rfl))))
    sns_nil)
    (sns_one (sns_ret snd_int)))⟩
  case hio => exact fun i h => nomatch h
set_option maxRecDepth 100000 in
theorem ok_law_number (D0 : DefAt K mg "_law_number" st_law_number ["_law_script", "_law_k"]) (H_law_cell_at : Has P w K mg base cv 1 2 none phi_law_cell_at "_law_cell_at" ["_law_script", "_law_k"]) : Has P w K mg base cv 2 2 none phi_law_number "_law_number" ["_law_script", "_law_k"] := by
  obtain ⟨f0, fd0, G0, m0, b0⟩ := D0
  obtain ⟨f_law_cell_at, fd_law_cell_at, G_law_cell_at, m_law_cell_at, k_law_cell_at, b_law_cell_at, _⟩ := H_law_cell_at
  refine ⟨f0, fd0, fn_ok (n := 2) (io := none) (m := b_law_number) (w := ([2] ++ (([] ++ []) ++ ([3] ++ [])))) G0 sc_law_number rfl ?hio (fun cdv A outer s H E hr => ?body) (fun _ _ h => h), m0, G0.kp, b0, fun_look G0⟩
  case body =>
    unfold b_law_number
    exact ⟨_, (sns_cons (sns_set (i := 2) sc_law_number.nd rfl (Or.inl rfl) (snd_call G_law_cell_at (hr.mono (by decide)) rfl m_law_cell_at k_law_cell_at b_law_cell_at (L2N.takes_of rfl rfl rfl rfl) (snd_acons (snd_pk (pv 0)) (snd_acons (snd_pk (pv 1)) snd_anil))))
    (sns_cons (sns_if (snb_cmp op_ge ok_cmp (snd_pk (pv 2)) (snd_o (snd_pow (snd_o snd_int) (snd_o snd_int))) (nomark _))
    (sns_one (sns_ret (snd_mv (pv 2))))
    sns_nil)
    (sns_cons (sns_set (i := 3) sc_law_number.nd rfl (Or.inl rfl) (snd_mod (snd_o (snd_mul (snd_o (snd_add (snd_pk (pv 2)) (snd_o (snd_mul (snd_o snd_int) (snd_o (snd_add (snd_o (snd_add (snd_o (snd_mul (snd_pk (pv 1)) (snd_pk (pv 1)))) (snd_pk (pv 1)))) (snd_o snd_int))))))) (snd_o snd_int))) (snd_o (snd_pow (snd_o snd_int) (snd_o snd_int)))))
    (sns_one (sns_ret (snd_mod (snd_o (snd_div (snd_o (snd_mul (snd_pk (pv 3)) (snd_pk (pv 3)))) (snd_o (snd_pow (snd_o snd_int) (snd_o snd_int))))) (snd_o (snd_pow (snd_o snd_int) (snd_o snd_int)))))))))⟩
  case hio => exact fun i h => nomatch h
set_option maxRecDepth 100000 in
theorem ok_law_whole (D0 : DefAt K mg "_law_whole" st_law_whole ["_law_thing"]) (z_bool : mg "bool" = none) (z_int : mg "int" = none) (z_isinstance : mg "isinstance" = none) : Has P w K mg base cv 1 1 none phi_law_whole "_law_whole" ["_law_thing"] := by
  obtain ⟨f0, fd0, G0, m0, b0⟩ := D0
  refine ⟨f0, fd0, fn_ok (n := 1) (io := none) (m := b_law_whole) (w := []) G0 sc_law_whole rfl ?hio (fun cdv A outer s H E hr => ?body) (fun _ _ h => h), m0, G0.kp, b0, fun_look G0⟩
  case body =>
    unfold b_law_whole
    exact ⟨_, (sns_one (sns_ret (snd_and (snd_is kit_int rfl z_isinstance rfl z_int PyProof.Rows.boot_int (snd_pk (pv 0))) (snd_one (snd_not (snd_is kit_bl rfl z_isinstance rfl z_bool PyProof.Rows.boot_bool (snd_pk (pv 0))))))))⟩
  case hio => exact fun i h => nomatch h
set_option maxRecDepth 100000 in
theorem ok_law_numbers (D0 : DefAt K mg "_law_numbers" st_law_numbers ["_law_thing", "_law_many"]) (H_law_whole : Has P w K mg base cv 1 1 none phi_law_whole "_law_whole" ["_law_thing"]) (z_all : mg "all" = none) (z_isinstance : mg "isinstance" = none) (z_len : mg "len" = none) (z_list : mg "list" = none) : Has P w K mg base cv 2 2 none phi_law_numbers "_law_numbers" ["_law_thing", "_law_many"] := by
  obtain ⟨f0, fd0, G0, m0, b0⟩ := D0
  obtain ⟨f_law_whole, fd_law_whole, G_law_whole, m_law_whole, k_law_whole, b_law_whole, _⟩ := H_law_whole
  refine ⟨f0, fd0, fn_ok (n := 2) (io := none) (m := b_law_numbers) (w := []) G0 sc_law_numbers rfl ?hio (fun cdv A outer s H E hr => ?body) (fun _ _ h => h), m0, G0.kp, b0, fun_look G0⟩
  case body =>
    unfold b_law_numbers le_law_numbers_1 lc_law_numbers_1
    refine' ⟨_, (sns_one (sns_ret (snd_and (snd_is kit_lst rfl z_isinstance rfl z_list PyProof.Rows.boot_list (snd_pk (pv 0))) (snd_and (snd_cmp (op_eqD hr.units) ok_eq (snd_o (snd_bi call_len ok_len rfl z_len PySem.boot_len (snd_acons (snd_pk (pv 0)) snd_anil))) (snd_pk (pv 1)) (nomark _)) (snd_one (snd_bi (cr_all rfl) ok_all rfl z_all boot_all (snd_acons (snd_o ?lc1) snd_anil)))))))⟩
    case lc1 =>
      refine' snd_lc2 (own := [("_law_one", 2)]) rfl sc_law_numbers.nd ?qi1 (blkOk_by (own := [("_law_one", 2)]) (N := N_law_numbers) (sc := defScope st_law_numbers) (by decide +kernel)) ?qg1 ?qt1 ?qe1 s ?qw1 ?qr1 ?qs1
      case qi1 =>
        refine' (sni_list (snd_o (snd_var (x := "") (pv 0))))
      case qg1 =>
        refine' (fun _ _ _ _ _ => (sng_name (i := 2) sc_law_numbers.nd rfl (Or.inl rfl)))
      case qt1 =>
        refine' (fun _ _ _ _ _ => pts_no)
      case qe1 =>
        refine' (fun _ _ _ _ _ => (snd_call G_law_whole (hr.mono (by decide)) rfl m_law_whole k_law_whole b_law_whole takes0N (snd_acons (snd_pk (pv 2)) snd_anil)))
      case qw1 => decide
      case qr1 => intros; rfl
      case qs1 => intros; rfl
  case hio => exact fun i h => nomatch h
set_option maxRecDepth 100000 in
theorem ok_law_table (D0 : DefAt K mg "_law_table" st_law_table ["_law_number_here"]) (z_int : mg "int" = none) (z_range : mg "range" = none) : Has P w K mg base cv 1 1 none phi_law_table "_law_table" ["_law_number_here"] := by
  obtain ⟨f0, fd0, G0, m0, b0⟩ := D0
  refine ⟨f0, fd0, fn_ok (n := 1) (io := none) (m := b_law_table) (w := ([1] ++ ([2] ++ ([0] ++ ([3] ++ (([4] ++ ([5] ++ (([6] ++ ([] ++ [0])) ++ []))) ++ [])))))) G0 sc_law_table rfl ?hio (fun cdv A outer s H E hr => ?body) (fun _ _ h => h), m0, G0.kp, b0, fun_look G0⟩
  case body =>
    unfold b_law_table fb_law_table_2 fb_law_table_1
    exact ⟨_, (sns_cons (sns_set (i := 1) sc_law_table.nd rfl (Or.inl rfl) (snd_ix (snd_o (snd_lst (snd_acons (snd_o (snd_mod (snd_pk (pv 0)) (snd_o snd_int))) (snd_acons (snd_o (snd_mod (snd_pk (pv 0)) (snd_o snd_int))) snd_anil)))) (snd_o (snd_bt call_int1 ok_int rfl z_int PyProof.Rows.boot_int (snd_acons (snd_o (snd_cmp (op_eqD hr.units) ok_eq (snd_o (snd_mod (snd_o (snd_div (snd_pk (pv 0)) (snd_o snd_int))) (snd_o snd_int))) (snd_o snd_int) (nomark _))) snd_anil))) (fun _ _ => rfl)))
    (sns_cons (sns_set (i := 2) sc_law_table.nd rfl (Or.inl rfl) (snd_ix (snd_o (snd_lst (snd_acons (snd_o snd_int) (snd_acons (snd_o snd_int) (snd_acons (snd_o (snd_pow (snd_o snd_int) (snd_o snd_int))) (snd_acons (snd_o (snd_pow (snd_o snd_int) (snd_o snd_int))) snd_anil)))))) (snd_o (snd_mod (snd_o (snd_div (snd_pk (pv 0)) (snd_o snd_int))) (snd_o snd_int))) (fun _ _ => rfl)))
    (sns_cons (sns_set (i := 0) sc_law_table.nd rfl (Or.inl rfl) (snd_div (snd_pk (pv 0)) (snd_o snd_int)))
    (sns_cons (sns_set (i := 3) sc_law_table.nd rfl (Or.inl rfl) (snd_lst snd_anil))
    (sns_cons (sns_for (passes_of rfl) rfl (sni_r1 rfl z_range (snd_acons (snd_pk (pv 1)) snd_anil)) (sng_name (i := 4) sc_law_table.nd rfl (Or.inl rfl))
    (sns_cons (sns_set (i := 5) sc_law_table.nd rfl (Or.inl rfl) (snd_lst snd_anil))
    (sns_cons (sns_for (passes_of rfl) rfl (sni_r1 rfl z_range (snd_acons (snd_pk (pv 1)) snd_anil)) (sng_name (i := 6) sc_law_table.nd rfl (Or.inl rfl))
    (sns_cons (sns_expr (snd_m PySem.F.slot_list_append PySem.F.type_list_append mt_append okm_app (pv 5) (snd_acons (snd_o (snd_mul (snd_o (snd_mod (snd_pk (pv 0)) (snd_pk (pv 2)))) (snd_o (snd_sub (snd_o snd_int) (snd_o (snd_mul (snd_o snd_int) (snd_o (snd_mod (snd_o (snd_div (snd_pk (pv 0)) (snd_pk (pv 2)))) (snd_o snd_int))))))))) snd_anil)))
    (sns_one (sns_set (i := 0) sc_law_table.nd rfl (Or.inl rfl) (snd_div (snd_pk (pv 0)) (snd_o (snd_mul (snd_o snd_int) (snd_pk (pv 2)))))))))
    (sns_one (sns_expr (snd_m PySem.F.slot_list_append PySem.F.type_list_append mt_append okm_app (pv 3) (snd_acons (snd_o (snd_var (x := "") (pv 5))) snd_anil)))))))
    (sns_one (sns_ret (snd_mv (pv 3)))))))))⟩
  case hio => exact fun i h => nomatch h
set_option maxRecDepth 100000 in
theorem ok_law_determinant (D0 : DefAt K mg "_law_determinant" st_law_determinant ["_law_table_here"]) (z_len : mg "len" = none) (z_list : mg "list" = none) (z_range : mg "range" = none) : Has P w K mg base cv 1 1 none phi_law_determinant "_law_determinant" ["_law_table_here"] := by
  obtain ⟨f0, fd0, G0, m0, b0⟩ := D0
  refine ⟨f0, fd0, fn_ok (n := 1) (io := none) (m := b_law_determinant) (w := ([1] ++ ([2] ++ ([3] ++ (([4] ++ ([5] ++ (([] ++ []) ++ ((([] ++ [2]) ++ []) ++ (([6] ++ ([7] ++ ([8] ++ ([9] ++ [])))) ++ [3]))))) ++ (([] ++ []) ++ [])))))) G0 sc_law_determinant rfl ?hio (fun cdv A outer s H E hr => ?body) (fun _ _ h => h), m0, G0.kp, b0, fun_look G0⟩
  case body =>
    unfold b_law_determinant t2_law_determinant_1 fm_law_determinant_3 rd_law_determinant_4 fm_law_determinant_2 fm_law_determinant_1 rd_law_determinant_3 rd_law_determinant_2 bs_law_determinant_4 bs_law_determinant_3 rd_law_determinant_1 le_law_determinant_2 lc_law_determinant_2 bs_law_determinant_2 bs_law_determinant_1 le_law_determinant_1 lc_law_determinant_1
    refine' ⟨_, (sn2_bg (x := 1) (st_set (y := 1) sc_law_determinant.nd rfl (Or.inr rfl) ?lc1)
    (sn2_cons (sn2_b (x := 1) (sns_set (i := 2) sc_law_determinant.nd rfl (Or.inl rfl) snd_int))
    (sn2_cons (sn2_b (x := 1) (sns_set (i := 3) sc_law_determinant.nd rfl (Or.inl rfl) snd_int))
    (sn2_cons (sn2_forr (x := 1) (passes_of rfl) rfl (sni_r1F rfl z_range (snd_acons (snd_o (snd_sub (snd_o (snd_bi call_len ok_len rfl z_len PySem.boot_len (snd_acons (snd_pk (pv 1)) snd_anil))) (snd_o snd_int))) snd_anil)) (sng_name (i := 4) sc_law_determinant.nd rfl (Or.inr rfl))
    (sn2_cons (sn2_p (x := 1) (w := [5]) ?lc2)
    (sn2_cons (sn2_b (x := 1) (sns_if (snb_cmp (op_eqD hr.units) ok_eq (snd_pk (pv 5)) (snd_o (snd_lst snd_anil)) (nomark _))
    (sns_one (sns_ret snd_int))
    sns_nil))
    (sn2_cons (sn2_ifb (snb_cmp (op_neD hr.units) ok_ne (snd_o (snd_ix (snd_pk (pv 5)) (snd_o snd_int) (fun _ _ => rfl))) (snd_pk (pv 4)) (nomark _))
    (sn2_cons (sn2_sw rfl (pv 1) (pv 1) (pv 1) (pv 1) (snd_pk (pv 4)) (snd_o (snd_ix (snd_pk (pv 5)) (snd_o snd_int) (fun _ _ => rfl))) (snd_o (snd_ix (snd_pk (pv 5)) (snd_o snd_int) (fun _ _ => rfl))) (snd_pk (pv 4)) (fun _ _ => rfl) (fun _ _ => rfl))
    (sn2_one (sn2_b (x := 1) (sns_set (i := 2) sc_law_determinant.nd rfl (Or.inl rfl) (snd_sub (snd_o snd_int) (snd_pk (pv 2)))))))
    sn2_nil)
    (sn2_cons (sn2_forr (x := 1) (passes_of rfl) rfl (sni_r2F rfl z_range (snd_acons (snd_o (snd_add (snd_pk (pv 4)) (snd_o snd_int))) (snd_acons (snd_o (snd_bi call_len ok_len rfl z_len PySem.boot_len (snd_acons (snd_pk (pv 1)) snd_anil))) snd_anil))) (sng_name (i := 6) sc_law_determinant.nd rfl (Or.inl rfl))
    (sn2_one (sn2_forr (x := 1) (passes_of rfl) rfl (sni_r2F rfl z_range (snd_acons (snd_o (snd_add (snd_pk (pv 4)) (snd_o snd_int))) (snd_acons (snd_o (snd_bi call_len ok_len rfl z_len PySem.boot_len (snd_acons (snd_pk (pv 1)) snd_anil))) snd_anil))) (sng_name (i := 7) sc_law_determinant.nd rfl (Or.inl rfl))
    (sn2_cons (sn2_p (x := 1) (w := [8]) (sns_set (i := 8) sc_law_determinant.nd rfl (Or.inl rfl) (snd_mul (snd_o (snd_ix (snd_o (snd_ix (snd_pk (pv 1)) (snd_pk (pv 6)) (fun _ _ => rfl))) (snd_pk (pv 7)) (fun _ _ => rfl))) (snd_o (snd_ix (snd_o (snd_ix (snd_pk (pv 1)) (snd_pk (pv 4)) (fun _ _ => rfl))) (snd_pk (pv 4)) (fun _ _ => rfl))))))
    (sn2_cons (sn2_p (x := 1) (w := [9]) (sns_set (i := 9) sc_law_determinant.nd rfl (Or.inl rfl) (snd_mul (snd_o (snd_ix (snd_o (snd_ix (snd_pk (pv 1)) (snd_pk (pv 6)) (fun _ _ => rfl))) (snd_pk (pv 4)) (fun _ _ => rfl))) (snd_o (snd_ix (snd_o (snd_ix (snd_pk (pv 1)) (snd_pk (pv 4)) (fun _ _ => rfl))) (snd_pk (pv 7)) (fun _ _ => rfl))))))
    (sn2_one (sn2_st (snl_ix (pv 1) (snd_pk (pv 6)) (fun _ _ => rfl)) (snd_div (snd_o (snd_sub (snd_pk (pv 8)) (snd_pk (pv 9)))) (snd_pk (pv 3))) (snd_pk (pv 7)))))))))
    (sn2_one (sn2_p (x := 1) (w := [3]) (sns_set (i := 3) sc_law_determinant.nd rfl (Or.inl rfl) (snd_ix (snd_o (snd_ix (snd_pk (pv 1)) (snd_pk (pv 4)) (fun _ _ => rfl))) (snd_pk (pv 4)) (fun _ _ => rfl))))))))))
    (sn2_e (x := 1) (sns_cons (sns_if (snb_cmp (op_eqD hr.units) ok_eq (snd_pk (pv 1)) (snd_o (snd_lst snd_anil)) (nomark _))
    (sns_one (sns_ret snd_int))
    sns_nil)
    (sns_one (sns_ret (snd_mul (snd_pk (pv 2)) (snd_o (snd_ix (snd_o (snd_ix (snd_pk (pv 1)) (snd_o (snd_neg (snd_o snd_int))) (fun _ _ => rfl))) (snd_o (snd_neg (snd_o snd_int))) (fun _ _ => rfl))))))))))))⟩
    case lc1 =>
      refine' snt_lc2 (own := [("_law_row", 10)]) rfl sc_law_determinant.nd ?qi1 (blkOk_by (own := [("_law_row", 10)]) (N := N_law_determinant) (sc := defScope st_law_determinant) (by decide +kernel)) ?qg1 ?qt1 ?qe1 s ?qw1 ?qr1 ?qs1
      case qi1 =>
        refine' (sni_list (snd_o (snd_var (x := "") (pv 0))))
      case qg1 =>
        refine' (fun _ _ _ _ _ => (sng_name (i := 10) sc_law_determinant.nd rfl (Or.inl rfl)))
      case qt1 =>
        refine' (fun _ _ _ _ _ => pts_no)
      case qe1 =>
        refine' (fun _ _ _ _ _ => (snt_e (snd_bt call_list_of ok_listOf rfl z_list PyProof.Rows.boot_list (snd_acons (snd_pk (pv 10)) snd_anil))))
      case qw1 => decide
      case qr1 => intros; rfl
      case qs1 => intros; rfl
    case lc2 =>
      refine' sns_setLc2 (i := 5) (own := [("_law_i", 6)]) rfl sc_law_determinant.nd rfl rfl (sw_true rfl rfl rfl (by decide +kernel)) ?qi2 (blkOk_by (own := [("_law_i", 6)]) (N := N_law_determinant) (sc := defScope st_law_determinant) (by decide +kernel)) ?qg2 ?qt2 ?qe2 s ?qw2 ?qr2 ?qs2
      case qi2 =>
        refine' (sni_r2 rfl z_range (snd_acons (snd_pk (pv 4)) (snd_acons (snd_o (snd_bi call_len ok_len rfl z_len PySem.boot_len (snd_acons (snd_pk (pv 1)) snd_anil))) snd_anil)))
      case qg2 =>
        refine' (fun _ _ _ _ _ => (sng_name (i := 6) sc_law_determinant.nd rfl (Or.inl rfl)))
      case qt2 =>
        refine' (fun _ _ _ _ _ => pts_if (snb_cmp (op_neD hr.units) ok_ne (snd_o (snd_ix (snd_o (snd_ix (snd_pk (pv 1)) (snd_pk (pv 6)) (fun _ _ => rfl))) (snd_pk (pv 4)) (fun _ _ => rfl))) (snd_o snd_int) (nomark _)))
      case qe2 =>
        refine' (fun _ _ _ _ _ => (snd_var (x := "") (pv 6)))
      case qw2 => decide
      case qr2 => intros; rfl
      case qs2 => intros; rfl
  case hio => exact fun i h => nomatch h
set_option maxRecDepth 100000 in
theorem ok_law_value (D0 : DefAt K mg "_law_value" st_law_value ["_law_numbers_here", "_law_x"]) : Has P w K mg base cv 1 2 none phi_law_value "_law_value" ["_law_numbers_here", "_law_x"] := by
  obtain ⟨f0, fd0, G0, m0, b0⟩ := D0
  refine ⟨f0, fd0, fn_ok (n := 2) (io := none) (m := b_law_value) (w := ([2] ++ (([3] ++ [2]) ++ []))) G0 sc_law_value rfl ?hio (fun cdv A outer s H E hr => ?body) (fun _ _ h => h), m0, G0.kp, b0, fun_look G0⟩
  case body =>
    unfold b_law_value fb_law_value_1
    exact ⟨_, (sns_cons (sns_set (i := 2) sc_law_value.nd rfl (Or.inl rfl) snd_int)
    (sns_cons (sns_for (passes_of rfl) rfl (sni_list (snd_o (snd_revL (snd_pk (pv 0))))) (sng_name (i := 3) sc_law_value.nd rfl (Or.inl rfl))
    (sns_one (sns_set (i := 2) sc_law_value.nd rfl (Or.inl rfl) (snd_add (snd_o (snd_mul (snd_pk (pv 2)) (snd_pk (pv 1)))) (snd_pk (pv 3))))))
    (sns_one (sns_ret (snd_mv (pv 2))))))⟩
  case hio => exact fun i h => nomatch h
set_option maxRecDepth 100000 in
theorem ok_law (D0 : DefAt K mg "law" st_law ["_law_script"]) (H_law_table : Has P w K mg base cv 1 1 none phi_law_table "_law_table" ["_law_number_here"]) (H_law_number : Has P w K mg base cv 2 2 none phi_law_number "_law_number" ["_law_script", "_law_k"]) (H_wide : Has P w K mg base cv 2 1 none phi_wide "wide" ["table"]) (H_law_numbers : Has P w K mg base cv 2 2 none phi_law_numbers "_law_numbers" ["_law_thing", "_law_many"]) (H_law_value : Has P w K mg base cv 1 2 none phi_law_value "_law_value" ["_law_numbers_here", "_law_x"]) (H_law_determinant : Has P w K mg base cv 1 1 none phi_law_determinant "_law_determinant" ["_law_table_here"]) (H_law_whole : Has P w K mg base cv 1 1 none phi_law_whole "_law_whole" ["_law_thing"]) (H_trace : Has P w K mg base cv 1 1 none phi_trace "trace" ["table"]) (z_int : mg "int" = none) (z_len : mg "len" = none) (z_list : mg "list" = none) (z_range : mg "range" = none) (z_sum : mg "sum" = none) : Has P w K mg base cv 3 1 none phi_law "law" ["_law_script"] := by
  obtain ⟨f0, fd0, G0, m0, b0⟩ := D0
  obtain ⟨f_law_table, fd_law_table, G_law_table, m_law_table, k_law_table, b_law_table, _⟩ := H_law_table
  obtain ⟨f_law_number, fd_law_number, G_law_number, m_law_number, k_law_number, b_law_number, _⟩ := H_law_number
  obtain ⟨f_wide, fd_wide, G_wide, m_wide, k_wide, b_wide, _⟩ := H_wide
  obtain ⟨f_law_numbers, fd_law_numbers, G_law_numbers, m_law_numbers, k_law_numbers, b_law_numbers, _⟩ := H_law_numbers
  obtain ⟨f_law_value, fd_law_value, G_law_value, m_law_value, k_law_value, b_law_value, _⟩ := H_law_value
  obtain ⟨f_law_determinant, fd_law_determinant, G_law_determinant, m_law_determinant, k_law_determinant, b_law_determinant, _⟩ := H_law_determinant
  obtain ⟨f_law_whole, fd_law_whole, G_law_whole, m_law_whole, k_law_whole, b_law_whole, _⟩ := H_law_whole
  obtain ⟨f_trace, fd_trace, G_trace, m_trace, k_trace, b_trace, _⟩ := H_trace
  refine ⟨f0, fd0, fn_ok (n := 1) (io := none) (m := b_law) (w := ([1] ++ ([2] ++ ([3] ++ ([4] ++ ([] ++ ([5, 6] ++ ([7] ++ ([] ++ ([] ++ ([8] ++ ([] ++ (([9] ++ ([10] ++ [])) ++ []))))))))))))) G0 sc_law rfl ?hio (fun cdv A outer s H E hr => ?body) (fun _ _ h => h), m0, G0.kp, b0, fun_look G0⟩
  case body =>
    unfold b_law t2_law_1 mb_law_1 fm_law_1 rd_law_3 bs_law_5 le_law_4 lc_law_4 bs_law_4 bs_law_3 bs_law_2 bs_law_1 fb_law_1 le_law_3 lc_law_3 le_law_2 lc_law_2 rd_law_2 rd_law_1 le_law_1 lc_law_1
    refine' ⟨_, (sns_cons (sns_set (i := 1) sc_law.nd rfl (Or.inr rfl) (snd_call G_law_table (hr.mono (by decide)) rfl m_law_table k_law_table b_law_table (L2N.takes_of rfl rfl rfl rfl) (snd_acons (snd_o (snd_call G_law_number (hr.mono (by decide)) rfl m_law_number k_law_number b_law_number (L2N.takes_of rfl rfl rfl rfl) (snd_acons (snd_pk (pv 0)) (snd_acons (snd_o snd_int) snd_anil)))) snd_anil)))
    (sns_cons (sns_set (i := 2) sc_law.nd rfl (Or.inr rfl) (snd_bi call_len ok_len rfl z_len PySem.boot_len (snd_acons (snd_pk (pv 1)) snd_anil)))
    (sn2_bg (x := 3) ?lc1
    (sn2_cons (sn2_p (x := 3) (w := [4]) (sns_set (i := 4) sc_law.nd rfl (Or.inl rfl) (snd_call G_wide (hr.mono (by decide)) rfl m_wide k_wide b_wide (L2N.takes_of rfl rfl rfl rfl) (snd_acons (snd_pk (pv 3)) snd_anil))))
    (sn2_cons (sn2_p (x := 3) (w := []) (sns_if (snb_v (snv_or (snb_cmp (op_neD hr.units) ok_ne (snd_pk (pv 3)) (snd_pk (pv 1)) (nomark _)) (snv_or (snb_not (snb_val (snd_call G_law_numbers (hr.mono (by decide)) rfl m_law_numbers k_law_numbers b_law_numbers (L2N.takes_of rfl rfl rfl rfl) (snd_acons (snd_pk (pv 4)) (snd_acons (snd_o (snd_add (snd_pk (pv 2)) (snd_o snd_int))) snd_anil))))) (snv_or1 (snb_cmp (op_neD hr.units) ok_ne (snd_o (snd_ix (snd_pk (pv 4)) (snd_pk (pv 2)) (fun _ _ => rfl))) (snd_o snd_int) (nomark _))))))
    (sns_one (sns_ret snd_bl))
    sns_nil))
    (sn2_cons (sn2_bw (x := 3) (w := [5, 6]) (sns_for (passes_of rfl) rfl (sni_r1 rfl z_range (snd_acons (snd_o (snd_add (snd_pk (pv 2)) (snd_o snd_int))) snd_anil)) (sng_name (i := 5) sc_law.nd rfl (Or.inr rfl))
    (sns_cons (w := [6]) ?lc3
    (sns_one (sns_if (snb_cmp (op_neD hr.units) ok_ne (snd_o (snd_call G_law_value (hr.mono (by decide)) rfl m_law_value k_law_value b_law_value (L2N.takes_of rfl rfl rfl rfl) (snd_acons (snd_pk (pv 4)) (snd_acons (snd_pk (pv 5)) snd_anil)))) (snd_o (snd_call G_law_determinant (hr.mono (by decide)) rfl m_law_determinant k_law_determinant b_law_determinant (L2N.takes_of rfl rfl rfl rfl) (snd_acons (snd_pk (pv 6)) snd_anil))) (nomark _))
    (sns_one (sns_ret snd_bl))
    sns_nil)))))
    (sn2_cons (sn2_b (x := 3) (sns_set (i := 7) sc_law.nd rfl (Or.inl rfl) (snd_bt call_list_of ok_listOf rfl z_list PyProof.Rows.boot_list (snd_acons (snd_pk (pv 4)) snd_anil))))
    (sn2_cons (sn2_b (x := 3) (sns_expr (snd_m PySem.F.slot_list_append PySem.F.type_list_append mt_append okm_app (pv 4) (snd_acons (snd_o snd_int) snd_anil))))
    (sn2_cons (sn2_b (x := 3) (sns_expr (snd_m0 PySem.F.slot_list_reverse PySem.F.type_list_reverse mt_reverse okm_rvs (pv 4))))
    (sn2_cons (sn2_bw (x := 3) (w := [8]) (sns_set (i := 8) sc_law.nd rfl (Or.inl rfl) (snd_bi (cr_sum rfl) ok_sum rfl z_sum boot_sum (snd_acons (snd_o ?lc4) snd_anil))))
    (sn2_cons (sn2_p (x := 3) (w := []) (sns_if (snb_v (snv_or (snb_not (snb_val (snd_call G_law_whole (hr.mono (by decide)) rfl m_law_whole k_law_whole b_law_whole (L2N.takes_of rfl rfl rfl rfl) (snd_acons (snd_o (snd_call G_trace (hr.mono (by decide)) rfl m_trace k_trace b_trace (L2N.takes_of rfl rfl rfl rfl) (snd_acons (snd_pk (pv 3)) snd_anil))) snd_anil)))) (snv_or (snb_cmp (op_neD hr.units) ok_ne (snd_o (snd_call G_trace (hr.mono (by decide)) rfl m_trace k_trace b_trace (L2N.takes_of rfl rfl rfl rfl) (snd_acons (snd_pk (pv 3)) snd_anil))) (snd_pk (pv 8)) (nomark _)) (snv_or (snb_cmp (op_neD hr.units) ok_ne (snd_pk (pv 3)) (snd_pk (pv 1)) (nomark _)) (snv_or1 (snb_cmp (op_neD hr.units) ok_ne (snd_o (snd_call G_wide (hr.mono (by decide)) rfl m_wide k_wide b_wide (L2N.takes_of rfl rfl rfl rfl) (snd_acons (snd_pk (pv 3)) snd_anil))) (snd_pk (pv 7)) (nomark _)))))))
    (sns_one (sns_ret snd_bl))
    sns_nil))
    (sn2_cons (sn2_mu (x := 3) (y := 9) (passes_of rfl) rfl (pv 3) sc_law.nd rfl (Or.inl rfl) (sn2_one (sn2_forb (x := 9) (passes_of rfl) rfl (sni_r1 rfl z_range (snd_acons (snd_pk (pv 2)) snd_anil)) (sng_name (i := 10) sc_law.nd rfl (Or.inl rfl))
    (sn2_one (sn2_st (snl_root (pv 9)) snd_int (snd_pk (pv 10)))))))
    (sn2_e (x := 3) (sns_one (sns_ret (snd_and (snd_cmp (op_eqD hr.units) ok_eq (snd_o (snd_call G_wide (hr.mono (by decide)) rfl m_wide k_wide b_wide (L2N.takes_of rfl rfl rfl rfl) (snd_acons (snd_pk (pv 3)) snd_anil))) (snd_o (snd_add (snd_o (snd_rep (snd_o (snd_lst (snd_acons (snd_o snd_int) snd_anil))) (snd_pk (pv 2)))) (snd_o (snd_lst (snd_acons (snd_o snd_int) snd_anil))))) (nomark _)) (snd_one (snd_cmp (op_eqD hr.units) ok_eq (snd_o (snd_call G_trace (hr.mono (by decide)) rfl m_trace k_trace b_trace (L2N.takes_of rfl rfl rfl rfl) (snd_acons (snd_pk (pv 3)) snd_anil))) (snd_o snd_int) (nomark _)))))))))))))))))))⟩
    case lc1 =>
      refine' st_lc2 (i := 3) (own := [("_law_row", 9)]) rfl sc_law.nd rfl rfl (sw_true rfl rfl rfl (by decide +kernel)) ?qi1 (blkOk_by (own := [("_law_row", 9)]) (N := N_law) (sc := defScope st_law) (by decide +kernel)) ?qg1 ?qt1 ?qe1 s ?qw1 ?qr1 ?qs1
      case qi1 =>
        refine' (sni_list (snd_o (snd_var (x := "") (pv 1))))
      case qg1 =>
        refine' (fun _ _ _ _ _ => (sng_name (i := 9) sc_law.nd rfl (Or.inl rfl)))
      case qt1 =>
        refine' (fun _ _ _ _ _ => pts_no)
      case qe1 =>
        refine' (fun _ _ _ _ _ => (snt_e (snd_bt call_list_of ok_listOf rfl z_list PyProof.Rows.boot_list (snd_acons (snd_pk (pv 9)) snd_anil))))
      case qw1 => decide
      case qr1 => intros; rfl
      case qs1 => intros; rfl
    case lc3 =>
      refine' sns_setLc2 (i := 6) (own := [("_law_i", 11)]) rfl sc_law.nd rfl rfl (sw_true rfl rfl rfl (by decide +kernel)) ?qi3 (blkOk_by (own := [("_law_i", 11)]) (N := N_law) (sc := defScope st_law) (by decide +kernel)) ?qg3 ?qt3 ?qe3 s ?qw3 ?qr3 ?qs3
      case qi3 =>
        refine' (sni_r1 rfl z_range (snd_acons (snd_pk (pv 2)) snd_anil))
      case qg3 =>
        refine' (fun _ _ _ _ _ => (sng_name (i := 11) sc_law.nd rfl (Or.inr rfl)))
      case qt3 =>
        refine' (fun _ _ _ _ _ => pts_no)
      case qe3 =>
        refine' (fun _ _ _ _ _ => ?lc2)
        case lc2 =>
          refine' snd_lc2 (own := [("_law_j", 12)]) rfl sc_law.nd ?qi2 (blkOk_by (own := [("_law_j", 12)]) (N := N_law) (by rfl)) ?qg2 ?qt2 ?qe2 s ?qw2 ?qr2 ?qs2
          case qi2 =>
            refine' (sni_r1 rfl z_range (snd_acons (snd_pk (pv 2)) snd_anil))
          case qg2 =>
            refine' (fun _ _ _ _ _ => (sng_name (i := 12) sc_law.nd rfl (Or.inl rfl)))
          case qt2 =>
            refine' (fun _ _ _ _ _ => pts_no)
          case qe2 =>
            refine' (fun _ _ _ _ _ => (snd_sub (snd_o (snd_mul (snd_pk (pv 5)) (snd_o (snd_bt call_int1 ok_int rfl z_int PyProof.Rows.boot_int (snd_acons (snd_o (snd_cmp (op_eqD hr.units) ok_eq (snd_pk (pv 11)) (snd_pk (pv 12)) (nomark _))) snd_anil))))) (snd_o (snd_ix (snd_o (snd_ix (snd_pk (pv 1)) (snd_pk (pv 11)) (fun _ _ => rfl))) (snd_pk (pv 12)) (fun _ _ => rfl)))))
          case qw2 => decide
          case qr2 => intros; rfl
          case qs2 => intros; rfl
      case qw3 => decide
      case qr3 => intros; rfl
      case qs3 => intros; rfl
    case lc4 =>
      refine' snd_lc2 (own := [("_law_k", 10)]) rfl sc_law.nd ?qi4 (blkOk_by (own := [("_law_k", 10)]) (N := N_law) (sc := defScope st_law) (by decide +kernel)) ?qg4 ?qt4 ?qe4 s ?qw4 ?qr4 ?qs4
      case qi4 =>
        refine' (sni_r1 rfl z_range (snd_acons (snd_pk (pv 2)) snd_anil))
      case qg4 =>
        refine' (fun _ _ _ _ _ => (sng_name (i := 10) sc_law.nd rfl (Or.inl rfl)))
      case qt4 =>
        refine' (fun _ _ _ _ _ => pts_no)
      case qe4 =>
        refine' (fun _ _ _ _ _ => (snd_ix (snd_o (snd_ix (snd_pk (pv 1)) (snd_pk (pv 10)) (fun _ _ => rfl))) (snd_pk (pv 10)) (fun _ _ => rfl)))
      case qw4 => decide
      case qr4 => intros; rfl
      case qs4 => intros; rfl
  case hio => exact fun i h => nomatch h
end
end LawW

open PySem PySem.W PyProof.Rows
set_option maxRecDepth 100000 in
set_option maxHeartbeats 0 in
theorem PySem.Challenge.cw_fractionroads_k63_wide_holds : PySem.Challenge.rw_fractionroads_k63_wide.Holds := by
  w_on; o_law; k_head; (case hw => w_witness2)
  k_fill
  refine L2.walk_of (l := PySem.Challenge.rw_fractionroads_k63_wide) (n := 63) (k := 3) (x := "_law_script") (CX := fun w => L2N.CX PySem.Challenge.rw_fractionroads_k63_wide.prog w) (sp := fun w => Sim.spLaw _) rfl (by decide) rfl ⟨rfl, by decide, by decide⟩ (fun w h Y => PySem.W.kIn_of Y) ?F (fun _ _ a ns hl _ hS => ⟨a, ns, rfl, hS, hl, (fun _ h => absurd h List.not_mem_nil), fun _ => rfl⟩) (fun _ _ _ _ _ h => Sim.cx_no h)
  case F =>
    intro w mg fa h KX G hmg
    refine' Sim.with_def (x := "trace") (st := LawW.st_trace) (ps := ["table"]) KX G ?a_1 ?l_1 ?c_1 ?k_1 (fun _ _ _ _ _ _ us hl => match us, hl with | [_], _ => rfl) ?n_1
    (case a_1 => k_is); (case l_1 => k_is); (case c_1 => k_is); (case k_1 => k_is)
    intro D_trace
    refine' Sim.with_def (x := "times_table") (st := LawW.st_times_table) (ps := ["one", "other"]) KX G ?a_2 ?l_2 ?c_2 ?k_2 (fun _ _ _ _ _ _ us hl => match us, hl with | [_, _], _ => rfl) ?n_2
    (case a_2 => k_is); (case l_2 => k_is); (case c_2 => k_is); (case k_2 => k_is)
    intro D_times_table
    refine' Sim.with_def (x := "wide") (st := LawW.st_wide) (ps := ["table"]) KX G ?a_3 ?l_3 ?c_3 ?k_3 (fun _ _ _ _ _ _ us hl => match us, hl with | [_], _ => rfl) ?n_3
    (case a_3 => k_is); (case l_3 => k_is); (case c_3 => k_is); (case k_3 => k_is)
    intro D_wide
    refine' Sim.with_def (x := "_law_cell_at") (st := LawW.st_law_cell_at) (ps := ["_law_script", "_law_k"]) KX G ?a_4 ?l_4 ?c_4 ?k_4 (fun _ _ _ _ _ _ us hl => match us, hl with | [_, _], _ => rfl) ?n_4
    (case a_4 => k_is); (case l_4 => k_is); (case c_4 => k_is); (case k_4 => k_is)
    intro D_law_cell_at
    refine' Sim.with_def (x := "_law_number") (st := LawW.st_law_number) (ps := ["_law_script", "_law_k"]) KX G ?a_5 ?l_5 ?c_5 ?k_5 (fun _ _ _ _ _ _ us hl => match us, hl with | [_, _], _ => rfl) ?n_5
    (case a_5 => k_is); (case l_5 => k_is); (case c_5 => k_is); (case k_5 => k_is)
    intro D_law_number
    refine' Sim.with_def (x := "_law_whole") (st := LawW.st_law_whole) (ps := ["_law_thing"]) KX G ?a_6 ?l_6 ?c_6 ?k_6 (fun _ _ _ _ _ _ us hl => match us, hl with | [_], _ => rfl) ?n_6
    (case a_6 => k_is); (case l_6 => k_is); (case c_6 => k_is); (case k_6 => k_is)
    intro D_law_whole
    refine' Sim.with_def (x := "_law_numbers") (st := LawW.st_law_numbers) (ps := ["_law_thing", "_law_many"]) KX G ?a_7 ?l_7 ?c_7 ?k_7 (fun _ _ _ _ _ _ us hl => match us, hl with | [_, _], _ => rfl) ?n_7
    (case a_7 => k_is); (case l_7 => k_is); (case c_7 => k_is); (case k_7 => k_is)
    intro D_law_numbers
    refine' Sim.with_def (x := "_law_table") (st := LawW.st_law_table) (ps := ["_law_number_here"]) KX G ?a_8 ?l_8 ?c_8 ?k_8 (fun _ _ _ _ _ _ us hl => match us, hl with | [_], _ => rfl) ?n_8
    (case a_8 => k_is); (case l_8 => k_is); (case c_8 => k_is); (case k_8 => k_is)
    intro D_law_table
    refine' Sim.with_def (x := "_law_determinant") (st := LawW.st_law_determinant) (ps := ["_law_table_here"]) KX G ?a_9 ?l_9 ?c_9 ?k_9 (fun _ _ _ _ _ _ us hl => match us, hl with | [_], _ => rfl) ?n_9
    (case a_9 => k_is); (case l_9 => k_is); (case c_9 => k_is); (case k_9 => k_is)
    intro D_law_determinant
    refine' Sim.with_def (x := "_law_value") (st := LawW.st_law_value) (ps := ["_law_numbers_here", "_law_x"]) KX G ?a_10 ?l_10 ?c_10 ?k_10 (fun _ _ _ _ _ _ us hl => match us, hl with | [_, _], _ => rfl) ?n_10
    (case a_10 => k_is); (case l_10 => k_is); (case c_10 => k_is); (case k_10 => k_is)
    intro D_law_value
    refine' Sim.with_no (x := "all") KX G ?a_11 ?n_11
    (case a_11 => k_is)
    intro z_all
    refine' Sim.with_no (x := "bool") KX G ?a_12 ?n_12
    (case a_12 => k_is)
    intro z_bool
    refine' Sim.with_no (x := "int") KX G ?a_13 ?n_13
    (case a_13 => k_is)
    intro z_int
    refine' Sim.with_no (x := "isinstance") KX G ?a_14 ?n_14
    (case a_14 => k_is)
    intro z_isinstance
    refine' Sim.with_no (x := "len") KX G ?a_15 ?n_15
    (case a_15 => k_is)
    intro z_len
    refine' Sim.with_no (x := "list") KX G ?a_16 ?n_16
    (case a_16 => k_is)
    intro z_list
    refine' Sim.with_no (x := "range") KX G ?a_17 ?n_17
    (case a_17 => k_is)
    intro z_range
    refine' Sim.with_no (x := "sum") KX G ?a_18 ?n_18
    (case a_18 => k_is)
    intro z_sum
    refine' Sim.with_no (x := "zip") KX G ?a_19 ?n_19
    (case a_19 => k_is)
    intro z_zip
    refine' Sim.law_mk (st := LawW.st_law) KX G hmg ?a0 ?l0 ?c0 ?k0 (fun _ _ _ _ _ _ us hl => match us, hl with | [_], _ => rfl) (fun _ _ _ _ _ _ _ _ => .of_eq rfl) (fun base hb D0 lk => ?H)
    (case a0 => k_is); (case l0 => k_is); (case c0 => k_is); (case k0 => k_is)
    case H =>
      have H_trace := LawW.ok_trace (P := PySem.Challenge.rw_fractionroads_k63_wide.prog) (w := w) (mg := mg) (base := base) (cv := fun _ => .none) D_trace z_len z_range z_sum
      have H_times_table := LawW.ok_times_table (P := PySem.Challenge.rw_fractionroads_k63_wide.prog) (w := w) (mg := mg) (base := base) (cv := fun _ => .none) D_times_table z_len z_range z_sum z_zip
      have H_wide := LawW.ok_wide (P := PySem.Challenge.rw_fractionroads_k63_wide.prog) (w := w) (mg := mg) (base := base) (cv := fun _ => .none) D_wide H_times_table H_trace z_int z_len z_range
      have H_law_cell_at := LawW.ok_law_cell_at (P := PySem.Challenge.rw_fractionroads_k63_wide.prog) (w := w) (mg := mg) (base := base) (cv := fun _ => .none) D_law_cell_at z_len
      have H_law_number := LawW.ok_law_number (P := PySem.Challenge.rw_fractionroads_k63_wide.prog) (w := w) (mg := mg) (base := base) (cv := fun _ => .none) D_law_number H_law_cell_at
      have H_law_whole := LawW.ok_law_whole (P := PySem.Challenge.rw_fractionroads_k63_wide.prog) (w := w) (mg := mg) (base := base) (cv := fun _ => .none) D_law_whole z_bool z_int z_isinstance
      have H_law_numbers := LawW.ok_law_numbers (P := PySem.Challenge.rw_fractionroads_k63_wide.prog) (w := w) (mg := mg) (base := base) (cv := fun _ => .none) D_law_numbers H_law_whole z_all z_isinstance z_len z_list
      have H_law_table := LawW.ok_law_table (P := PySem.Challenge.rw_fractionroads_k63_wide.prog) (w := w) (mg := mg) (base := base) (cv := fun _ => .none) D_law_table z_int z_range
      have H_law_determinant := LawW.ok_law_determinant (P := PySem.Challenge.rw_fractionroads_k63_wide.prog) (w := w) (mg := mg) (base := base) (cv := fun _ => .none) D_law_determinant z_len z_list z_range
      have H_law_value := LawW.ok_law_value (P := PySem.Challenge.rw_fractionroads_k63_wide.prog) (w := w) (mg := mg) (base := base) (cv := fun _ => .none) D_law_value
      have H_law := LawW.ok_law (P := PySem.Challenge.rw_fractionroads_k63_wide.prog) (w := w) (mg := mg) (base := base) (cv := fun _ => .none) D0 H_law_table H_law_number H_wide H_law_numbers H_law_value H_law_determinant H_law_whole H_trace z_int z_len z_list z_range z_sum
      exact Sim.has_law H_law hmg lk LawW.plain_law

