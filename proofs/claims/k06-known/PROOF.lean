import PyProof.Rows.All
import Wide.All
import OpenK.AllK
import Wide.FinOn
import HandS.ForMost
import HandS.HeadHook4
import HandS.Slots
import KE.KDictKeyed
import HandS.Lambda
import HandS.Defaults
import HandS.Iter
import HandS.Wide
import HandS.TupAny
import HandS.TupMul
import HandS.TupLe
import HandS.Style
import HandS.Deep
import HandS.More
import HandS.IsInst
import HandS.Conv
import HandS.Zip
import KE.GoesEnum
import HandS.Dict
import HandS.Small
import KE.KDictDisplayH
import KE.KDictLaws
import HandS.DictComp
import KE.KDictOf
import KE.KEqDict
import KE.SortKeyHeap
import KE.KDictSum
import HandS.SlotsOwn
import HandS.Star
import KE.DataMinMax
import HandS.EndTab
import PyProof.Draws
import HandS.IterVal
import KE.KOwnIter
import HandS.ListItems
import PySem.Challenge.RW_whichfirm_k06_known
import HandS.Head0
import HandS.Head1
import HandS.Head2
import HandS.HeadEnd
set_option Elab.async false
set_option linter.all false
set_option maxRecDepth 100000
set_option maxHeartbeats 0
namespace DL
open PySem PySem.Spec PyProof.Rows L2

/-- a value: scalars, tuples as trees, objects by handle -/
inductive D where
  | non | bl (b : Bool) | int (i : Int) | str (x : Str) | tup (ds : List D) | ref (n : Nat) | kl (ns : List Int)

/-- an object: a list, a dict (its pairs in order), an instance (class, attributes), a thing that is only read -/
inductive O where
  | lst (ds : List D)
  | dic (kvs : List (D × D))
  | ins (c : Str) (fs : List (Str × D))
  | slt (c : Str) (fs : List (Str × D))
  | lk (o : O)

inductive Tr where
  | lf
  | nd (o : Option O) (l r : Tr)
def Tr.get : Tr → Nat → Option O
  | .lf, _ => none
  | .nd o l r, n => if n = 0 then o else if n % 2 = 1 then l.get (n / 2) else r.get (n / 2 - 1)
def Tr.put : Nat → Tr → Nat → O → Tr
  | 0, t, _, _ => t
  | f + 1, .lf, n, x => if n = 0 then .nd (some x) .lf .lf else if n % 2 = 1 then .nd none (Tr.put f .lf (n / 2) x) .lf else .nd none .lf (Tr.put f .lf (n / 2 - 1) x)
  | f + 1, .nd o l r, n, x => if n = 0 then .nd (some x) l r else if n % 2 = 1 then .nd o (Tr.put f l (n / 2) x) r else .nd o l (Tr.put f r (n / 2 - 1) x)
theorem Tr.get_lf (n : Nat) : Tr.lf.get n = none := by rw [Tr.get]
theorem Tr.get_put_same : ∀ (f : Nat) (t : Tr) (n : Nat) (x : O), n < f → (Tr.put f t n x).get n = some x
  | 0, _, _, _, h => absurd h (Nat.not_lt_zero _)
  | f + 1, .lf, n, x, h => by
    rw [Tr.put]
    by_cases h0 : n = 0
    · rw [if_pos h0, Tr.get, if_pos h0]
    · rw [if_neg h0]
      by_cases h1 : n % 2 = 1
      · rw [if_pos h1, Tr.get, if_neg h0, if_pos h1]; exact Tr.get_put_same f _ _ x (by omega)
      · rw [if_neg h1, Tr.get, if_neg h0, if_neg h1]; exact Tr.get_put_same f _ _ x (by omega)
  | f + 1, .nd o l r, n, x, h => by
    rw [Tr.put]
    by_cases h0 : n = 0
    · rw [if_pos h0, Tr.get, if_pos h0]
    · rw [if_neg h0]
      by_cases h1 : n % 2 = 1
      · rw [if_pos h1, Tr.get, if_neg h0, if_pos h1]; exact Tr.get_put_same f _ _ x (by omega)
      · rw [if_neg h1, Tr.get, if_neg h0, if_neg h1]; exact Tr.get_put_same f _ _ x (by omega)
theorem Tr.get_put_ne : ∀ (f : Nat) (t : Tr) (n m : Nat) (x : O), m ≠ n → (Tr.put f t n x).get m = t.get m
  | 0, t, n, m, x, h => by rw [Tr.put]
  | f + 1, .lf, n, m, x, h => by
    rw [Tr.put, Tr.get_lf]
    by_cases h0 : n = 0
    · rw [if_pos h0, Tr.get]
      by_cases m0 : m = 0
      · omega
      · rw [if_neg m0]; split <;> exact Tr.get_lf _
    · rw [if_neg h0]
      by_cases h1 : n % 2 = 1
      · rw [if_pos h1, Tr.get]
        by_cases m0 : m = 0
        · rw [if_pos m0]
        · rw [if_neg m0]
          by_cases m1 : m % 2 = 1
          · rw [if_pos m1, Tr.get_put_ne f _ _ _ x (by omega)]; exact Tr.get_lf _
          · rw [if_neg m1]; exact Tr.get_lf _
      · rw [if_neg h1, Tr.get]
        by_cases m0 : m = 0
        · rw [if_pos m0]
        · rw [if_neg m0]
          by_cases m1 : m % 2 = 1
          · rw [if_pos m1]; exact Tr.get_lf _
          · rw [if_neg m1, Tr.get_put_ne f _ _ _ x (by omega)]; exact Tr.get_lf _
  | f + 1, .nd o l r, n, m, x, h => by
    rw [Tr.put]
    by_cases h0 : n = 0
    · rw [if_pos h0, Tr.get, Tr.get]
      by_cases m0 : m = 0
      · omega
      · rw [if_neg m0, if_neg m0]
    · rw [if_neg h0]
      by_cases h1 : n % 2 = 1
      · rw [if_pos h1, Tr.get, Tr.get]
        by_cases m0 : m = 0
        · rw [if_pos m0, if_pos m0]
        · rw [if_neg m0, if_neg m0]
          by_cases m1 : m % 2 = 1
          · rw [if_pos m1, if_pos m1, Tr.get_put_ne f _ _ _ x (by omega)]
          · rw [if_neg m1, if_neg m1]
      · rw [if_neg h1, Tr.get, Tr.get]
        by_cases m0 : m = 0
        · rw [if_pos m0, if_pos m0]
        · rw [if_neg m0, if_neg m0]
          by_cases m1 : m % 2 = 1
          · rw [if_pos m1, if_pos m1]
          · rw [if_neg m1, if_neg m1, Tr.get_put_ne f _ _ _ x (by omega)]
/-- the heap: how many objects, and they -/
structure Hd where
  n : Nat
  t : Tr
def Hd.get (h : Hd) (i : Nat) : Option O := h.t.get i
def Hd.set (h : Hd) (i : Nat) (o : O) : Hd := ⟨h.n, Tr.put (i + 1) h.t i o⟩
def Hd.push (h : Hd) (o : O) : Hd := ⟨h.n + 1, Tr.put (h.n + 1) h.t h.n o⟩
def Hd.empty : Hd := ⟨0, .lf⟩
theorem Hd.get_set_same (h : Hd) (i : Nat) (o : O) : (h.set i o).get i = some o := Tr.get_put_same _ _ _ _ (Nat.lt_succ_self _)
theorem Hd.get_set_ne (h : Hd) {i j : Nat} (o : O) (e : j ≠ i) : (h.set i o).get j = h.get j := Tr.get_put_ne _ _ _ _ _ e
theorem Hd.get_push_same (h : Hd) (o : O) : (h.push o).get h.n = some o := Tr.get_put_same _ _ _ _ (Nat.lt_succ_self _)
theorem Hd.get_push_ne (h : Hd) {j : Nat} (o : O) (e : j ≠ h.n) : (h.push o).get j = h.get j := Tr.get_put_ne _ _ _ _ _ e
theorem Hd.n_set (h : Hd) (i : Nat) (o : O) : (h.set i o).n = h.n := rfl
theorem Hd.n_push (h : Hd) (o : O) : (h.push o).n = h.n + 1 := rfl
end DL
namespace DL
open PySem
def lamTf : List (He.Defn × Str) := [(("all_doubts", none), "all_doubts.<locals>.<lambda>"), (("doubts", none), "doubts.<locals>.<lambda>")]
end DL
namespace DL
open PySem PySem.Spec PyProof.Rows L2

structure En where
  P : Program
  w : World
  K : PySem.W.Frag
  mg : Str → Option Value
abbrev en (X : Cx) : En := ⟨X.prog, X.w, X.K, X.mg⟩

mutual
def kyD : D → Option NestedKey
  | .non => some .none
  | .bl b => some (.num (if b = true then 1 else 0))
  | .int i => some (.num i)
  | .str x => some (.text x)
  | .tup ds => (kysD ds).map .tup
  | .ref _ => none
  | .kl _ => none
def kysD : List D → Option (List NestedKey)
  | [] => some []
  | d :: ds => match kyD d, kysD ds with
    | some k, some ks => some (k :: ks)
    | _, _ => none
end
/-- the kind of a key: 1 a tuple, 2 an int or a text, 0 none that is served -/
def kdD : D → Nat
  | .tup _ => 1
  | .int _ => 2
  | .str _ => 2
  | _ => 0

/-- a list that only is read, known from the outset -/
def SqK (K : PySem.W.Frag) (H : Hp) (a : Addr) (xs : List V) : Prop := (∃ o, H a = some (.frz o (.lst xs))) ∨ ∃ (o : Obj) (its : Array Value) (n : Nat), K.lookup a = some o ∧ o.cls = .type "list" ∧ o.dict = none ∧ o.data = .seq its n ∧ its.size ≤ sizeLine ∧ Vals xs its.toList
theorem SqK.l {K : PySem.W.Frag} {H : Hp} {a : Addr} {xs : List V} (h : SqK K H a xs) : SqL K H a xs := h.imp (fun z => .inr z) id
mutual
def RD (E : En) (ad : List Addr) (H : Hp) : D → V → Prop
  | .non, v => v = .non
  | .bl b, v => v = .bl b
  | .int i, v => v = .int i
  | .str x, v => v = .str x
  | .tup ds, v => ∃ a vs, v = .ref a ∧ SqT E.K H a vs ∧ RDs E ad H ds vs
  | .ref n, v => ∃ a, v = .ref a ∧ ad[n]? = some a
  | .kl ns, v => ∃ a, v = .ref a ∧ SqK E.K H a (ns.map V.int)
def RDs (E : En) (ad : List Addr) (H : Hp) : List D → List V → Prop
  | [], vs => vs = []
  | d :: ds, vs => ∃ v r, vs = v :: r ∧ RD E ad H d v ∧ RDs E ad H ds r
end

/-- what stays: the tuples, what is locked -/
structure Ex (E : En) (H H' : Hp) : Prop where
  tup : ∀ a xs, SqT E.K H a xs → SqT E.K H' a xs
  frz : ∀ a o u, H a = some (.frz o u) → H' a = some (.frz o u)
section
variable {E : En} {ad ad' : List Addr} {H H' H1 H2 : Hp} {a p : Addr} {o : HO}
theorem Ex.refl : Ex E H H := ⟨fun _ _ h => h, fun _ _ _ h => h⟩
theorem Ex.trans (x : Ex E H H1) (y : Ex E H1 H2) : Ex E H H2 := ⟨fun a xs h => y.tup a xs (x.tup a xs h), fun a o u h => y.frz a o u (x.frz a o u h)⟩
theorem sqT_same {K : PySem.W.Frag} {xs : List V} (k : ∀ o, H a = some o → H' a = some o) (h : SqT K H a xs) : SqT K H' a xs := by
  rcases h with (h | ⟨o, h⟩) | h
  · exact .inl (.inl (k _ h))
  · exact .inl (.inr ⟨o, k _ h⟩)
  · exact .inr h
theorem Ex.new (h : H p = none) : Ex E H (upd H p o) :=
  ⟨fun a xs q => sqT_same (fun u e => by rw [upd_ne (ne_of_none e h)]; exact e) q, fun a u x e => by rw [upd_ne (ne_of_none e h)]; exact e⟩
/-- an object that is changed -/
theorem Ex.mut {u : HO} (h : H a = some u) (m : Mut (some u)) : Ex E H (upd H a o) := by
  have nt : ∀ b xs, H b = some (.tup xs) → b ≠ a := fun b xs e z => by
    subst z; rw [h] at e; cases e; exact m
  have nf : ∀ b x y, H b = some (.frz x y) → b ≠ a := fun b x y e z => by
    subst z; rw [h] at e; cases e; exact m
  refine ⟨fun b xs q => ?_, fun b x y e => by rw [upd_ne (nf b x y e)]; exact e⟩
  rcases q with (q | ⟨x, q⟩) | q
  · exact .inl (.inl (by rw [upd_ne (nt b xs q)]; exact q))
  · exact .inl (.inr ⟨x, by rw [upd_ne (nf b _ _ q)]; exact q⟩)
  · exact .inr q
mutual
theorem RD.mono : ∀ {d : D} {v : V}, RD E ad H d v → Ex E H H' → ad <+: ad' → RD E ad' H' d v
  | .non, _, h, _, _ => by simpa [RD] using h
  | .bl _, _, h, _, _ => by simpa [RD] using h
  | .int _, _, h, _, _ => by simpa [RD] using h
  | .str _, _, h, _, _ => by simpa [RD] using h
  | .tup ds, v, h, x, q => by
    rw [RD] at h ⊢
    obtain ⟨a, vs, e, s, r⟩ := h
    exact ⟨a, vs, e, x.tup a vs s, RDs.mono r x q⟩
  | .ref n, v, h, x, q => by
    rw [RD] at h ⊢
    obtain ⟨a, e, s⟩ := h
    obtain ⟨t, rfl⟩ := q
    exact ⟨a, e, by rw [List.getElem?_append_left (List.getElem?_eq_some_iff.mp s).1]; exact s⟩
  | .kl ns, v, h, x, q => by
    rw [RD] at h ⊢
    obtain ⟨a, e, s⟩ := h
    exact ⟨a, e, s.imp (fun ⟨o, z⟩ => ⟨o, x.frz _ _ _ z⟩) id⟩
theorem RDs.mono : ∀ {ds : List D} {vs : List V}, RDs E ad H ds vs → Ex E H H' → ad <+: ad' → RDs E ad' H' ds vs
  | [], _, h, _, _ => by rw [RDs] at h ⊢; exact h
  | d :: ds, vs, h, x, q => by
    rw [RDs] at h ⊢
    obtain ⟨v, r, e, h1, h2⟩ := h
    exact ⟨v, r, e, RD.mono h1 x q, RDs.mono h2 x q⟩
end
theorem RDs.nil : RDs E ad H [] [] := by rw [RDs]
theorem RDs.cons {d : D} {v : V} {ds : List D} {vs : List V} (h : RD E ad H d v) (r : RDs E ad H ds vs) : RDs E ad H (d :: ds) (v :: vs) := by rw [RDs]; exact ⟨v, vs, rfl, h, r⟩
theorem RDs.length : ∀ {ds : List D} {vs : List V}, RDs E ad H ds vs → ds.length = vs.length
  | [], _, h => by rw [RDs] at h; subst h; rfl
  | d :: ds, vs, h => by
    rw [RDs] at h
    obtain ⟨v, r, e, _, h2⟩ := h
    subst e
    simp [RDs.length h2]
theorem RDs.get : ∀ {ds : List D} {vs : List V} {i : Nat} {d : D}, RDs E ad H ds vs → ds[i]? = some d → ∃ v, vs[i]? = some v ∧ RD E ad H d v
  | [], _, _, _, _, e => by simp at e
  | d :: ds, vs, i, d', h, e => by
    rw [RDs] at h
    obtain ⟨v, r, e1, h1, h2⟩ := h
    subst e1
    cases i with
    | zero => simp at e; subst e; exact ⟨v, rfl, h1⟩
    | succ i => simpa using RDs.get h2 (by simpa using e)
theorem RDs.getV : ∀ {ds : List D} {vs : List V} {i : Nat} {v : V}, RDs E ad H ds vs → vs[i]? = some v → ∃ d, ds[i]? = some d ∧ RD E ad H d v
  | [], _, _, _, h, e => by rw [RDs] at h; subst h; simp at e
  | d :: ds, vs, i, v', h, e => by
    rw [RDs] at h
    obtain ⟨v, r, e1, h1, h2⟩ := h
    subst e1
    cases i with
    | zero => simp at e; subst e; exact ⟨d, rfl, h1⟩
    | succ i => simpa using RDs.getV h2 (by simpa using e)
theorem RDs.append : ∀ {ds es : List D} {vs ws : List V}, RDs E ad H ds vs → RDs E ad H es ws → RDs E ad H (ds ++ es) (vs ++ ws)
  | [], _, _, _, h, k => by rw [RDs] at h; subst h; exact k
  | d :: ds, es, vs, ws, h, k => by
    rw [RDs] at h
    obtain ⟨v, r, e1, h1, h2⟩ := h
    subst e1
    exact .cons h1 (RDs.append h2 k)
theorem RDs.take : ∀ {ds : List D} {vs : List V} (n : Nat), RDs E ad H ds vs → RDs E ad H (ds.take n) (vs.take n)
  | [], _, n, h => by rw [RDs] at h; subst h; simpa using RDs.nil
  | d :: ds, vs, 0, h => by simpa using RDs.nil
  | d :: ds, vs, n + 1, h => by
    rw [RDs] at h
    obtain ⟨v, r, e1, h1, h2⟩ := h
    subst e1
    simpa using RDs.cons h1 (RDs.take n h2)
theorem RDs.drop : ∀ {ds : List D} {vs : List V} (n : Nat), RDs E ad H ds vs → RDs E ad H (ds.drop n) (vs.drop n)
  | [], _, n, h => by rw [RDs] at h; subst h; simpa using RDs.nil
  | d :: ds, vs, 0, h => by simpa using h
  | d :: ds, vs, n + 1, h => by
    rw [RDs] at h
    obtain ⟨v, r, e1, h1, h2⟩ := h
    subst e1
    simpa using RDs.drop n h2
theorem RDs.reverse : ∀ {ds : List D} {vs : List V}, RDs E ad H ds vs → RDs E ad H ds.reverse vs.reverse
  | [], _, h => by rw [RDs] at h; subst h; simpa using RDs.nil
  | d :: ds, vs, h => by
    rw [RDs] at h
    obtain ⟨v, r, e1, h1, h2⟩ := h
    subst e1
    simpa using RDs.append (RDs.reverse h2) (.cons h1 .nil)
theorem RDs.set : ∀ {ds : List D} {vs : List V} {d : D} {v : V} (i : Nat), RDs E ad H ds vs → RD E ad H d v → RDs E ad H (ds.set i d) (vs.set i v)
  | [], _, _, _, i, h, k => by rw [RDs] at h; subst h; simpa using RDs.nil
  | d :: ds, vs, d', v', i, h, k => by
    rw [RDs] at h
    obtain ⟨v, r, e1, h1, h2⟩ := h
    subst e1
    cases i with
    | zero => simpa using RDs.cons k h2
    | succ i => simpa using RDs.cons h1 (RDs.set i h2 k)

/-- a dict at a, by its keys, their hashes and its values -/
def DcP (a : Addr) (vs : List (V × Int × V)) (h : Heap) : Prop := ∃ o es ep, h.get? a = some o ∧ o.ExactDict ∧ o.data = .dict es ep ∧ Paired (fun (p : V × Int × V) (e : DictEntry) => RelV p.1 e.key ∧ e.hash = p.2.1 ∧ RelV p.2.2 e.val) vs es.toList
def DcO (a : Addr) (vs : List (V × Int × V)) : HO := .ext (DcP a vs)
def PRs (E : En) (ad : List Addr) (H : Hp) : List (D × D) → List (V × Int × V) → Prop
  | [], vs => vs = []
  | p :: ps, vs => ∃ q r k, vs = q :: r ∧ RD E ad H p.1 q.1 ∧ kyD p.1 = some k ∧ q.2.1 = k.hash E.w ∧ RD E ad H p.2 q.2.2 ∧ PRs E ad H ps r
theorem PRs.mono : ∀ {ps : List (D × D)} {vs : List (V × Int × V)}, PRs E ad H ps vs → Ex E H H' → ad <+: ad' → PRs E ad' H' ps vs
  | [], _, h, _, _ => h
  | p :: ps, vs, h, x, q => by
    obtain ⟨v, r, k, e, h1, h2, h3, h4, h5⟩ := h
    exact ⟨v, r, k, e, h1.mono x q, h2, h3, h4.mono x q, PRs.mono h5 x q⟩
/-- keys: each once, all tuples or none -/
def KsOk (kvs : List (D × D)) : Prop := (kvs.map fun p => kyD p.1).Nodup ∧ (∀ p ∈ kvs, ∃ k, kyD p.1 = some k ∧ k.depth ≤ 8) ∧ ((∀ p ∈ kvs, kdD p.1 = 1) ∨ (∀ p ∈ kvs, kdD p.1 = 2))

/-- what stands beside an object: the dict of an instance -/
def Sd (a : Addr) (o : HO) : Prop := o = .own a ∨ o = .xd []
theorem Sd.stays {a : Addr} {o : HO} (h : Sd a o) : ¬ Mut (some o) := by
  rcases h with rfl | rfl <;> exact fun z => z
/-- the object o, as u at a -/
def HI (E : En) (ad : List Addr) (H : Hp) (a : Addr) : O → HO → Prop
  | .lst ds, u => ∃ vs, u = .lst vs ∧ RDs E ad H ds vs
  | .dic kvs, u => ∃ vs, u = DcO a vs ∧ kvs.length ≤ sizeLine ∧ (a == sysModules) = false ∧ PRs E ad H kvs vs ∧ KsOk kvs
  | .ins c fs, u => ∃ C dx gs, E.mg c = some (.ref C) ∧ u = .ins C dx gs ∧ gs.length = fs.length ∧ (∀ f, match fs.lookup f with | some d => ∃ v, gs.lookup f = some v ∧ RD E ad H d v | none => gs.lookup f = none)
  | .slt c fs, u => ∃ C dx vs, E.mg c = some (.ref C) ∧ ((u = .ins C dx [] ∧ vs = [] ∧ H dx = some (.own a)) ∨ (u = SlX.SlO a C dx vs ∧ H dx = some (.xd []))) ∧
      ∀ f d, fs.lookup f = some d → ∃ i p v, SlX.Slot1 E.K C f p i ∧ vs[i]? = some (some v) ∧ RD E ad H d v
  | .lk _, _ => False
def OR (E : En) (ad : List Addr) (H : Hp) (a : Addr) : O → Prop
  | .lk o => ∃ ob u, H a = some (.frz ob u) ∧ HI E ad H a o u
  | o => ∃ u, H a = some u ∧ HI E ad H a o u
theorem HI.mono {b : O} {u : HO} (h : HI E ad H a b u) (x : Ex E H H') (q : ad <+: ad') (ow : ∀ c o, Sd a o → H c = some o → H' c = some o) : HI E ad' H' a b u := by
  cases b with
  | lst ds => obtain ⟨vs, e, r⟩ := h; exact ⟨vs, e, r.mono x q⟩
  | dic kvs => obtain ⟨vs, e, z, s, r, k⟩ := h; exact ⟨vs, e, z, s, r.mono x q, k⟩
  | ins c fs =>
    obtain ⟨C, dx, gs, g, e, el, r⟩ := h
    refine ⟨C, dx, gs, g, e, el, fun f => ?_⟩
    have rf := r f
    cases e2 : fs.lookup f with
    | none => rw [e2] at rf; exact rf
    | some d => rw [e2] at rf; obtain ⟨v, e3, r3⟩ := rf; exact ⟨v, e3, r3.mono x q⟩
  | slt c fs =>
    obtain ⟨C, dx, vs, g, e, r⟩ := h
    refine ⟨C, dx, vs, g, e.imp (fun z => ⟨z.1, z.2.1, ow _ _ (.inl rfl) z.2.2⟩) (fun z => ⟨z.1, ow _ _ (.inr rfl) z.2⟩), fun f d l => ?_⟩
    obtain ⟨i, p, v, s, l2, r2⟩ := r f d l
    exact ⟨i, p, v, s, l2, r2.mono x q⟩
  | lk o => exact h.elim
theorem HI.mut {b : O} {u : HO} (h : HI E ad H a b u) : Mut (some u) := by
  cases b with
  | lst ds => obtain ⟨vs, rfl, r⟩ := h; exact True.intro
  | dic kvs => obtain ⟨vs, rfl, _⟩ := h; exact True.intro
  | ins c fs => obtain ⟨C, dx, gs, g, rfl, r⟩ := h; exact True.intro
  | slt c fs =>
    obtain ⟨C, dx, vs, g, e, r⟩ := h
    rcases e with ⟨rfl, _⟩ | ⟨rfl, _⟩ <;> exact True.intro
  | lk o => exact h.elim
theorem OR.there {b : O} (h : OR E ad H a b) : ∃ u, H a = some u ∧ ¬ ∃ y, u = .own y := by
  have go : ∀ {b u}, HI E ad H a b u → ¬ ∃ y, u = .own y := fun {b u} hi ⟨y, e⟩ => by
    have := hi.mut; rw [e] at this; exact this
  cases b with
  | lk o => obtain ⟨ob, u, e, _⟩ := h; exact ⟨_, e, fun ⟨y, z⟩ => nomatch z⟩
  | lst _ => obtain ⟨u, e, hi⟩ := h; exact ⟨u, e, go hi⟩
  | dic _ => obtain ⟨u, e, hi⟩ := h; exact ⟨u, e, go hi⟩
  | ins _ _ => obtain ⟨u, e, hi⟩ := h; exact ⟨u, e, go hi⟩
  | slt _ _ => obtain ⟨u, e, hi⟩ := h; exact ⟨u, e, go hi⟩
theorem OR.mono {b : O} (h : OR E ad H a b) (x : Ex E H H') (q : ad <+: ad') (k : H' a = H a) (ow : ∀ c o, Sd a o → H c = some o → H' c = some o) : OR E ad' H' a b := by
  cases b with
  | lk o => obtain ⟨ob, u, e, hi⟩ := h; exact ⟨ob, u, k.trans e, hi.mono x q ow⟩
  | lst _ => obtain ⟨u, e, hi⟩ := h; exact ⟨u, k.trans e, hi.mono x q ow⟩
  | dic _ => obtain ⟨u, e, hi⟩ := h; exact ⟨u, k.trans e, hi.mono x q ow⟩
  | ins _ _ => obtain ⟨u, e, hi⟩ := h; exact ⟨u, k.trans e, hi.mono x q ow⟩
  | slt _ _ => obtain ⟨u, e, hi⟩ := h; exact ⟨u, k.trans e, hi.mono x q ow⟩

/-- the tables of code objects, by the defs that make lambdas -/
def tabT (E : En) : List (Addr × Str) := lamTf.map fun p => ((He.cT E.K p.1).2, p.2)
def TabsX (E : En) (ad : List Addr) (H : Hp) : Prop := ∀ p ∈ tabT E, ∃ ps : Array Value, H p.1 = some (.tbl ps) ∧ TriplesOk ps.toList ∧ ∀ (pos : Pos) (cv : Value), codeAmong pos ps.toList = some cv → ∃ c, cv = .ref c ∧ H c = some (LamX.CodeO c p.2) ∧ c ∉ ad
theorem TabsX.keep (h : TabsX E ad H) (q : ∀ b, b ∈ ad' → b ∈ ad ∨ H b = none) (k : ∀ b ps, H b = some (.tbl ps) → H' b = some (.tbl ps)) (kc : ∀ b φ, H b = some (.ext φ) → b ∉ ad → H' b = some (.ext φ)) : TabsX E ad' H' := fun p hp => by
  obtain ⟨ps, h1, h2, h3⟩ := h p hp
  refine ⟨ps, k _ _ h1, h2, fun pos cv hc => ?_⟩
  obtain ⟨c, e1, e2, e3⟩ := h3 pos cv hc
  refine ⟨c, e1, kc _ _ e2 e3, fun m => ?_⟩
  rcases q c m with z | z
  · exact e3 z
  · rw [e2] at z; cases z
theorem TabsX.new (h : TabsX E ad H) (n : H p = none) (q : ∀ b, b ∈ ad' → b ∈ ad ∨ b = p) : TabsX E ad' (upd H p o) :=
  h.keep (fun b m => (q b m).imp id fun z => by rw [z]; exact n) (fun b ps e => by rw [upd_ne (ne_of_none e n)]; exact e) fun b φ e _ => by rw [upd_ne (ne_of_none e n)]; exact e
theorem TabsX.set (h : TabsX E ad H) (m : a ∈ ad) {u : HO} (e : H a = some u) (nt : ∀ ps, u ≠ .tbl ps) : TabsX E ad (upd H a o) :=
  h.keep (fun b m => .inl m) (fun b ps e' => by
    rw [upd_ne (fun z => ?_)]
    · exact e'
    · subst z; rw [e] at e'; cases e'; exact nt _ rfl) fun b φ e' nm => by
    rw [upd_ne (fun z => ?_)]
    · exact e'
    · subst z; exact nm m
/-- the heap of objects is borne -/
structure HR (E : En) (ad : List Addr) (H : Hp) (hp : Hd) : Prop where
  len : ad.length = hp.n
  nd : ad.Nodup
  ob : ∀ (i : Nat) a, ad[i]? = some a → ∃ o, hp.get i = some o ∧ OR E ad H a o
  tab : TabsX E ad H
variable {hp : Hd}
theorem HR.at_ (h : HR E ad H hp) {i : Nat} {o : O} (ha : ad[i]? = some a) (e : hp.get i = some o) : OR E ad H a o := by
  obtain ⟨o', e', r⟩ := h.ob i a ha
  rw [e] at e'; cases e'; exact r
theorem HR.fresh (h : HR E ad H hp) (e : H p = none) : p ∉ ad := fun hm => by
  obtain ⟨i, hi⟩ := List.getElem?_of_mem hm
  obtain ⟨o, _, r⟩ := h.ob i p hi
  obtain ⟨u, e', _⟩ := r.there
  rw [e] at e'; cases e'
/-- a change of H that leaves the objects -/
theorem HR.step (h : HR E ad H hp) (x : Ex E H H') (k : ∀ b, b ∈ ad → H' b = H b) (ow : ∀ b c o, b ∈ ad → Sd b o → H c = some o → H' c = some o) (tb : TabsX E ad H') : HR E ad H' hp :=
  ⟨h.len, h.nd, fun i a e => by
    obtain ⟨o, e1, r⟩ := h.ob i a e
    have m := List.mem_of_getElem? e
    exact ⟨o, e1, r.mono x (List.prefix_refl _) (k a m) (fun c o => ow a c o m)⟩, tb⟩
theorem own_upd {b c : Addr} {w : HO} (hp' : H p = none ∨ ∃ u, H p = some u ∧ Mut (some u)) (sd : Sd b w) (e : H c = some w) : (upd H p o) c = some w := by
  rw [upd_ne (fun z => ?_)]
  · exact e
  · subst z
    rcases hp' with n | ⟨u, n, m⟩
    · rw [n] at e; cases e
    · rw [n] at e; cases e; exact sd.stays m
/-- a new thing that is no object of ours -/
theorem HR.aside (h : HR E ad H hp) (n : H p = none) : HR E ad (upd H p o) hp :=
  h.step (.new n) (fun b m => upd_ne (fun z => h.fresh n (z ▸ m))) (fun b c o m => own_upd (.inl n)) (h.tab.new n fun b m => .inl m)
/-- a new object -/
theorem HR.push {b : O} (h : HR E ad H hp) (n : H p = none) (r : OR E (ad ++ [p]) (upd H p o) p b) : HR E (ad ++ [p]) (upd H p o) (hp.push b) := by
  refine ⟨by simp [h.len, Hd.n_push], ?_, fun i a e => ?_, h.tab.new n fun b m => by simpa using m⟩
  · rw [List.nodup_append]
    exact ⟨h.nd, by simp, fun a ha c hc => by simp at hc; subst hc; exact fun z => h.fresh n (z ▸ ha)⟩
  · by_cases hi : i < ad.length
    · rw [List.getElem?_append_left hi] at e
      obtain ⟨o', e1, r1⟩ := h.ob i a e
      have m := List.mem_of_getElem? e
      have ne : a ≠ p := fun z => h.fresh n (z ▸ m)
      refine ⟨o', ?_, r1.mono (.new n) (List.prefix_append _ _) (upd_ne ne) (fun c o => own_upd (.inl n))⟩
      rw [Hd.get_push_ne _ _ (by rw [← h.len]; omega)]; exact e1
    · have e2 : i = ad.length := by
        have := (List.getElem?_eq_some_iff.mp e).1
        simp at this; omega
      subst e2
      simp at e
      subst e
      exact ⟨b, by rw [h.len]; exact Hd.get_push_same _ _, r⟩
/-- an object changed -/
theorem HR.set {b : O} {u : HO} {i : Nat} (h : HR E ad H hp) (ha : ad[i]? = some a) (e : H a = some u) (m : Mut (some u)) (r : OR E ad (upd H a o) a b) : HR E ad (upd H a o) (hp.set i b) := by
  refine ⟨h.len, h.nd, fun j c ej => ?_, h.tab.set (List.mem_of_getElem? ha) e fun ps z => by rw [z] at m; exact m⟩
  by_cases hj : j = i
  · subst hj
    rw [ha] at ej; cases ej
    exact ⟨b, Hd.get_set_same _ _ _, r⟩
  · obtain ⟨o', e1, r1⟩ := h.ob j c ej
    have ne : c ≠ a := fun z => by
      subst z
      have h1 := List.getElem?_eq_some_iff.mp ha
      have h2 := List.getElem?_eq_some_iff.mp ej
      exact hj ((List.getElem_inj h.nd).mp (h2.2.trans h1.2.symm))
    refine ⟨o', by rw [Hd.get_set_ne _ _ hj]; exact e1, r1.mono (.mut e m) (List.prefix_refl _) (upd_ne ne) (fun c o => own_upd (.inr ⟨u, e, m⟩))⟩
end

section
variable {E : En} {ad : List Addr} {H H' : Hp}
mutual
theorem RD.tups (t : (∀ a xs, SqT E.K H a xs → SqT E.K H' a xs) ∧ ∀ a xs, SqK E.K H a xs → SqK E.K H' a xs) : ∀ {d : D} {v : V}, RD E ad H d v → RD E ad H' d v
  | .non, _, h => by simpa [RD] using h
  | .bl _, _, h => by simpa [RD] using h
  | .int _, _, h => by simpa [RD] using h
  | .str _, _, h => by simpa [RD] using h
  | .tup ds, v, h => by
    rw [RD] at h ⊢
    obtain ⟨a, vs, e, s, r⟩ := h
    exact ⟨a, vs, e, t.1 a vs s, RDs.tups t r⟩
  | .ref n, v, h => by
    rw [RD] at h ⊢
    exact h
  | .kl ns, v, h => by
    rw [RD] at h ⊢
    obtain ⟨a, e, s⟩ := h
    exact ⟨a, e, t.2 a _ s⟩
theorem RDs.tups (t : (∀ a xs, SqT E.K H a xs → SqT E.K H' a xs) ∧ ∀ a xs, SqK E.K H a xs → SqK E.K H' a xs) : ∀ {ds : List D} {vs : List V}, RDs E ad H ds vs → RDs E ad H' ds vs
  | [], _, h => by rw [RDs] at h ⊢; exact h
  | d :: ds, vs, h => by
    rw [RDs] at h ⊢
    obtain ⟨v, r, e, h1, h2⟩ := h
    exact ⟨v, r, e, RD.tups t h1, RDs.tups t h2⟩
end
theorem PRs.tups (t : (∀ a xs, SqT E.K H a xs → SqT E.K H' a xs) ∧ ∀ a xs, SqK E.K H a xs → SqK E.K H' a xs) : ∀ {ps : List (D × D)} {vs : List (V × Int × V)}, PRs E ad H ps vs → PRs E ad H' ps vs
  | [], _, h => h
  | p :: ps, vs, h => by
    obtain ⟨v, r, k, e, h1, h2, h3, h4, h5⟩ := h
    exact ⟨v, r, k, e, h1.tups t, h2, h3, h4.tups t, PRs.tups t h5⟩
theorem HI.tups {a : Addr} {b : O} {u : HO} (h : HI E ad H a b u) (t : (∀ a xs, SqT E.K H a xs → SqT E.K H' a xs) ∧ ∀ a xs, SqK E.K H a xs → SqK E.K H' a xs) (ow : ∀ c o, Sd a o → H c = some o → H' c = some o) : HI E ad H' a b u := by
  cases b with
  | lst ds => obtain ⟨vs, e, r⟩ := h; exact ⟨vs, e, r.tups t⟩
  | dic kvs => obtain ⟨vs, e, z, s, r, k⟩ := h; exact ⟨vs, e, z, s, r.tups t, k⟩
  | ins c fs =>
    obtain ⟨C, dx, gs, g, e, el, r⟩ := h
    refine ⟨C, dx, gs, g, e, el, fun f => ?_⟩
    have rf := r f
    cases e2 : fs.lookup f with
    | none => rw [e2] at rf; exact rf
    | some d => rw [e2] at rf; obtain ⟨v, e3, r3⟩ := rf; exact ⟨v, e3, r3.tups t⟩
  | slt c fs =>
    obtain ⟨C, dx, vs, g, e, r⟩ := h
    refine ⟨C, dx, vs, g, e.imp (fun z => ⟨z.1, z.2.1, ow _ _ (.inl rfl) z.2.2⟩) (fun z => ⟨z.1, ow _ _ (.inr rfl) z.2⟩), fun f d l => ?_⟩
    obtain ⟨i, p, v, s, l2, r2⟩ := r f d l
    exact ⟨i, p, v, s, l2, r2.tups t⟩
  | lk o => exact h.elim
theorem OR.tups {a : Addr} {b : O} (h : OR E ad H a b) (t : (∀ a xs, SqT E.K H a xs → SqT E.K H' a xs) ∧ ∀ a xs, SqK E.K H a xs → SqK E.K H' a xs) (k : H' a = H a) (ow : ∀ c o, Sd a o → H c = some o → H' c = some o) : OR E ad H' a b := by
  cases b with
  | lk o => obtain ⟨ob, u, e, hi⟩ := h; exact ⟨ob, u, k.trans e, hi.tups t ow⟩
  | lst _ => obtain ⟨u, e, hi⟩ := h; exact ⟨u, k.trans e, hi.tups t ow⟩
  | dic _ => obtain ⟨u, e, hi⟩ := h; exact ⟨u, k.trans e, hi.tups t ow⟩
  | ins _ _ => obtain ⟨u, e, hi⟩ := h; exact ⟨u, k.trans e, hi.tups t ow⟩
  | slt _ _ => obtain ⟨u, e, hi⟩ := h; exact ⟨u, k.trans e, hi.tups t ow⟩
end
end DL
namespace DL
open PySem PySem.Spec PyProof.Rows L2

abbrev Rho := List (Option D)
/-- an expression: from the slots and the heap to a value and a heap; none: not served -/
abbrev M (α : Type) := Rho → Hd → Option (α × Hd)
def bnd {α β : Type} (m : M α) (k : α → M β) : M β := fun ρ hp => match m ρ hp with
  | some (a, h) => k a ρ h
  | none => none
def pur {α : Type} (a : α) : M α := fun _ hp => some (a, hp)
/-- an operation on the heap alone -/
def lft {α : Type} (g : Hd → Option (α × Hd)) : M α := fun _ hp => g hp
theorem bnd_eq {α β : Type} {m : M α} {k : α → M β} {ρ : Rho} {hp h : Hd} {a : α} (e : m ρ hp = some (a, h)) : bnd m k ρ hp = k a ρ h := by unfold bnd; rw [e]
theorem bnd_inv {α β : Type} {m : M α} {k : α → M β} {ρ : Rho} {hp h' : Hd} {b : β} (e : bnd m k ρ hp = some (b, h')) : ∃ a h, m ρ hp = some (a, h) ∧ k a ρ h = some (b, h') := by
  unfold bnd at e
  cases q : m ρ hp with
  | none => rw [q] at e; cases e
  | some p => obtain ⟨a, h⟩ := p; rw [q] at e; exact ⟨a, h, rfl, e⟩

/-- the slots -/
def RS (E : En) (ad : List Addr) (H : Hp) (ρ : Rho) (σ : L2.St) : Prop := ∀ (i : Nat) (d : D), ρ[i]? = some (some d) → ∃ v, σ[i]? = some (some v) ∧ RD E ad H d v
def PostE (E : En) (ad : List Addr) (H : Hp) (d : D) (hp' : Hd) (Q : VK) : Prop := ∀ v H' ad', Ex E H H' → ad <+: ad' → HR E ad' H' hp' → RD E ad' H' d v → Q v H'
def PostB (E : En) (ad : List Addr) (H : Hp) (b : Bool) (hp' : Hd) (Q : Bool → Hp → Prop) : Prop := ∀ H' ad', Ex E H H' → ad <+: ad' → HR E ad' H' hp' → Q b H'
def PostL (E : En) (ad : List Addr) (H : Hp) (ds : List D) (hp' : Hd) (Q : List V → Hp → Prop) : Prop := ∀ vs H' ad', Ex E H H' → ad <+: ad' → HR E ad' H' hp' → RDs E ad' H' ds vs → Q vs H'
/-- the state -/
structure St0 (E : En) (ρ : Rho) (hp : Hd) (ad : List Addr) (σ : L2.St) (H : Hp) : Prop where
  s : RS E ad H ρ σ
  h : HR E ad H hp
  len : ρ.length = σ.length
def rE (E : En) (m : M D) : TE := fun σ H Q => ∃ ρ hp ad d hp', St0 E ρ hp ad σ H ∧ m ρ hp = some (d, hp') ∧ PostE E ad H d hp' Q
def rT (E : En) (m : M Bool) : TT := fun σ H Q => ∃ ρ hp ad b hp', St0 E ρ hp ad σ H ∧ m ρ hp = some (b, hp') ∧ PostB E ad H b hp' Q
def rA (E : En) (m : M (List D)) : TA := fun σ H Q => ∃ ρ hp ad ds hp', St0 E ρ hp ad σ H ∧ m ρ hp = some (ds, hp') ∧ PostL E ad H ds hp' Q
section
variable {E : En} {ad ad' : List Addr} {H H' : Hp} {ρ : Rho} {σ : L2.St} {hp hp' : Hd} {d : D} {b : Bool} {Q : VK}
theorem RS.mono (h : RS E ad H ρ σ) (x : Ex E H H') (q : ad <+: ad') : RS E ad' H' ρ σ := fun i d e => by
  obtain ⟨v, e1, r⟩ := h i d e
  exact ⟨v, e1, r.mono x q⟩
theorem St0.next (h : St0 E ρ hp ad σ H) (x : Ex E H H') (q : ad <+: ad') (r : HR E ad' H' hp') : St0 E ρ hp' ad' σ H' := ⟨h.s.mono x q, r, h.len⟩
theorem St0.toSt0 (h : St0 E ρ hp ad σ H) : St0 E ρ hp ad σ H := h
theorem PostE.next (h : PostE E ad H d hp' Q) (x : Ex E H H') (q : ad <+: ad') : PostE E ad' H' d hp' Q := fun v H2 a2 x2 q2 r2 k => h v H2 a2 (x.trans x2) (q.trans q2) r2 k
theorem PostB.next {Q : Bool → Hp → Prop} (h : PostB E ad H b hp' Q) (x : Ex E H H') (q : ad <+: ad') : PostB E ad' H' b hp' Q := fun H2 a2 x2 q2 r2 => h H2 a2 (x.trans x2) (q.trans q2) r2
theorem PostL.next {ds : List D} {Q : List V → Hp → Prop} (h : PostL E ad H ds hp' Q) (x : Ex E H H') (q : ad <+: ad') : PostL E ad' H' ds hp' Q := fun v H2 a2 x2 q2 r2 k => h v H2 a2 (x.trans x2) (q.trans q2) r2 k
/-- the answer as it stands -/
theorem PostE.here {v : V} (h : PostE E ad H d hp Q) (r : HR E ad H hp) (k : RD E ad H d v) : Q v H := h v H ad .refl (List.prefix_refl _) r k
theorem PostB.here {Q : Bool → Hp → Prop} (h : PostB E ad H b hp Q) (r : HR E ad H hp) : Q b H := h H ad .refl (List.prefix_refl _) r
end
theorem PE.mono {X : Cx} {e : Expr} {t t' : TE} (h : PE X e t) (k : ∀ σ H Q, t' σ H Q → t σ H Q) : PE X e t' := ⟨fun pins s σ H Q I q => h.run pins s σ H Q I (k _ _ _ q)⟩
theorem PT.mono {X : Cx} {e : Expr} {t t' : TT} (h : PT X e t) (k : ∀ σ H Q, t' σ H Q → t σ H Q) : PT X e t' := ⟨fun pins s σ H Q I q => h.run pins s σ H Q I (k _ _ _ q)⟩
theorem PW.mono {X : Cx} {e : Expr} {t t' : TT} (h : PW X e t) (k : ∀ σ H Q, t' σ H Q → t σ H Q) : PW X e t' := ⟨fun wh pins s σ H Q I q => h.run wh pins s σ H Q I (k _ _ _ q)⟩
theorem PA.mono {X : Cx} {es : List Expr} {t t' : TA} (h : PA X es t) (k : ∀ σ H Q, t' σ H Q → t σ H Q) : PA X es t' := ⟨fun pos pins s σ H Q I q => h.run pos pins s σ H Q I (k _ _ _ q)⟩
theorem PS.mono {X : Cx} {e : Stmt} {t t' : TS} (h : PS X e t) (k : ∀ D σ H, t' D σ H → t D σ H) : PS X e t' := ⟨fun pins s σ H D I q => h.run pins s σ H D I (k _ _ _ q)⟩
theorem PSs.mono {X : Cx} {e : List Stmt} {t t' : TS} (h : PSs X e t) (k : ∀ D σ H, t' D σ H → t D σ H) : PSs X e t' := ⟨fun pins s σ H D I q => h.run pins s σ H D I (k _ _ _ q)⟩

def mVar (i : Nat) : M D := fun ρ hp => match ρ[i]? with
  | some (some d) => some (d, hp)
  | _ => none
section
variable {X : Cx} {a b c : Expr} {ma mb mc : M D} {pos : Pos}
theorem le_var {i : Nat} {x : Str} (hN : X.N[i]? = some x) (hv : Vis X.env.scope x) (hd : (x == ("__debug__" : Str)) = false := by decide) (hcd : (x == ("__classdict__" : Str)) = false := by decide) : PE X (.Name x pos) (rE (en X) (mVar i)) := by
  refine PE.mono (pe_var hN hv hd hcd) fun σ H Q h => ?_
  obtain ⟨ρ, hp, ad, d, hp', st, e, q⟩ := h
  unfold mVar at e
  split at e
  · rename_i d' e2
    cases e
    obtain ⟨v, e1, r⟩ := st.s i d e2
    exact ⟨v, e1, q.here st.h r⟩
  · cases e
theorem rE_pur {d : D} {v : V} (hv : ∀ E ad H, RD E ad H d v) {σ : L2.St} {H : Hp} {Q : VK} (h : rE (en X) (pur d) σ H Q) : Q v H := by
  obtain ⟨ρ, hp, ad, d', hp', st, e, q⟩ := h
  cases e
  exact q.here st.h (hv _ _ _)
theorem le_cI {i : Int} {j : Nat} : PE X (.Constant (.int i) j pos) (rE (en X) (pur (.int i))) := PE.mono pe_int fun σ H Q h => rE_pur (fun _ _ _ => by rw [RD]) h
theorem le_cB {b : Bool} {j : Nat} : PE X (.Constant (.bool b) j pos) (rE (en X) (pur (.bl b))) := PE.mono pe_bl fun σ H Q h => rE_pur (fun _ _ _ => by rw [RD]) h
theorem le_cN {j : Nat} : PE X (.Constant .none j pos) (rE (en X) (pur .non)) := PE.mono pe_non fun σ H Q h => rE_pur (fun _ _ _ => by rw [RD]) h
theorem le_cS {x : Str} {j : Nat} : PE X (.Constant (.str x) j pos) (rE (en X) (pur (.str x))) := PE.mono pe_str fun σ H Q h => rE_pur (fun _ _ _ => by rw [RD]) h
/-- a module's int or text -/
theorem le_globI {x : Str} {i : Int} {t : Tok} (hg : Gl X x) (hm : X.mg x = some (.int i t)) (hd : (x == ("__debug__" : Str)) = false := by decide) : PE X (.Name x pos) (rE (en X) (pur (.int i))) :=
  PE.mono (pe_glob (v := .int i) hg hm ⟨t, rfl⟩ hd) fun σ H Q h => rE_pur (fun _ _ _ => by rw [RD]) h
theorem le_globS {x : Str} {i : Str} {t : Tok} (hg : Gl X x) (hm : X.mg x = some (.str i t)) (hd : (x == ("__debug__" : Str)) = false := by decide) : PE X (.Name x pos) (rE (en X) (pur (.str i))) :=
  PE.mono (pe_glob (v := .str i) hg hm ⟨t, rfl⟩ hd) fun σ H Q h => rE_pur (fun _ _ _ => by rw [RD]) h

/-- behind one value -/
def rK (E : En) (k : D → M D) (x : V) (σ : L2.St) (H : Hp) (Q : VK) : Prop := ∃ ρ hp ad d d' hp', St0 E ρ hp ad σ H ∧ RD E ad H d x ∧ k d ρ hp = some (d', hp') ∧ PostE E ad H d' hp' Q
theorem rE_bnd {E : En} {k : D → M D} {σ : L2.St} {H : Hp} {Q : VK} (h : rE E (bnd ma k) σ H Q) : rE E ma σ H (fun x H1 => rK E k x σ H1 Q) := by
  obtain ⟨ρ, hp, ad, d, hp', st, e, q⟩ := h
  obtain ⟨d1, h1, e1, e2⟩ := bnd_inv e
  exact ⟨ρ, hp, ad, d1, h1, st, e1, fun v H' ad' x p r k => ⟨ρ, h1, ad', d1, d, hp', st.next x p r, k, e2, q.next x p⟩⟩
def rK2 (E : En) (k : D → D → M D) (x y : V) (σ : L2.St) (H : Hp) (Q : VK) : Prop := ∃ ρ hp ad d1 d2 d' hp', St0 E ρ hp ad σ H ∧ RD E ad H d1 x ∧ RD E ad H d2 y ∧ k d1 d2 ρ hp = some (d', hp') ∧ PostE E ad H d' hp' Q
theorem rK_bnd {E : En} {k : D → D → M D} {x : V} {σ : L2.St} {H : Hp} {Q : VK} (h : rK E (fun d => bnd mb (k d)) x σ H Q) : rE E mb σ H (fun y H1 => rK2 E k x y σ H1 Q) := by
  obtain ⟨ρ, hp, ad, d, d', hp', st, r0, e, q⟩ := h
  obtain ⟨d2, h1, e1, e2⟩ := bnd_inv e
  exact ⟨ρ, hp, ad, d2, h1, st, e1, fun v H' ad' x p r k => ⟨ρ, h1, ad', d, d2, d', hp', st.next x p r, r0.mono x p, k, e2, q.next x p⟩⟩
/-- an operation on two values -/
def rB (E : En) (f : D → D → Hd → Option (D × Hd)) : R2 := fun x y H Q => ∃ ad hp d1 d2 d hp', HR E ad H hp ∧ RD E ad H d1 x ∧ RD E ad H d2 y ∧ f d1 d2 hp = some (d, hp') ∧ PostE E ad H d hp' Q
def mB (f : D → D → Hd → Option (D × Hd)) (ma mb : M D) : M D := bnd ma fun x => bnd mb fun y => lft (f x y)
theorem rE_mB {E : En} {f : D → D → Hd → Option (D × Hd)} {σ : L2.St} {H : Hp} {Q : VK} (h : rE E (mB f ma mb) σ H Q) : tOp (rB E f) (rE E ma) (rE E mb) σ H Q := by
  have h1 := rE_bnd h
  obtain ⟨ρ, hp, ad, d, hp', st, e, q⟩ := h1
  refine ⟨ρ, hp, ad, d, hp', st, e, fun v H' ad' x p r k => ?_⟩
  have h2 := rK_bnd (q v H' ad' x p r k)
  obtain ⟨ρ, hp, ad, d, hp', st, e, q⟩ := h2
  refine ⟨ρ, hp, ad, d, hp', st, e, fun v H' ad' x p r k => ?_⟩
  obtain ⟨ρ, hp, ad, d1, d2, d', hp', st, r1, r2, e, q⟩ := q v H' ad' x p r k
  exact ⟨ad, hp, d1, d2, d', hp', st.h, r1, r2, e, q⟩
theorem le_bin {op : Operator} {f : D → D → Hd → Option (D × Hd)} (ho : OpR X (binaryOp op) (rB (en X) f)) (ha : PE X a (rE (en X) ma)) (hb : PE X b (rE (en X) mb)) : PE X (.BinOp a op b pos) (rE (en X) (mB f ma mb)) :=
  PE.mono (pe_op ho ha hb) fun _ _ _ h => rE_mB h
theorem le_cmp {op : CmpOp} {f : D → D → Hd → Option (D × Hd)} (ho : OpR X (compareOp op) (rB (en X) f)) (ha : PE X a (rE (en X) ma)) (hb : PE X b (rE (en X) mb)) (hm : behindInMarks op b = false := by first | exact nomark _ | rfl) : PE X (.Compare a [op] [b] pos) (rE (en X) (mB f ma mb)) :=
  PE.mono (pe_cmpR ho ha hb hm) fun _ _ _ h => rE_mB h
/-- an operation on one value -/
def rU1 (E : En) (f : D → Hd → Option (D × Hd)) : V → Hp → VK → Prop := fun x H Q => ∃ ad hp d1 d hp', HR E ad H hp ∧ RD E ad H d1 x ∧ f d1 hp = some (d, hp') ∧ PostE E ad H d hp' Q
def mU (f : D → Hd → Option (D × Hd)) (ma : M D) : M D := bnd ma fun x => lft (f x)
theorem rE_mU {E : En} {f : D → Hd → Option (D × Hd)} {σ : L2.St} {H : Hp} {Q : VK} (h : rE E (mU f ma) σ H Q) : rE E ma σ H fun x H1 => rU1 E f x H1 Q := by
  have h1 := rE_bnd h
  obtain ⟨ρ, hp, ad, d, hp', st, e, q⟩ := h1
  refine ⟨ρ, hp, ad, d, hp', st, e, fun v H' ad' x p r k => ?_⟩
  obtain ⟨ρ, hp, ad, d1, d', hp', st, r1, e, q⟩ := q v H' ad' x p r k
  exact ⟨ad, hp, d1, d', hp', st.h, r1, e, q⟩
theorem le_un {op : UnaryOp} {f : D → Hd → Option (D × Hd)} (ho : UnR X (unaryOp op) (rU1 (en X) f)) (ha : PE X a (rE (en X) ma)) : PE X (.UnaryOp op a pos) (rE (en X) (mU f ma)) :=
  PE.mono (pe_un ho ha) fun _ _ _ h => rE_mU h

def blD : D → Option Bool
  | .bl b => some b
  | _ => none
/-- a value that is a bool, as a test -/
def mTst (m : M D) : M Bool := bnd m fun x => fun ρ hp => (blD x).map fun b => (b, hp)
theorem rT_tst {E : En} {σ : L2.St} {H : Hp} {Q : Bool → Hp → Prop} (h : rT E (mTst ma) σ H Q) : tB (rE E ma) σ H Q := by
  obtain ⟨ρ, hp, ad, b, hp', st, e, q⟩ := h
  obtain ⟨d, h1, e1, e2⟩ := bnd_inv e
  refine ⟨ρ, hp, ad, d, h1, st, e1, fun v H' ad' x p r k => ?_⟩
  cases d with
  | bl c =>
    simp only [blD, Option.map_some, Option.some.injEq, Prod.mk.injEq] at e2
    obtain ⟨rfl, rfl⟩ := e2
    rw [RD] at k
    exact ⟨c, k, q H' ad' x p r⟩
  | _ => simp [blD] at e2
theorem lt_val (h : PE X a (rE (en X) ma)) (he : ∀ whole, isTrue a X.env whole = (do let v ← whole; standAt a.pos; holding [v] (truthy v)) := by intro _; rfl) : PT X a (rT (en X) (mTst ma)) :=
  PT.mono (pt_val h he) fun _ _ _ h => rT_tst h
theorem lt_cmp {op : CmpOp} {f : D → D → Hd → Option (D × Hd)} (ho : OpR X (compareOp op) (rB (en X) f)) (ha : PE X a (rE (en X) ma)) (hb : PE X b (rE (en X) mb)) (hm : behindInMarks op b = false := by first | exact nomark _ | rfl) : PT X (.Compare a [op] [b] pos) (rT (en X) (mTst (mB f ma mb))) :=
  PT.mono (pt_cmpR ho ha hb hm) fun σ H Q h => by
    obtain ⟨ρ, hp, ad, d, hp', st, e, q⟩ := rT_tst h
    exact rE_mB ⟨ρ, hp, ad, d, hp', st, e, q⟩
def mAnd (m n : M Bool) : M Bool := bnd m fun c => if c = true then n else pur false
def mOr (m n : M Bool) : M Bool := bnd m fun c => if c = true then pur true else n
def mNot (m : M Bool) : M Bool := bnd m fun c => pur (!c)
variable {pa pb : M Bool} {rest : List Expr}
theorem rT_and {E : En} {σ : L2.St} {H : Hp} {Q : Bool → Hp → Prop} (h : rT E (mAnd pa pb) σ H Q) : tAnd (rT E pa) (rT E pb) σ H Q := by
  obtain ⟨ρ, hp, ad, b, hp', st, e, q⟩ := h
  obtain ⟨c, h1, e1, e2⟩ := bnd_inv e
  refine ⟨ρ, hp, ad, c, h1, st, e1, fun H' ad' x p r => ?_⟩
  cases c with
  | true => rw [if_pos rfl]; exact ⟨ρ, h1, ad', b, hp', st.next x p r, by simpa using e2, q.next x p⟩
  | false =>
    rw [if_neg Bool.false_ne_true]
    simp only [Bool.false_eq_true, if_false, pur, Option.some.injEq, Prod.mk.injEq] at e2
    obtain ⟨rfl, rfl⟩ := e2
    exact q H' ad' x p r
theorem rT_or {E : En} {σ : L2.St} {H : Hp} {Q : Bool → Hp → Prop} (h : rT E (mOr pa pb) σ H Q) : tOr (rT E pa) (rT E pb) σ H Q := by
  obtain ⟨ρ, hp, ad, b, hp', st, e, q⟩ := h
  obtain ⟨c, h1, e1, e2⟩ := bnd_inv e
  refine ⟨ρ, hp, ad, c, h1, st, e1, fun H' ad' x p r => ?_⟩
  cases c with
  | false => rw [if_neg Bool.false_ne_true]; exact ⟨ρ, h1, ad', b, hp', st.next x p r, by simpa using e2, q.next x p⟩
  | true =>
    rw [if_pos rfl]
    simp only [if_true, pur, Option.some.injEq, Prod.mk.injEq] at e2
    obtain ⟨rfl, rfl⟩ := e2
    exact q H' ad' x p r
theorem rT_not {E : En} {σ : L2.St} {H : Hp} {Q : Bool → Hp → Prop} (h : rT E (mNot pa) σ H Q) : tNot (rT E pa) σ H Q := by
  obtain ⟨ρ, hp, ad, b, hp', st, e, q⟩ := h
  obtain ⟨c, h1, e1, e2⟩ := bnd_inv e
  refine ⟨ρ, hp, ad, c, h1, st, e1, fun H' ad' x p r => ?_⟩
  simp only [pur, Option.some.injEq, Prod.mk.injEq] at e2
  obtain ⟨rfl, rfl⟩ := e2
  exact q H' ad' x p r
theorem lw_and1 (h : PT X a (rT (en X) pa)) : PW X (.BoolOp .And [a] pos) (rT (en X) pa) := pw_and1 h
theorem lw_or1 (h : PT X a (rT (en X) pa)) : PW X (.BoolOp .Or [a] pos) (rT (en X) pa) := pw_or1 h
theorem lw_and (ha : PT X a (rT (en X) pa)) (hb : PW X (.BoolOp .And (b :: rest) pos) (rT (en X) pb)) : PW X (.BoolOp .And (a :: b :: rest) pos) (rT (en X) (mAnd pa pb)) := PW.mono (pw_and ha hb) fun _ _ _ h => rT_and h
theorem lw_or (ha : PT X a (rT (en X) pa)) (hb : PW X (.BoolOp .Or (b :: rest) pos) (rT (en X) pb)) : PW X (.BoolOp .Or (a :: b :: rest) pos) (rT (en X) (mOr pa pb)) := PW.mono (pw_or ha hb) fun _ _ _ h => rT_or h
theorem lt_w (h : PW X a (rT (en X) pa)) : PT X a (rT (en X) pa) := h.pt
theorem lt_not (h : PT X a (rT (en X) pa)) : PT X (.UnaryOp .Not a pos) (rT (en X) (mNot pa)) := PT.mono (pt_not h) fun _ _ _ h => rT_not h
/-- as values: bools -/
def mAndV (ma mb : M D) : M D := bnd ma fun x => match x with
  | .bl c => if c = true then mb else pur (.bl false)
  | _ => fun _ _ => none
def mOrV (ma mb : M D) : M D := bnd ma fun x => match x with
  | .bl c => if c = true then pur (.bl true) else mb
  | _ => fun _ _ => none
theorem le_one {op : BoolOp} (h : PE X a (rE (en X) ma)) : PE X (.BoolOp op [a] pos) (rE (en X) ma) := pe_one h
theorem le_and (ha : PE X a (rE (en X) ma)) (hb : PE X (.BoolOp .And (b :: rest) pos) (rE (en X) mb)) : PE X (.BoolOp .And (a :: b :: rest) pos) (rE (en X) (mAndV ma mb)) := by
  refine PE.mono (pe_and ha hb) fun σ H Q h => ?_
  obtain ⟨ρ, hp, ad, d, hp', st, e, q⟩ := h
  obtain ⟨c, h1, e1, e2⟩ := bnd_inv e
  refine ⟨ρ, hp, ad, c, h1, st, e1, fun v H' ad' x p r k => ?_⟩
  cases c with
  | bl c =>
    rw [RD] at k
    refine ⟨c, k, ?_⟩
    cases c with
    | true => rw [if_pos rfl]; exact ⟨ρ, h1, ad', d, hp', st.next x p r, by simpa using e2, q.next x p⟩
    | false =>
      rw [if_neg Bool.false_ne_true]
      simp only [Bool.false_eq_true, if_false, pur, Option.some.injEq, Prod.mk.injEq] at e2
      obtain ⟨rfl, rfl⟩ := e2
      exact q _ H' ad' x p r (by rw [RD])
  | _ => cases e2
theorem le_or (ha : PE X a (rE (en X) ma)) (hb : PE X (.BoolOp .Or (b :: rest) pos) (rE (en X) mb)) : PE X (.BoolOp .Or (a :: b :: rest) pos) (rE (en X) (mOrV ma mb)) := by
  refine PE.mono (pe_or ha hb) fun σ H Q h => ?_
  obtain ⟨ρ, hp, ad, d, hp', st, e, q⟩ := h
  obtain ⟨c, h1, e1, e2⟩ := bnd_inv e
  refine ⟨ρ, hp, ad, c, h1, st, e1, fun v H' ad' x p r k => ?_⟩
  cases c with
  | bl c =>
    rw [RD] at k
    refine ⟨c, k, ?_⟩
    cases c with
    | false => rw [if_neg Bool.false_ne_true]; exact ⟨ρ, h1, ad', d, hp', st.next x p r, by simpa using e2, q.next x p⟩
    | true =>
      rw [if_pos rfl]
      simp only [if_true, pur, Option.some.injEq, Prod.mk.injEq] at e2
      obtain ⟨rfl, rfl⟩ := e2
      exact q _ H' ad' x p r (by rw [RD])
  | _ => cases e2
/-- not x as a value -/
def notD : D → Hd → Option (D × Hd)
  | .bl c, hp => some (.bl (!c), hp)
  | _, _ => none
theorem le_not (ha : PE X a (rE (en X) ma)) : PE X (.UnaryOp .Not a pos) (rE (en X) (mU notD ma)) := by
  refine PE.mono (pe_not ha) fun σ H Q h => ?_
  obtain ⟨ρ, hp, ad, d, hp', st, e, q⟩ := rE_mU h
  refine ⟨ρ, hp, ad, d, hp', st, e, fun v H' ad' x p r k => ?_⟩
  obtain ⟨ad, hp, d1, d, hp', hr, r1, e, q⟩ := q v H' ad' x p r k
  cases d1 with
  | bl c =>
    rw [RD] at r1
    simp only [notD, Option.some.injEq, Prod.mk.injEq] at e
    obtain ⟨rfl, rfl⟩ := e
    exact ⟨c, r1, q.here hr (by rw [RD])⟩
  | _ => simp [notD] at e
def mIf {α : Type} (t : M Bool) (m n : M α) : M α := bnd t fun c => if c = true then m else n
theorem le_if {c : Expr} (hc : PT X c (rT (en X) pa)) (ha : PE X a (rE (en X) ma)) (hb : PE X b (rE (en X) mb)) : PE X (.IfExp c a b pos) (rE (en X) (mIf pa ma mb)) := by
  refine PE.mono (pe_ifExp hc ha hb) fun σ H Q h => ?_
  obtain ⟨ρ, hp, ad, d, hp', st, e, q⟩ := h
  obtain ⟨c, h1, e1, e2⟩ := bnd_inv e
  refine ⟨ρ, hp, ad, c, h1, st, e1, fun H' ad' x p r => ?_⟩
  cases c with
  | true => rw [if_pos rfl]; exact ⟨ρ, h1, ad', d, hp', st.next x p r, by simpa using e2, q.next x p⟩
  | false => rw [if_neg Bool.false_ne_true]; exact ⟨ρ, h1, ad', d, hp', st.next x p r, by simpa using e2, q.next x p⟩

def mCons (m : M D) (r : M (List D)) : M (List D) := bnd m fun x => bnd r fun xs => pur (x :: xs)
variable {es : List Expr} {ms : M (List D)}
theorem la_nil : PA X [] (rA (en X) (pur [])) := PA.mono pa_nil fun σ H Q h => by
  obtain ⟨ρ, hp, ad, ds, hp', st, e, q⟩ := h
  cases e
  exact q [] H ad .refl (List.prefix_refl _) st.h .nil
theorem la_cons (ha : PE X a (rE (en X) ma)) (hr : PA X es (rA (en X) ms)) (hs : starEach (a :: es) X.env = (false, eval a X.env) :: starEach es X.env := by rfl) : PA X (a :: es) (rA (en X) (mCons ma ms)) := by
  refine PA.mono (pa_cons ha hr hs) fun σ H Q h => ?_
  obtain ⟨ρ, hp, ad, ds, hp', st, e, q⟩ := h
  obtain ⟨d, h1, e1, e2⟩ := bnd_inv e
  obtain ⟨ds', h2, e3, e4⟩ := bnd_inv e2
  cases e4
  refine ⟨ρ, hp, ad, d, h1, st, e1, fun v H' ad' x p r k => ?_⟩
  exact ⟨ρ, h1, ad', ds', hp', st.next x p r, e3, fun vs H2 ad2 x2 p2 r2 k2 => q _ H2 ad2 (x.trans x2) (p.trans p2) r2 (.cons (k.mono x2 p2) k2)⟩
def big : Nat := 1000000
theorem big_ok {n : Nat} (h : n ≤ big) : n ≤ sizeLine := Nat.le_trans h (by decide)
theorem big_lt {n : Nat} (h : n < big) : n < sizeLine := Nat.lt_of_lt_of_le h (by decide)
def tupD (ds : List D) : M D := fun _ hp => if ds.length ≤ big then some (.tup ds, hp) else none
def lstD (ds : List D) : M D := fun _ hp => if ds.length ≤ big then some (.ref hp.n, hp.push (.lst ds)) else none
def mTup (ms : M (List D)) : M D := bnd ms tupD
def mLst (ms : M (List D)) : M D := bnd ms lstD
/-- a new tuple -/
theorem tup_new {E : En} {ad : List Addr} {H : Hp} {hp : Hd} {ds : List D} {vs : List V} {p : Addr} {Q : VK} (hr : HR E ad H hp) (n : H p = none) (k : RDs E ad H ds vs) (q : PostE E ad H (.tup ds) hp Q) : Q (.ref p) (upd H p (.tup vs)) :=
  q _ _ ad (.new n) (List.prefix_refl _) (hr.aside n) (by rw [RD]; exact ⟨p, vs, rfl, .inl (.inl upd_same), k.mono (.new n) (List.prefix_refl _)⟩)
theorem lst_new {E : En} {ad : List Addr} {H : Hp} {hp : Hd} {ds : List D} {vs : List V} {p : Addr} {Q : VK} (hr : HR E ad H hp) (n : H p = none) (k : RDs E ad H ds vs) (q : PostE E ad H (.ref hp.n) (hp.push (.lst ds)) Q) : Q (.ref p) (upd H p (.lst vs)) := by
  refine q _ _ (ad ++ [p]) (.new n) (List.prefix_append _ _) (hr.push n ⟨.lst vs, upd_same, vs, rfl, k.mono (.new n) (List.prefix_append _ _)⟩) ?_
  rw [RD]
  exact ⟨p, rfl, by rw [← hr.len]; simp⟩
theorem le_tup {x1 : Nat} (h : PA X es (rA (en X) ms)) : PE X (.Tuple es x1 pos) (rE (en X) (mTup ms)) := by
  refine PE.mono (pe_tup h) fun σ H Q h => ?_
  obtain ⟨ρ, hp, ad, d, hp', st, e, q⟩ := h
  obtain ⟨ds, h1, e1, e2⟩ := bnd_inv e
  unfold tupD at e2
  split at e2
  · rename_i hz
    cases e2
    exact ⟨ρ, hp, ad, ds, hp', st, e1, fun vs H' ad' x p r k => ⟨by rw [← k.length]; exact big_ok hz, fun a n => tup_new r n k (q.next x p)⟩⟩
  · cases e2
theorem le_lst (h : PA X es (rA (en X) ms)) : PE X (.List es pos) (rE (en X) (mLst ms)) := by
  refine PE.mono (pe_lst h) fun σ H Q h => ?_
  obtain ⟨ρ, hp, ad, d, hp', st, e, q⟩ := h
  obtain ⟨ds, h1, e1, e2⟩ := bnd_inv e
  unfold lstD at e2
  split at e2
  · rename_i hz
    cases e2
    exact ⟨ρ, hp, ad, ds, h1, st, e1, fun vs H' ad' x p r k => ⟨by rw [← k.length]; exact big_ok hz, fun a n => lst_new r n k (q.next x p)⟩⟩
  · cases e2
end
end DL
namespace DL
open PySem PySem.Spec PyProof.Rows L2

inductive Fl where
  | nx | bk | ct | rt (d : D)
/-- a statement -/
abbrev S := Rho → Hd → Option (Fl × Rho × Hd)
abbrev St1 := St0
def PostS (E : En) (ad : List Addr) (H : Hp) (fl : Fl) (ρ' : Rho) (hp' : Hd) (Dn : Ends) : Prop := match fl with
  | .nx => ∀ σ' H' ad', Ex E H H' → ad <+: ad' → St1 E ρ' hp' ad' σ' H' → Dn.nx σ' H'
  | .bk => ∀ σ' H' ad', Ex E H H' → ad <+: ad' → St1 E ρ' hp' ad' σ' H' → Dn.bk σ' H'
  | .ct => ∀ σ' H' ad', Ex E H H' → ad <+: ad' → St1 E ρ' hp' ad' σ' H' → Dn.ct σ' H'
  | .rt d => PostE E ad H d hp' Dn.rt
def rS (E : En) (m : S) : TS := fun Dn σ H => ∃ ρ hp ad fl ρ' hp', St1 E ρ hp ad σ H ∧ m ρ hp = some (fl, ρ', hp') ∧ PostS E ad H fl ρ' hp' Dn
section
variable {E : En} {ad ad' : List Addr} {H H' : Hp} {ρ ρ' : Rho} {σ : L2.St} {hp hp' : Hd} {fl : Fl} {Dn : Ends}
theorem PostS.next (h : PostS E ad H fl ρ' hp' Dn) (x : Ex E H H') (q : ad <+: ad') : PostS E ad' H' fl ρ' hp' Dn := by
  cases fl with
  | nx => exact fun σ' H2 a2 x2 q2 r2 => h σ' H2 a2 (x.trans x2) (q.trans q2) r2
  | bk => exact fun σ' H2 a2 x2 q2 r2 => h σ' H2 a2 (x.trans x2) (q.trans q2) r2
  | ct => exact fun σ' H2 a2 x2 q2 r2 => h σ' H2 a2 (x.trans x2) (q.trans q2) r2
  | rt d => exact PostE.next h x q
theorem St0.set {d : D} {v : V} {i : Nat} (h : St1 E ρ hp ad σ H) (hi : i < ρ.length) (k : RD E ad H d v) : St1 E (ρ.set i (some d)) hp ad (σ.set i (some v)) H := by
  refine ⟨fun j d' e => ?_, h.h, by simp [h.len]⟩
  by_cases hj : j = i
  · subst hj
    rw [List.getElem?_set_self hi] at e
    cases e
    exact ⟨v, by rw [List.getElem?_set_self (by rw [← h.len]; exact hi)], k⟩
  · rw [List.getElem?_set_ne (Ne.symm hj)] at e
    obtain ⟨w, e1, r⟩ := h.s j d' e
    exact ⟨w, by rw [List.getElem?_set_ne (Ne.symm hj)]; exact e1, r⟩
end

def sNil : S := fun ρ hp => some (.nx, ρ, hp)
def sSeq (m n : S) : S := fun ρ hp => match m ρ hp with
  | some (.nx, ρ1, h1) => n ρ1 h1
  | r => r
def sNone : S := fun _ _ => none
def sBrk : S := fun ρ hp => some (.bk, ρ, hp)
def sCnt : S := fun ρ hp => some (.ct, ρ, hp)
def sRet (m : M D) : S := fun ρ hp => match m ρ hp with
  | some (d, h) => some (.rt d, ρ, h)
  | none => none
def sExp (m : M D) : S := fun ρ hp => match m ρ hp with
  | some (_, h) => some (.nx, ρ, h)
  | none => none
def sIf (t : M Bool) (m n : S) : S := fun ρ hp => match t ρ hp with
  | some (true, h) => m ρ h
  | some (false, h) => n ρ h
  | none => none
def putR (i : Nat) (d : D) (ρ : Rho) (hp : Hd) : Option (Rho × Hd) := if i < ρ.length then some (ρ.set i (some d), hp) else none
/-- target = value -/
abbrev G := D → Rho → Hd → Option (Rho × Hd)
def sAsg (m : M D) (g : G) : S := fun ρ hp => match m ρ hp with
  | some (d, h) => (match g d ρ h with
    | some (ρ', h') => some (.nx, ρ', h')
    | none => none)
  | none => none
def gName (i : Nat) : G := fun d ρ hp => putR i d ρ hp
def rG (E : En) (g : G) : TG := fun v σ H Q => ∃ ρ hp ad d ρ' hp', St1 E ρ hp ad σ H ∧ RD E ad H d v ∧ g d ρ hp = some (ρ', hp') ∧ ∀ σ' H' ad', Ex E H H' → ad <+: ad' → St1 E ρ' hp' ad' σ' H' → Q σ' H'
abbrev Gs := List D → Rho → Hd → Option (Rho × Hd)
def rGs (E : En) (g : Gs) : TGs := fun vs σ H Q => ∃ ρ hp ad ds ρ' hp', St1 E ρ hp ad σ H ∧ RDs E ad H ds vs ∧ g ds ρ hp = some (ρ', hp') ∧ ∀ σ' H' ad', Ex E H H' → ad <+: ad' → St1 E ρ' hp' ad' σ' H' → Q σ' H'
def gNil : Gs := fun ds ρ hp => match ds with
  | [] => some (ρ, hp)
  | _ => none
def gCons (g : G) (r : Gs) : Gs := fun ds ρ hp => match ds with
  | d :: ds => (match g d ρ hp with
    | some (ρ1, h1) => r ds ρ1 h1
    | none => none)
  | _ => none
def gTup (n : Nat) (g : Gs) : G := fun d ρ hp => match d with
  | .tup ds => if ds.length = n then g ds ρ hp else none
  | _ => none
section
variable {X : Cx} {st : Stmt} {rest : List Stmt} {m n : S} {e a b : Expr} {me ma mb : M D} {mt : M Bool} {pos : Pos}
theorem ls_nil : PSs X [] (rS (en X) sNil) := PSs.mono pss_nil fun Dn σ H h => by
  obtain ⟨ρ, hp, ad, fl, ρ', hp', st, e, q⟩ := h
  cases e
  exact q σ H ad .refl (List.prefix_refl _) st
theorem ls_cons (h1 : PS X st (rS (en X) m)) (h2 : PSs X rest (rS (en X) n)) : PSs X (st :: rest) (rS (en X) (sSeq m n)) := PSs.mono (pss_cons h1 h2) fun Dn σ H h => by
  obtain ⟨ρ, hp, ad, fl, ρ', hp', st, e, q⟩ := h
  unfold sSeq at e
  split at e
  · rename_i ρ1 h1 e1
    exact ⟨ρ, hp, ad, .nx, ρ1, h1, st, e1, fun σ' H' ad' x p s1 => ⟨ρ1, h1, ad', fl, ρ', hp', s1, e, q.next x p⟩⟩
  · rename_i hne
    refine ⟨ρ, hp, ad, fl, ρ', hp', st, e, ?_⟩
    cases fl with
    | nx => exact absurd e (hne ρ' hp')
    | bk => exact q
    | ct => exact q
    | rt d => exact q
theorem ls_one (h1 : PS X st (rS (en X) m)) : PSs X [st] (rS (en X) m) := pss_one h1
theorem ls_pass : PS X (.Pass pos) (rS (en X) sNil) := PS.mono ps_pass fun Dn σ H h => by
  obtain ⟨ρ, hp, ad, fl, ρ', hp', st, e, q⟩ := h
  cases e
  exact q σ H ad .refl (List.prefix_refl _) st
theorem ls_brk : PS X (.Break pos) (rS (en X) sBrk) := PS.mono ps_break fun Dn σ H h => by
  obtain ⟨ρ, hp, ad, fl, ρ', hp', st, e, q⟩ := h
  cases e
  exact q σ H ad .refl (List.prefix_refl _) st
theorem ls_cnt : PS X (.Continue pos) (rS (en X) sCnt) := PS.mono ps_continue fun Dn σ H h => by
  obtain ⟨ρ, hp, ad, fl, ρ', hp', st, e, q⟩ := h
  cases e
  exact q σ H ad .refl (List.prefix_refl _) st
/-- what is not served -/
theorem ls_none : PS X st (rS (en X) sNone) := PS.mono ps_never fun Dn σ H h => by
  obtain ⟨ρ, hp, ad, fl, ρ', hp', st, e, q⟩ := h
  cases e
theorem le_none : PE X e (rE (en X) fun _ _ => none) := ⟨fun pins s σ H Q I h => by
  obtain ⟨ρ, hp, ad, d, hp', st, e, q⟩ := h
  cases e⟩
theorem ls_ret (he : PE X e (rE (en X) me)) : PS X (.Return (some e) pos) (rS (en X) (sRet me)) := PS.mono (ps_ret he) fun Dn σ H h => by
  obtain ⟨ρ, hp, ad, fl, ρ', hp', st, e, q⟩ := h
  unfold sRet at e
  split at e
  · rename_i d h1 e1
    cases e
    exact ⟨ρ, hp, ad, d, _, st.toSt0, e1, q⟩
  · cases e
theorem ls_retN : PS X (.Return none pos) (rS (en X) (sRet (pur .non))) := PS.mono ps_retN fun Dn σ H h => by
  obtain ⟨ρ, hp, ad, fl, ρ', hp', st, e, q⟩ := h
  cases e
  exact q.here st.h (by rw [RD])
theorem ls_exp (he : PE X e (rE (en X) me)) (hs : swapsWith e none pos.line X.env = pure false := by rfl) : PS X (.Expr e pos) (rS (en X) (sExp me)) := PS.mono (ps_expr he hs) fun Dn σ H h => by
  obtain ⟨ρ, hp, ad, fl, ρ', hp', st, e, q⟩ := h
  unfold sExp at e
  split at e
  · rename_i d h1 e1
    cases e
    exact ⟨ρ, hp, ad, d, _, st.toSt0, e1, fun v H' ad' x p r k => q σ H' ad' x p (st.next x p r)⟩
  · cases e
theorem ls_if {ca cb : List Stmt} {c : Expr} (hc : PT X c (rT (en X) mt)) (ha : PSs X ca (rS (en X) m)) (hb : PSs X cb (rS (en X) n)) : PS X (.If c ca cb pos) (rS (en X) (sIf mt m n)) := PS.mono (ps_if hc ha hb) fun Dn σ H h => by
  obtain ⟨ρ, hp, ad, fl, ρ', hp', st, e, q⟩ := h
  unfold sIf at e
  split at e
  · rename_i h1 e1
    exact ⟨ρ, hp, ad, true, h1, st.toSt0, e1, fun H' ad' x p r => iteT ⟨ρ, h1, ad', fl, ρ', hp', st.next x p r, e, q.next x p⟩⟩
  · rename_i h1 e1
    exact ⟨ρ, hp, ad, false, h1, st.toSt0, e1, fun H' ad' x p r => iteF ⟨ρ, h1, ad', fl, ρ', hp', st.next x p r, e, q.next x p⟩⟩
  · cases e
theorem rG_name {E : En} {i : Nat} {v : V} {σ : L2.St} {H : Hp} {Q : L2.St → Hp → Prop} (h : rG E (gName i) v σ H Q) : L2.gName i v σ H Q := by
  obtain ⟨ρ, hp, ad, d, ρ', hp', st, k, e, q⟩ := h
  unfold gName putR at e
  split at e
  · rename_i hi
    cases e
    exact q _ H ad .refl (List.prefix_refl _) (st.set hi k)
  · cases e
theorem PG.mono {tg : Expr} {t t' : TG} (h : PG X tg t) (k : ∀ v σ H Q, t' v σ H Q → t v σ H Q) : PG X tg t' := ⟨fun pins s σ H v u Q I r q => h.run pins s σ H v u Q I r (k _ _ _ _ q)⟩
theorem PGs.mono {tg : List Expr} {t t' : TGs} (h : PGs X tg t) (k : ∀ v σ H Q, t' v σ H Q → t v σ H Q) : PGs X tg t' := ⟨fun pins s σ H v u Q I r q => h.run pins s σ H v u Q I r (k _ _ _ _ q)⟩
theorem lg_name {i : Nat} {x : Str} (hN : X.N.Nodup) (hi : X.N[i]? = some x) (hx : Loc X.env.scope x) (hf : X.fn x = true ∨ X.env.scope.names.lookup x = some .local := by first | exact .inl rfl | exact .inr rfl | assumption) : PG X (.Name x pos) (rG (en X) (gName i)) :=
  PG.mono (pg_name hN hi hx hf) fun _ _ _ _ h => rG_name h
theorem lgs_nil : PGs X [] (rGs (en X) gNil) := PGs.mono pgs_nil fun vs σ H Q h => by
  obtain ⟨ρ, hp, ad, ds, ρ', hp', st, k, e, q⟩ := h
  cases ds with
  | nil =>
    cases e
    rw [RDs] at k
    exact ⟨k, q σ H ad .refl (List.prefix_refl _) st⟩
  | cons d ds => cases e
theorem lgs_cons {es : List Expr} {g : G} {r : Gs} (h1 : PG X e (rG (en X) g)) (h2 : PGs X es (rGs (en X) r)) (hs : (assignEach (e :: es) X.env).map (·.2) = assign e X.env :: (assignEach es X.env).map (·.2) := by rfl) : PGs X (e :: es) (rGs (en X) (gCons g r)) :=
  PGs.mono (pgs_cons h1 h2 hs) fun vs σ H Q h => by
    obtain ⟨ρ, hp, ad, ds, ρ', hp', st, k, e, q⟩ := h
    cases ds with
    | nil => cases e
    | cons d ds =>
      rw [RDs] at k
      obtain ⟨v, r, ev, k1, k2⟩ := k
      simp only [gCons] at e
      split at e
      · rename_i ρ1 h1 e1
        exact ⟨v, r, ev, ρ, hp, ad, d, ρ1, h1, st, k1, e1, fun σ' H' ad' x p s1 => ⟨ρ1, h1, ad', ds, ρ', hp', s1, k2.mono x p, e, fun σ2 H2 a2 x2 p2 s2 => q σ2 H2 a2 (x.trans x2) (p.trans p2) s2⟩⟩
      · cases e
theorem lg_tup {es : List Expr} {k n : Nat} {g : Gs} (hc : X.calm = true) (h : PGs X es (rGs (en X) g)) (hn : (assignEach es X.env).length = n := by rfl) (hst : (assignEach es X.env).findIdx? (·.1) = none := by rfl) : PG X (.Tuple es k pos) (rG (en X) (gTup n g)) :=
  PG.mono (pg_tup hc h hn hst) fun v σ H Q h => by
    obtain ⟨ρ, hp, ad, d, ρ', hp', st, k, e, q⟩ := h
    unfold gTup at e
    split at e
    · rename_i ds
      split at e
      · rename_i hl
        rw [RD] at k
        obtain ⟨a, vs, ev, sq, ks⟩ := k
        exact ⟨a, vs, ev, sq, by rw [← ks.length]; exact hl, ρ, hp, ad, ds, ρ', hp', st, ks, e, q⟩
      · cases e
    · cases e
theorem rS_asg {E : En} {g : G} {Dn : Ends} {σ : L2.St} {H : Hp} (h : rS E (sAsg me g) Dn σ H) : tAsg (rE E me) (rG E g) Dn σ H := by
  obtain ⟨ρ, hp, ad, fl, ρ', hp', st, e, q⟩ := h
  unfold sAsg at e
  split at e
  · rename_i d h1 e1
    split at e
    · rename_i ρ2 h2 e2
      cases e
      exact ⟨ρ, hp, ad, d, h1, st.toSt0, e1, fun v H' ad' x p r k => ⟨ρ, h1, ad', d, ρ', hp', st.next x p r, k, e2, fun σ2 H2 a2 x2 p2 s2 => q σ2 H2 a2 (x.trans x2) (p.trans p2) s2⟩⟩
    · cases e
  · cases e
theorem ls_asg {tg : Expr} {g : G} (he : PE X e (rE (en X) me)) (hg : PG X tg (rG (en X) g)) (hs : swapsWithSole [tg] e pos.line X.env = pure false := by rfl) (hw : swappedStores [tg] e X.env = pure none := by rfl)
    (h1 : (assignEach [tg] X.env).map (·.2) = [assign tg X.env] := by rfl) : PS X (.Assign [tg] e pos) (rS (en X) (sAsg me g)) := PS.mono (ps_asg he hg hs hw h1) fun _ _ _ h => rS_asg h
theorem ls_set {i : Nat} {x : Str} {pos' : Pos} (hN : X.N.Nodup) (hi : X.N[i]? = some x) (hx : Loc X.env.scope x) (he : PE X e (rE (en X) me)) (hs : swapsWith e (some (.Name x pos')) pos.line X.env = pure false := by rfl) (hf : X.fn x = true ∨ X.env.scope.names.lookup x = some .local := by first | exact .inl rfl | exact .inr rfl | assumption) :
    PS X (.Assign [.Name x pos'] e pos) (rS (en X) (sAsg me (gName i))) := PS.mono (ps_set hN hi hx he hs hf) fun Dn σ H h => by
  have h1 := rS_asg h
  obtain ⟨ρ, hp, ad, d, hp', st, e, q⟩ := h1
  exact ⟨ρ, hp, ad, d, hp', st, e, fun v H' ad' x p r k => rG_name (q v H' ad' x p r k)⟩
/-- a, b = x, y (two plain locals) -/
def sPar (i j : Nat) (ms : M (List D)) : S := fun ρ hp => match ms ρ hp with
  | some ([x, y], h) => if i < ρ.length ∧ j < ρ.length then some (.nx, (ρ.set i (some x)).set j (some y), h) else none
  | _ => none
theorem ls_par {i j : Nat} {x y : Str} {ms : M (List D)} {px py pt : Pos} {kt k2 pt2} (hc : X.calm = true) (hN : X.N.Nodup) (hi : X.N[i]? = some x) (hj : X.N[j]? = some y) (hij : i ≠ j)
    (hx : X.env.scope.names.lookup x = some .local) (hy : X.env.scope.names.lookup y = some .local) (ha : PA X [a, b] (rA (en X) ms))
    (hw : swappedStores [.Tuple [.Name x px, .Name y py] kt pt] (.Tuple [a, b] k2 pt2) X.env = pure (some [x, y]))
    (hs : swapsWithSole [.Tuple [.Name x px, .Name y py] kt pt] (.Tuple [a, b] k2 pt2) pos.line X.env = pure false := by rfl) :
    PS X (.Assign [.Tuple [.Name x px, .Name y py] kt pt] (.Tuple [a, b] k2 pt2) pos) (rS (en X) (sPar i j ms)) := PS.mono (ps_par hc hN hi hj hij hx hy ha hw hs) fun Dn σ H h => by
  obtain ⟨ρ, hp, ad, fl, ρ', hp', st, e, q⟩ := h
  unfold sPar at e
  split at e
  · rename_i d1 d2 h1 e1
    split at e
    · rename_i hl
      cases e
      refine ⟨ρ, hp, ad, [d1, d2], _, st.toSt0, e1, fun vs H' ad' x p r k => ?_⟩
      rw [RDs] at k
      obtain ⟨v1, r1, e2, k1, k⟩ := k
      rw [RDs] at k
      obtain ⟨v2, r2, e3, k2, k⟩ := k
      rw [RDs] at k
      subst e2 e3 k
      exact ⟨v1, v2, rfl, q _ H' ad' x p (((st.next x p r).set hl.1 k1).set (by simpa using hl.2) k2)⟩
    · cases e
  · cases e
/-- x op= e -/
def sAug (i : Nat) (f : D → D → Hd → Option (D × Hd)) (m : M D) : S := sAsg (mB f (mVar i) m) (gName i)
theorem ls_aug {i : Nat} {x : Str} {op : Operator} {f : D → D → Hd → Option (D × Hd)} {pos' : Pos} (hN : X.N.Nodup) (hi : X.N[i]? = some x) (hx : Loc X.env.scope x) (he : PE X e (rE (en X) me)) (ho : OpR X (inplaceOp op) (rB (en X) f)) (hf : X.fn x = true ∨ X.env.scope.names.lookup x = some .local := by first | exact .inl rfl | exact .inr rfl | assumption) :
    PS X (.AugAssign (.Name x pos') op e pos) (rS (en X) (sAug i f me)) := PS.mono (ps_aug hN hi hx he (ti := rB (en X) f) (fun pins s σ H x y v u Q I r1 r2 h => ho pins s σ H x y v u Q I r1 r2 h) hf) fun Dn σ H h => by
  obtain ⟨ρ, hp, ad, d, hp', st, e, q⟩ := rS_asg h
  obtain ⟨d1, h1, e1, e2⟩ := bnd_inv e
  obtain ⟨d2, h2, e3, e4⟩ := bnd_inv e2
  unfold mVar at e1
  split at e1
  · rename_i d' e5
    cases e1
    obtain ⟨v, e6, r⟩ := st.s i d1 e5
    refine ⟨v, e6, ρ, hp, ad, d2, h2, st, e3, fun w H' ad' x p r' k => ?_⟩
    exact ⟨ad', h2, d1, d2, d, hp', r', r.mono x p, k, e4, fun z H2 a2 x2 p2 r2 k2 => rG_name (q z H2 a2 (x.trans x2) (p.trans p2) r2 k2)⟩
  · cases e1

def sWhile (t : M Bool) (b : S) : Nat → S
  | 0 => sNone
  | n + 1 => fun ρ hp => match t ρ hp with
    | some (true, h1) => (match b ρ h1 with
      | some (.nx, ρ2, h2) => sWhile t b n ρ2 h2
      | some (.ct, ρ2, h2) => sWhile t b n ρ2 h2
      | some (.bk, ρ2, h2) => some (.nx, ρ2, h2)
      | r => r)
    | some (false, h1) => some (.nx, ρ, h1)
    | none => none
theorem ls_while {c : Expr} {body : List Stmt} {N : Nat} (hp : PassesOwn (model X.prog X.w) X.A X.env X.xe) (hc : PT X c (rT (en X) mt)) (hb : PSs X body (rS (en X) m)) : PS X (.While c body [] pos) (rS (en X) (sWhile mt m N)) := PS.mono (ps_while hp hc hb) fun Dn σ H h => by
  obtain ⟨ρ, hp, ad, fl, ρ', hp', st, e, q⟩ := h
  refine ⟨fun n σ1 H1 => ∃ ρ1 h1 a1, Ex (en X) H H1 ∧ ad <+: a1 ∧ St1 (en X) ρ1 h1 a1 σ1 H1 ∧ sWhile mt m n ρ1 h1 = some (fl, ρ', hp'), ⟨N, ρ, hp, ad, .refl, List.prefix_refl _, st, e⟩, ?_⟩
  rintro n σ1 H1 ⟨ρ1, h1, a1, x1, p1, s1, e1⟩
  have q1 := q.next x1 p1
  cases n with
  | zero => cases e1
  | succ n =>
    rw [sWhile] at e1
    dsimp only at e1
    split at e1
    · rename_i h2 e2
      refine ⟨ρ1, h1, a1, true, h2, s1.toSt0, e2, fun H2 a2 x2 p2 r2 => ?_⟩
      refine iteT ?_
      refine ⟨fun σ' H' => ∃ ρ1 h1 a1, Ex (en X) H H1 ∧ Ex (en X) H1 H' ∧ ad <+: a1 ∧ St1 (en X) ρ1 h1 a1 σ' H' ∧ sWhile mt m n ρ1 h1 = some (fl, ρ', hp'), fun σ' H' ⟨ρ3, h3, a3, x3, x4, p3, s3, e3⟩ => ⟨n, Nat.lt_succ_self n, ρ3, h3, a3, x3.trans x4, p3, s3, e3⟩, ?_⟩
      split at e1
      · rename_i ρ3 h3 e3
        exact ⟨ρ1, h2, a2, .nx, ρ3, h3, s1.next x2 p2 r2, e3, fun σ' H' ad' x p s3 => ⟨ρ3, h3, ad', x1, x2.trans x, (p1.trans p2).trans p, s3, e1⟩⟩
      · rename_i ρ3 h3 e3
        exact ⟨ρ1, h2, a2, .ct, ρ3, h3, s1.next x2 p2 r2, e3, fun σ' H' ad' x p s3 => ⟨ρ3, h3, ad', x1, x2.trans x, (p1.trans p2).trans p, s3, e1⟩⟩
      · rename_i ρ3 h3 e3
        cases e1
        exact ⟨ρ1, h2, a2, .bk, ρ', hp', s1.next x2 p2 r2, e3, fun σ' H' ad' x p s3 => q1 σ' H' ad' (x2.trans x) (p2.trans p) s3⟩
      · rename_i z1 z2 z3
        refine ⟨ρ1, h2, a2, fl, ρ', hp', s1.next x2 p2 r2, e1, ?_⟩
        cases fl with
        | nx => exact absurd e1 (z1 _ _)
        | ct => exact absurd e1 (z2 _ _)
        | bk => exact absurd e1 (z3 _ _)
        | rt d => exact PostE.next q1 x2 p2
    · rename_i h2 e2
      cases e1
      refine ⟨ρ', h1, a1, false, hp', s1.toSt0, e2, fun H2 a2 x2 p2 r2 => ?_⟩
      refine iteF ?_
      exact q1 σ1 H2 a2 x2 p2 (s1.next x2 p2 r2)
    · cases e1
end

/-- a fixed row of values; a list as it stands at each turn; a dict's keys, values, pairs -/
inductive Src where
  | seq (ds : List D) | lst (n : Nat) | key (n : Nat) | val (n : Nat) | itm (n : Nat)
  | enm (ds : List D) | enl (n : Nat)
/-- the list, locked or not -/
def lstOf (hp : Hd) (n : Nat) : Option (List D) := match hp.get n with
  | some (.lst ds) => some ds
  | some (.lk (.lst ds)) => some ds
  | _ => none
def dicOf (hp : Hd) (n : Nat) : Option (List (D × D)) := match hp.get n with
  | some (.dic ds) => some ds
  | some (.lk (.dic ds)) => some ds
  | _ => none
/-- at turn i: none: not served; some none: the end -/
def nextD (s : Src) (i : Nat) (hp : Hd) : Option (Option D) := match s with
  | .seq ds => some ds[i]?
  | .lst n => (lstOf hp n).map fun ds => ds[i]?
  | .key n => (dicOf hp n).map fun ds => ds[i]?.map (·.1)
  | .val n => (dicOf hp n).map fun ds => ds[i]?.map (·.2)
  | .itm n => (dicOf hp n).map fun ds => ds[i]?.map fun p => .tup [p.1, p.2]
  | .enm ds => some (ds[i]?.map fun d => .tup [.int i, d])
  | .enl n => (lstOf hp n).map fun ds => ds[i]?.map fun d => .tup [.int i, d]
/-- J walks s -/
def JR (E : En) (ad : List Addr) (H : Hp) (s : Src) (J : It) : Prop := ∀ (i : Nat) (H1 : Hp) (ad1 : List Addr) (hp1 : Hd), Ex E H H1 → ad <+: ad1 → HR E ad1 H1 hp1 →
  (∀ d, nextD s i hp1 = some (some d) → J.go i H1 ∧ ∀ x H2, J.yld i H1 x H2 → Ex E H1 H2 ∧ HR E ad1 H2 hp1 ∧ RD E ad1 H2 d x) ∧ (nextD s i hp1 = some none → J.stop i H1)
/-- what is locked for the walk, and is let go behind it -/
def unl (u : Option Nat) (hp : Hd) : Option Hd := match u with
  | none => some hp
  | some n => (match hp.get n with
    | some (.lk (.dic kvs)) => some (hp.set n (.dic kvs))
    | _ => none)
/-- the lock is a new one: at the outset the thing was not there, or was not locked -/
theorem St1_eq : @St1 = @St0 := rfl
def LkC (H : Hp) (ad : List Addr) (u : Option Nat) : Prop := ∀ n, u = some n → ∃ a, ad[n]? = some a ∧ ∀ o w, H a ≠ some (.frz o w)
theorem LkC.mono {H : Hp} {ad ad' : List Addr} {u : Option Nat} (h : LkC H ad u) (p : ad <+: ad') : LkC H ad' u := fun n e => by
  obtain ⟨a, ha, c⟩ := h n e
  obtain ⟨t, rfl⟩ := p
  exact ⟨a, by rw [List.getElem?_append_left (List.getElem?_eq_some_iff.mp ha).1]; exact ha, c⟩
def rI (E : En) (m : M (Src × Option Nat)) : TI := fun σ H R => ∃ ρ hp ad s u hp', St0 E ρ hp ad σ H ∧ m ρ hp = some ((s, u), hp') ∧ ∀ J H' ad', Ex E H H' → ad <+: ad' → HR E ad' H' hp' → JR E ad' H' s J → LkC H ad' u → R J H'
theorem PI.mono {X : Cx} {tg iter : Expr} {t t' : TI} (h : PI X tg iter t) (k : ∀ σ H R, t' σ H R → t σ H R) : PI X tg iter t' := ⟨fun pins s σ H R I q => h.run pins s σ H R I (k _ _ _ q)⟩
/-- letting go -/
def UL (H H' : Hp) (P : Hp → Prop) : Prop := P H' ∨ ∃ d od u, (∀ o w, H d ≠ some (.frz o w)) ∧ H' d = some (.frz od u) ∧ P (upd H' d u)
theorem Inv.ul {X : Cx} {pins pins' : List (Addr × Obj)} {σ σ' : L2.St} {H H' : Hp} {s s' : Shared} {P : Hp → Prop} (I : Inv X pins σ H s) (I' : Inv X pins' σ' H' s') (h : UL H H' P) : ∃ H2, Inv X pins' σ' H2 s' ∧ P H2 := by
  rcases h with h | ⟨d, od, u, c, e, h⟩
  · exact ⟨H', I', h⟩
  · refine ⟨_, I'.unlock e (fun o' u' z => ?_), h⟩
    exact c o' u' (I.base.frzs d o' u' z)
theorem ps_unl {X : Cx} {st : Stmt} {t : TS} (h : PS X st t) : PS X st (fun D σ H => t ⟨fun σ' H' => UL H H' (D.nx σ'), fun v H' => UL H H' (D.rt v), fun σ' H' => UL H H' (D.bk σ'), fun σ' H' => UL H H' (D.ct σ')⟩ σ H) := by
  refine ⟨fun pins s σ H D I hw => ?_⟩
  refine thn (h.run pins s σ H _ I hw) fun f s1 q => ?_
  cases f with
  | next => obtain ⟨σ', H', I2, q⟩ := q; obtain ⟨H2, I3, q⟩ := Inv.ul I I2 q; exact ⟨σ', H2, I3, q⟩
  | brk => obtain ⟨σ', H', I2, q⟩ := q; obtain ⟨H2, I3, q⟩ := Inv.ul I I2 q; exact ⟨σ', H2, I3, q⟩
  | cont => obtain ⟨σ', H', I2, q⟩ := q; obtain ⟨H2, I3, q⟩ := Inv.ul I I2 q; exact ⟨σ', H2, I3, q⟩
  | ret v => obtain ⟨x, σ', H', I2, r, q⟩ := q; obtain ⟨H2, I3, q⟩ := Inv.ul I I2 q; exact ⟨x, σ', H2, I3, r, q⟩
theorem pe_unl {X : Cx} {e : Expr} {t : TE} (h : PE X e t) : PE X e (fun σ H Q => t σ H fun v H' => UL H H' (Q v)) := by
  refine ⟨fun pins s σ H Q I hw => ?_⟩
  refine thn (h.run pins s σ H _ I hw) fun v s1 ⟨x, H1, I2, r, q⟩ => ?_
  obtain ⟨H2, I3, q⟩ := Inv.ul I I2 q
  exact ⟨x, H2, I3, r, q⟩
/-- behind the walk -/
theorem HR.unl {E : En} {ad ad' : List Addr} {H H' : Hp} {hp hp' : Hd} {u : Option Nat} {P : Hp → Prop} (hr : HR E ad' H' hp) (x : Ex E H H') (lc : LkC H ad u) (pr : ad <+: ad') (e : unl u hp = some hp') (k : ∀ H2, Ex E H H2 → HR E ad' H2 hp' → (∀ d v, RD E ad' H' d v → RD E ad' H2 d v) → P H2) : UL H H' P := by
  unfold DL.unl at e
  split at e
  · cases e
    exact .inl (k H' x hr fun _ _ h => h)
  · rename_i n
    split at e
    · rename_i kvs e1
      cases e
      generalize ho : O.dic kvs = o at e1
      obtain ⟨a, ha, c⟩ := lc n rfl
      have ha' : ad'[n]? = some a := by
        obtain ⟨t, rfl⟩ := pr
        rw [List.getElem?_append_left (List.getElem?_eq_some_iff.mp ha).1]; exact ha
      obtain ⟨ob, w, e2, hi⟩ := hr.at_ ha' e1
      refine .inr ⟨a, ob, w, c, e2, ?_⟩
      have mw := hi.mut
      have nt : ∀ b z, H' b = some z → (∀ o' u', z ≠ .frz o' u') → b ≠ a := fun b z q hne y => by
        subst y; rw [e2] at q; cases q; exact hne _ _ rfl
      have ndl : ∀ xs, w ≠ .lst xs := fun xs z => by
        rw [← ho] at hi
        obtain ⟨vs, e3, _⟩ := hi
        rw [e3] at z
        unfold DcO at z
        cases z
      have kls : ∀ b xs, SqK E.K H' b xs → SqK E.K (upd H' a w) b xs := fun b xs q => by
        rcases q with ⟨y, q⟩ | q
        · by_cases hb : b = a
          · subst hb
            rw [e2] at q
            cases q
            exact (ndl _ rfl).elim
          · exact .inl ⟨y, by rw [upd_ne hb]; exact q⟩
        · exact .inr q
      have tups0 : ∀ b xs, SqT E.K H' b xs → SqT E.K (upd H' a w) b xs := fun b xs q => by
        rcases q with (q | ⟨y, q⟩) | q
        · exact .inl (.inl (by rw [upd_ne (nt b _ q fun _ _ z => nomatch z)]; exact q))
        · by_cases hb : b = a
          · subst hb
            rw [e2] at q
            cases q
            exact mw.elim
          · exact .inl (.inr ⟨y, by rw [upd_ne hb]; exact q⟩)
        · exact .inr q
      have tups := And.intro tups0 kls
      have rd : ∀ d v, RD E ad' H' d v → RD E ad' (upd H' a w) d v := fun d v => RD.tups tups
      refine k _ ⟨fun b xs q => tups.1 b xs (x.tup b xs q), fun b y z q => ?_⟩ ?_ rd
      · rw [upd_ne (fun h => ?_)]
        · exact x.frz b y z q
        · subst h
          exact c y z q
      · refine ⟨hr.len, hr.nd, fun j c' ej => ?_, hr.tab.set (List.mem_of_getElem? ha') e2 fun ps z => nomatch z⟩
        by_cases hj : j = n
        · subst hj
          rw [ha'] at ej
          cases ej
          refine ⟨o, by rw [ho]; exact Hd.get_set_same _ _ _, ?_⟩
          have hi' : HI E ad' (upd H' a w) a o w := HI.tups hi tups fun c'' o2 sd q => by rw [upd_ne (nt c'' _ q fun _ _ z => by rw [z] at sd; rcases sd with y | y <;> cases y)]; exact q
          cases o with
          | lk o => exact hi.elim
          | lst _ => exact ⟨w, upd_same, hi'⟩
          | dic _ => exact ⟨w, upd_same, hi'⟩
          | ins _ _ => exact ⟨w, upd_same, hi'⟩
          | slt _ _ => exact ⟨w, upd_same, hi'⟩
        · obtain ⟨o', e3, r3⟩ := hr.ob j c' ej
          have ne : c' ≠ a := fun z => by
            subst z
            have h1 := List.getElem?_eq_some_iff.mp ha'
            have h2 := List.getElem?_eq_some_iff.mp ej
            exact hj ((List.getElem_inj hr.nd).mp (h2.2.trans h1.2.symm))
          exact ⟨o', by rw [Hd.get_set_ne _ _ hj]; exact e3, OR.tups r3 tups (upd_ne ne) fun c'' o2 sd q => by rw [upd_ne (nt c'' _ q fun _ _ z => by rw [z] at sd; rcases sd with y | y <;> cases y)]; exact q⟩
    · cases e
def sFor (s : Src) (g : G) (b : S) : Nat → Nat → S
  | 0, _ => sNone
  | n + 1, i => fun ρ hp => match nextD s i hp with
    | some (some d) => (match g d ρ hp with
      | some (ρ1, h1) => (match b ρ1 h1 with
        | some (.nx, ρ2, h2) => sFor s g b n (i + 1) ρ2 h2
        | some (.ct, ρ2, h2) => sFor s g b n (i + 1) ρ2 h2
        | some (.bk, ρ2, h2) => some (.nx, ρ2, h2)
        | r => r)
      | none => none)
    | some none => some (.nx, ρ, hp)
    | none => none
def sFr (N : Nat) (m : M (Src × Option Nat)) (g : G) (b : S) : S := fun ρ hp => match m ρ hp with
  | some ((s, u), h) => (match sFor s g b N 0 ρ h with
    | some (fl, ρ', h') => (match unl u h' with
      | some h'' => some (fl, ρ', h'')
      | none => none)
    | none => none)
  | none => none
section
variable {X : Cx} {m : S} {tg iter : Expr} {mi : M (Src × Option Nat)} {g : G} {pos : Pos}
theorem ls_for {body : List Stmt} {N : Nat} (hp : PassesOwn (model X.prog X.w) X.A X.env X.xe) (hc : X.calm = true) (hi : PI X tg iter (rI (en X) mi)) (hg : PG X tg (rG (en X) g)) (hb : PSs X body (rS (en X) m))
    (hs : ∀ x, foldedSetIterable iter X.env x = pure x := by intro _; rfl) : PS X (.For tg iter body [] pos) (rS (en X) (sFr N mi g m)) := PS.mono (ps_unl (ps_for hp hc hi hg hb hs)) fun Dn σ H h => by
  obtain ⟨ρ, hp, ad, fl, ρ', hp', st, e, q⟩ := h
  unfold sFr at e
  split at e
  case h_2 => cases e
  rename_i s u h0 e0
  split at e
  case h_2 => cases e
  rename_i fl2 ρ2 h2 e2
  split at e
  case h_2 => cases e
  rename_i h3 e3
  cases e
  refine ⟨ρ, hp, ad, s, u, h0, st.toSt0, e0, fun J H0 a0 x0 p0 r0 jr lc => ?_⟩
  -- the end, with the lock let go
  have fin : PostS (en X) a0 H0 fl ρ' h2 ⟨fun σ' H' => UL H H' (Dn.nx σ'), fun v H' => UL H H' (Dn.rt v), fun σ' H' => UL H H' (Dn.bk σ'), fun σ' H' => UL H H' (Dn.ct σ')⟩ := by
    cases fl with
    | nx => exact fun σ' H' a' x p s1 => HR.unl s1.h (x0.trans x) lc p e3 fun H2 x2 r2 rd => q σ' H2 a' x2 (p0.trans p) ⟨fun i d e => let ⟨v, e1, k⟩ := s1.s i d e; ⟨v, e1, rd d v k⟩, r2, s1.len⟩
    | bk => exact fun σ' H' a' x p s1 => HR.unl s1.h (x0.trans x) lc p e3 fun H2 x2 r2 rd => q σ' H2 a' x2 (p0.trans p) ⟨fun i d e => let ⟨v, e1, k⟩ := s1.s i d e; ⟨v, e1, rd d v k⟩, r2, s1.len⟩
    | ct => exact fun σ' H' a' x p s1 => HR.unl s1.h (x0.trans x) lc p e3 fun H2 x2 r2 rd => q σ' H2 a' x2 (p0.trans p) ⟨fun i d e => let ⟨v, e1, k⟩ := s1.s i d e; ⟨v, e1, rd d v k⟩, r2, s1.len⟩
    | rt d => exact fun v H' a' x p r1 k => HR.unl r1 (x0.trans x) lc p e3 fun H2 x2 r2 rd => q v H2 a' x2 (p0.trans p) r2 (rd d v k)
  generalize (⟨fun σ' H' => UL H H' (Dn.nx σ'), fun v H' => UL H H' (Dn.rt v), fun σ' H' => UL H H' (Dn.bk σ'), fun σ' H' => UL H H' (Dn.ct σ')⟩ : Ends) = De at fin ⊢
  refine ⟨fun i n σ1 H1 => ∃ ρ1 h1 a1, Ex (en X) H0 H1 ∧ a0 <+: a1 ∧ St1 (en X) ρ1 h1 a1 σ1 H1 ∧ sFor s g m n i ρ1 h1 = some (fl, ρ', h2), ⟨N, ρ, h0, a0, .refl, List.prefix_refl _, st.next x0 p0 r0, e2⟩, ?_⟩
  rintro i n σ1 H1 ⟨ρ1, h1, a1, x1, p1, s1, e1⟩
  have q1 := fin.next x1 p1
  obtain ⟨jgo, jstop⟩ := jr i H1 a1 h1 x1 p1 s1.h
  cases n with
  | zero => cases e1
  | succ n =>
    rw [sFor] at e1
    dsimp only at e1
    split at e1
    · rename_i d e2
      obtain ⟨go, yl⟩ := jgo d e2
      refine .inr ⟨go, fun σ' H' => ∃ ρ3 h3 a3, Ex (en X) H0 H' ∧ a0 <+: a3 ∧ St1 (en X) ρ3 h3 a3 σ' H' ∧ sFor s g m n (i + 1) ρ3 h3 = some (fl, ρ', h2), fun σ' H' ⟨ρ3, h3, a3, x3, p3, s3, e3⟩ => ⟨n, Nat.lt_succ_self n, ρ3, h3, a3, x3, p3, s3, e3⟩, fun x H2 y => ?_⟩
      obtain ⟨x2, r2, k2⟩ := yl x H2 y
      split at e1
      · rename_i ρ2 h2' e3
        refine ⟨ρ1, h1, a1, d, ρ2, h2', s1.next x2 (List.prefix_refl _) r2, k2, e3, fun σ3 H3 a3 x3 p3 s3 => ?_⟩
        split at e1
        · rename_i ρ4 h4 e4
          exact ⟨ρ2, h2', a3, .nx, ρ4, h4, s3, e4, fun σ' H' ad' x p s4 => ⟨ρ4, h4, ad', ((x1.trans x2).trans x3).trans x, (p1.trans p3).trans p, s4, e1⟩⟩
        · rename_i ρ4 h4 e4
          exact ⟨ρ2, h2', a3, .ct, ρ4, h4, s3, e4, fun σ' H' ad' x p s4 => ⟨ρ4, h4, ad', ((x1.trans x2).trans x3).trans x, (p1.trans p3).trans p, s4, e1⟩⟩
        · rename_i ρ4 h4 e4
          cases e1
          exact ⟨ρ2, h2', a3, .bk, ρ', h2, s3, e4, fun σ' H' ad' x p s4 => q1 σ' H' ad' ((x2.trans x3).trans x) (p3.trans p) s4⟩
        · rename_i z1 z2 z3
          refine ⟨ρ2, h2', a3, fl, ρ', h2, s3, e1, ?_⟩
          cases fl with
          | nx => exact absurd e1 (z1 _ _)
          | ct => exact absurd e1 (z2 _ _)
          | bk => exact absurd e1 (z3 _ _)
          | rt d => exact PostE.next q1 (x2.trans x3) p3
      · cases e1
    · rename_i e2
      cases e1
      exact .inl ⟨jstop e2, q1 σ1 H1 a1 .refl (List.prefix_refl _) s1⟩
    · cases e1
end

/-- a def's promise: what f makes of the arguments -/
def spM (P : Program) (w : World) (K : PySem.W.Frag) (mg : Str → Option Value) (f : List D → Hd → Option (D × Hd)) : Sp := fun vs H Q _ =>
  ∃ ad hp ds d hp', HR ⟨P, w, K, mg⟩ ad H hp ∧ RDs ⟨P, w, K, mg⟩ ad H ds vs ∧ f ds hp = some (d, hp') ∧ PostE ⟨P, w, K, mg⟩ ad H d hp' Q
/-- a body run -/
def runB (k n : Nat) (m : S) : List D → Hd → Option (D × Hd) := fun ds hp => if ds.length = k then (match m (ds.map some ++ List.replicate (n - ds.length) none) hp with
  | some (.rt d, _, h) => some (d, h)
  | some (.nx, _, h) => some (.non, h)
  | _ => none) else none
section
variable {P : Program} {w : World} {K : PySem.W.Frag} {mg : Str → Option Value} {base : Heap}
theorem start_ok {E : En} {N : List Str} {ad : List Addr} {H : Hp} {hp : Hd} {ds : List D} {vs : List V} (hr : HR E ad H hp) (k : RDs E ad H ds vs) : St1 E (ds.map some ++ List.replicate (N.length - ds.length) none) hp ad (L2.start N vs) H := by
  have hl := k.length
  refine ⟨fun i d e => ?_, hr, by simp [L2.start, hl]⟩
  by_cases hi : i < ds.length
  · rw [List.getElem?_append_left (by simpa using hi), List.getElem?_map] at e
    cases e1 : ds[i]? with
    | none => rw [e1] at e; cases e
    | some d' =>
      rw [e1] at e
      cases e
      obtain ⟨v, e2, r⟩ := k.get e1
      refine ⟨v, ?_, r⟩
      unfold L2.start
      rw [List.getElem?_append_left (by simpa using hl ▸ hi), List.getElem?_map, e2]
      rfl
  · rw [List.getElem?_append_right (by simpa using Nat.le_of_not_lt hi), List.getElem?_replicate] at e
    split at e <;> cases e
/-- the rule for a def -/
theorem fn_ok {x qual : Str} {params : Arguments} {body : List Stmt} {scope : Scope} {dvs : List V} {kws : List (Str × V)} {f : Addr} {fd : FuncData} {N ps : List Str} {k : Nat} {m : S}
    (F : FunD K x qual params body scope dvs kws f fd) (sc : FnScope N ps scope)
    (hb : ∀ (cdv : Value) (A : Around) (outer : List Env) (s : Shared) (H : Hp) (E : XK), Room k (A.deeper (envOfC qual scope s.heap.objs.size f cdv)) → PSs (cxOf CX0 P w K mg base N qual scope f cdv A outer s H E).nox body (rS ⟨P, w, K, mg⟩ m)) :
    FnOk P w K mg base CX0 (k + 1) f fd ps (spM P w K mg (runB ps.length N.length m)) := by
  refine F.ok sc (fun vs H Q E h => ?_) (fun cdv A outer s H vs Q E hr h => ⟨_, (hb cdv A outer s H E hr).nox, ?_⟩)
  · obtain ⟨ad, hp, ds, d, hp', hr, k, e, _⟩ := h
    unfold runB at e
    split at e
    · rename_i hl
      rw [← k.length]; exact hl
    · cases e
  · obtain ⟨ad, hp, ds, d, hp', hr, k, e, q⟩ := h
    unfold runB at e
    split at e
    case isFalse => cases e
    split at e
    · rename_i d' ρ' h' e1
      cases e
      exact ⟨_, hp, ad, .rt d, ρ', hp', start_ok hr k, e1, q⟩
    · rename_i ρ' h' e1
      cases e
      exact ⟨_, hp, ad, .nx, ρ', hp', start_ok hr k, e1, fun σ' H' ad' x p s1 => q .non H' ad' x p s1.h (by rw [RD])⟩
    · cases e
end
/-- f(e, ..) -/
def mCall (f : List D → Hd → Option (D × Hd)) (ms : M (List D)) : M D := bnd ms fun ds => lft (f ds)
section
variable {X : Cx} {k n : Nat} {f : Addr} {fd : FuncData} {ps : List Str} {F : List D → Hd → Option (D × Hd)} {x : Str} {p pos : Pos} {e : Expr} {es : List Expr} {ms : M (List D)}
theorem le_call (G : FnOk X.prog X.w X.K X.mg X.base CX0 k f fd ps (spM X.prog X.w X.K X.mg F)) (hr : Room k X.A) (hg : Gl X x) (hm : X.mg x = some (.ref f)) (hk : PySem.W.keepIn X.K (.ref f) = true) (hb : Binds X.K fd ps [])
    (ha : PA X (e :: es) (rA (en X) ms)) (hdb : (x == ("__debug__" : Str)) = false := by decide) (he : starEach (e :: es) X.env = (false, eval e X.env) :: starEach es X.env := by rfl) (hpl : (backTo pos (starEach es X.env)).any (·.1) = false := by rfl) :
    PE X (.Call (.Name x p) (e :: es) [] pos) (rE (en X) (mCall F ms)) := by
  refine PE.mono (pe_call G hr hg hm hk hb .nil pass0 ha hdb he hpl) fun σ H Q h => ?_
  obtain ⟨ρ, hp, ad, d, hp', st, e, q⟩ := h
  obtain ⟨ds, h1, e1, e2⟩ := bnd_inv e
  refine ⟨ρ, hp, ad, ds, h1, st, e1, fun vs H' ad' x p r k => ?_⟩
  show spM X.prog X.w X.K X.mg F (vs ++ []) H' Q E0
  rw [List.append_nil]
  exact ⟨ad', h1, ds, d, hp', r, k, e2, q.next x p⟩
theorem le_call0 (G : FnOk X.prog X.w X.K X.mg X.base CX0 k f fd ps (spM X.prog X.w X.K X.mg F)) (hr : Room k X.A) (hg : Gl X x) (hm : X.mg x = some (.ref f)) (hk : PySem.W.keepIn X.K (.ref f) = true) (hb : Binds X.K fd ps [])
    (hdb : (x == ("__debug__" : Str)) = false := by decide) : PE X (.Call (.Name x p) [] [] pos) (rE (en X) (mCall F (pur []))) := by
  refine PE.mono (pe_call0 G hr hg hm hk hb .nil pass0 hdb) fun σ H Q h => ?_
  obtain ⟨ρ, hp, ad, d, hp', st, e, q⟩ := h
  obtain ⟨ds, h1, e1, e2⟩ := bnd_inv e
  cases e1
  exact ⟨ad, _, [], d, hp', st.h, .nil, e2, q⟩
end
end DL
namespace DL
open PySem PySem.Spec PyProof.Rows L2

section
variable {E : En} {ad : List Addr} {H : Hp} {hp : Hd} {v : V}
theorem RD.i {i : Int} (h : RD E ad H (.int i) v) : v = .int i := by rw [RD] at h; exact h
theorem RD.b {i : Bool} (h : RD E ad H (.bl i) v) : v = .bl i := by rw [RD] at h; exact h
theorem RD.x {i : Str} (h : RD E ad H (.str i) v) : v = .str i := by rw [RD] at h; exact h
theorem RD.n (h : RD E ad H .non v) : v = .non := by rw [RD] at h; exact h
theorem RD.t {ds : List D} (h : RD E ad H (.tup ds) v) : ∃ a vs, v = .ref a ∧ SqT E.K H a vs ∧ RDs E ad H ds vs := by rw [RD] at h; exact h
theorem RD.r {n : Nat} (h : RD E ad H (.ref n) v) : ∃ a, v = .ref a ∧ ad[n]? = some a := by rw [RD] at h; exact h
theorem rdI (i : Int) : RD E ad H (.int i) (.int i) := by rw [RD]
theorem rdB (b : Bool) : RD E ad H (.bl b) (.bl b) := by rw [RD]
theorem rdS (b : Str) : RD E ad H (.str b) (.str b) := by rw [RD]
theorem rdN : RD E ad H .non .non := by rw [RD]
/-- a list, tracked -/
theorem HR.lst {n : Nat} {ds : List D} {a : Addr} (h : HR E ad H hp) (e : hp.get n = some (.lst ds)) (ha : ad[n]? = some a) : ∃ vs, H a = some (.lst vs) ∧ RDs E ad H ds vs := by
  obtain ⟨u, e1, vs, rfl, r⟩ := h.at_ ha e
  exact ⟨vs, e1, r⟩
/-- a list, to be read -/
theorem HR.lstR {n : Nat} {ds : List D} {a : Addr} (h : HR E ad H hp) (e : lstOf hp n = some ds) (ha : ad[n]? = some a) : ∃ vs, SqL E.K H a vs ∧ RDs E ad H ds vs := by
  unfold lstOf at e
  split at e
  · rename_i ds' e1
    cases e
    obtain ⟨vs, h1, r⟩ := h.lst e1 ha
    exact ⟨vs, SqL.of h1, r⟩
  · rename_i ds' e1
    cases e
    obtain ⟨ob, u, e2, vs, rfl, r⟩ := h.at_ ha e1
    exact ⟨vs, .inl (.inr ⟨ob, e2⟩), r⟩
  · cases e
theorem HR.dicR {n : Nat} {kvs : List (D × D)} {a : Addr} (h : HR E ad H hp) (e : dicOf hp n = some kvs) (ha : ad[n]? = some a) : ∃ vs, Rd H a (DcO a vs) ∧ kvs.length ≤ sizeLine ∧ (a == sysModules) = false ∧ PRs E ad H kvs vs ∧ KsOk kvs := by
  unfold dicOf at e
  split at e
  · rename_i ds' e1
    cases e
    obtain ⟨u, e2, vs, rfl, r⟩ := h.at_ ha e1
    exact ⟨vs, .inl e2, r⟩
  · rename_i ds' e1
    cases e
    obtain ⟨ob, u, e2, vs, rfl, r⟩ := h.at_ ha e1
    exact ⟨vs, .inr ⟨ob, e2⟩, r⟩
  · cases e
end

def addD : D → D → Hd → Option (D × Hd)
  | .int i, .int j, hp => some (.int (i + j), hp)
  | .str i, .str j, hp => if i.length + j.length ≤ big then some (.str (i ++ j), hp) else none
  | .ref l, .ref b, hp => (match hp.get l, hp.get b with
    | some (.lst xs), some (.lst ys) => if xs.length + ys.length ≤ big then some (.ref hp.n, hp.push (.lst (xs ++ ys))) else none
    | _, _ => none)
  | _, _, _ => none
def subD : D → D → Hd → Option (D × Hd)
  | .int i, .int j, hp => some (.int (i - j), hp)
  | _, _, _ => none
/-- a product: one factor small, or both not too great; a list or a tuple repeated -/
def mulD : D → D → Hd → Option (D × Hd)
  | .int i, .int j, hp => if (i.natAbs < 18446744073709551616 ∨ j.natAbs < 18446744073709551616) ∨ (i.natAbs.log2 + j.natAbs.log2 < 1000000) then some (.int (i * j), hp) else none
  | .tup ds, .int k, hp => if ds ≠ [] ∧ 2 ≤ k ∧ k ≤ 1000 ∧ ds.length ≤ 1000 then some (.tup (List.replicate k.toNat ds).flatten, hp) else none
  | .ref l, .int k, hp => (match hp.get l with
    | some (.lst xs) => if 0 ≤ k ∧ k ≤ 1000 ∧ xs.length ≤ 1000 then some (.ref hp.n, hp.push (.lst (List.replicate k.toNat xs).flatten)) else none
    | _ => none)
  | _, _, _ => none
def modD : D → D → Hd → Option (D × Hd)
  | .int i, .int j, hp => if 0 < j then some (.int (i % j), hp) else none
  | _, _, _ => none
def fdvD : D → D → Hd → Option (D × Hd)
  | .int i, .int j, hp => if 0 < j ∧ j < 1073741824 then some (.int (i / j), hp) else none
  | _, _, _ => none
def powD : D → D → Hd → Option (D × Hd)
  | .int i, .int j, hp => if 0 ≤ j ∧ j ≤ 1000 ∧ i.natAbs < 1000000 then some (.int (i ^ j.toNat), hp) else none
  | _, _, _ => none
def subAdd : D → D → Hd → Option (D × Hd)
  | .int i, .int j, hp => some (.int (i + j), hp)
  | _, _, _ => none
def negD : D → Hd → Option (D × Hd)
  | .int i, hp => some (.int (-i), hp)
  | _, _ => none
section
variable {X : Cx}
theorem rep_flat : ∀ {E : En} {ad : List Addr} {H : Hp} {ds : List D} {vs : List V} (k : Nat), RDs E ad H ds vs → RDs E ad H (List.replicate k ds).flatten (List.replicate k vs).flatten := by
  intro E ad H ds vs k h
  induction k with
  | zero => simpa using RDs.nil
  | succ k ih => simpa [List.replicate_succ] using h.append ih
theorem op_addD : OpR X (binaryOp .Add) (rB (en X) addD) := by
  intro pins s σ H x y v u Q I rx ry ⟨ad, hp, d1, d2, d, hp', hr, k1, k2, e, q⟩
  unfold addD at e
  split at e
  · rename_i i j
    cases e
    exact op_add pins s σ H x y v u Q I rx ry ⟨i, j, k1.i, k2.i, q.here hr (rdI _)⟩
  · rename_i i j
    split at e
    · rename_i hz
      cases e
      exact op_add_str pins s σ H x y v u Q I rx ry ⟨i, j, k1.x, k2.x, big_ok hz, q.here hr (rdS _)⟩
    · cases e
  · rename_i l b
    split at e
    · rename_i xs ys e1 e2
      split at e
      · rename_i hz
        cases e
        obtain ⟨la, ex, ha⟩ := k1.r
        obtain ⟨lb, ey, hb⟩ := k2.r
        obtain ⟨vs, h1, r1⟩ := hr.lst e1 ha
        obtain ⟨ws, h2, r2⟩ := hr.lst e2 hb
        exact op_cat pins s σ H x y v u Q I rx ry ⟨la, lb, vs, ws, ex, ey, h1, h2, by rw [← r1.length, ← r2.length]; exact big_ok hz, fun p n => lst_new hr n (r1.append r2) q⟩
      · cases e
    · cases e
  · cases e
theorem op_subD : OpR X (binaryOp .Sub) (rB (en X) subD) := by
  intro pins s σ H x y v u Q I rx ry ⟨ad, hp, d1, d2, d, hp', hr, k1, k2, e, q⟩
  unfold subD at e
  split at e
  · rename_i i j
    cases e
    exact op_sub pins s σ H x y v u Q I rx ry ⟨i, j, k1.i, k2.i, q.here hr (rdI _)⟩
  · cases e
theorem op_mulD : OpR X (binaryOp .Mult) (rB (en X) mulD) := by
  intro pins s σ H x y v u Q I rx ry ⟨ad, hp, d1, d2, d, hp', hr, k1, k2, e, q⟩
  unfold mulD at e
  split at e
  · rename_i i j
    split at e
    · rename_i hz
      cases e
      rcases hz with hz | hz
      · refine op_mul pins s σ H x y v u Q I rx ry ⟨i, j, k1.i, k2.i, ?_, q.here hr (rdI _)⟩
        rcases hz with hz | hz
        · exact .inl ⟨by omega, by omega⟩
        · exact .inr ⟨by omega, by omega⟩
      · exact op_mulW pins s σ H x y v u Q I rx ry ⟨i, j, k1.i, k2.i, hz, q.here hr (rdI _)⟩
    · cases e
  · rename_i ds k
    split at e
    · rename_i hz
      cases e
      obtain ⟨a, vs, ex, hs, r⟩ := k1.t
      refine op_repT pins s σ H x y v u Q I rx ry ⟨a, k, vs, ex, k2.i, hs, ?_, hz.2.1, hz.2.2.1, by rw [← r.length]; exact hz.2.2.2, fun p n => tup_new hr n (rep_flat _ r) q⟩
      intro z
      subst z
      have := r.length
      exact hz.1 (List.length_eq_zero_iff.mp (by simpa using this))
    · cases e
  · rename_i l k
    split at e
    · rename_i xs e1
      split at e
      · rename_i hz
        cases e
        obtain ⟨la, ex, ha⟩ := k1.r
        obtain ⟨vs, h1, r1⟩ := hr.lst e1 ha
        have hl := r1.length
        refine op_rep pins s σ H x y v u Q I rx ry ⟨la, k, vs, ex, k2.i, h1, by omega, by omega, ?_, fun p n => ?_⟩
        · have h3 : vs.length * k.toNat ≤ 1000 * 1000 := Nat.mul_le_mul (by omega) (by omega)
          exact Nat.le_trans h3 (by decide)
        · exact lst_new hr n (rep_flat _ r1) q
      · cases e
    · cases e
  · cases e
theorem op_modD : OpR X (binaryOp .Mod) (rB (en X) modD) := by
  intro pins s σ H x y v u Q I rx ry ⟨ad, hp, d1, d2, d, hp', hr, k1, k2, e, q⟩
  unfold modD at e
  split at e
  · rename_i i j
    split at e
    · rename_i hz
      cases e
      exact op_mod pins s σ H x y v u Q I rx ry ⟨i, j, k1.i, k2.i, hz, q.here hr (rdI _)⟩
    · cases e
  · cases e
theorem op_fdvD : OpR X (binaryOp .FloorDiv) (rB (en X) fdvD) := by
  intro pins s σ H x y v u Q I rx ry ⟨ad, hp, d1, d2, d, hp', hr, k1, k2, e, q⟩
  unfold fdvD at e
  split at e
  · rename_i i j
    split at e
    · rename_i hz
      cases e
      exact op_fdiv pins s σ H x y v u Q I rx ry ⟨i, j, k1.i, k2.i, hz, q.here hr (rdI _)⟩
    · cases e
  · cases e
theorem op_powD : OpR X (binaryOp .Pow) (rB (en X) powD) := by
  intro pins s σ H x y v u Q I rx ry ⟨ad, hp, d1, d2, d, hp', hr, k1, k2, e, q⟩
  unfold powD at e
  split at e
  · rename_i i j
    split at e
    · rename_i hz
      cases e
      exact op_pow pins s σ H x y v u Q I rx ry ⟨i, j, k1.i, k2.i, ⟨hz.1, by omega, by omega⟩, q.here hr (rdI _)⟩
    · cases e
  · cases e
theorem un_negD : UnR X (unaryOp .USub) (rU1 (en X) negD) := by
  intro pins s σ H x v Q I rx ⟨ad, hp, d1, d, hp', hr, k1, e, q⟩
  unfold negD at e
  split at e
  · rename_i i
    cases e
    exact un_neg pins s σ H x v Q I rx ⟨i, k1.i, q.here hr (rdI _)⟩
  · cases e
/-- x += y of ints -/
theorem iop_addD : OpR X (inplaceOp .Add) (rB (en X) subAdd) := by
  intro pins s σ H x y v u Q I rx ry ⟨ad, hp, d1, d2, d, hp', hr, k1, k2, e, q⟩
  unfold subAdd at e
  split at e
  · rename_i i j
    cases e
    exact iop_add pins s σ H x y v u Q I rx ry ⟨i, j, k1.i, k2.i, q.here hr (rdI _)⟩
  · cases e

def intsD : List D → Option (List Int)
  | [] => some []
  | .int i :: ds => (intsD ds).map (i :: ·)
  | _ => none
theorem intsD_ok : ∀ {E : En} {ad : List Addr} {H : Hp} {ds : List D} {vs : List V} {ns : List Int}, intsD ds = some ns → RDs E ad H ds vs → vs = ns.map V.int
  | E, ad, H, [], vs, ns, e, k => by
    cases e
    rw [RDs] at k
    exact k
  | E, ad, H, d :: ds, vs, ns, e, k => by
    rw [RDs] at k
    obtain ⟨v, r, rfl, k1, k2⟩ := k
    cases d with
    | int i =>
      rw [intsD] at e
      cases q : intsD ds with
      | none => rw [q] at e; cases e
      | some ms =>
        rw [q] at e
        cases e
        rw [k1.i, intsD_ok q k2]
        rfl
    | _ => cases e
def ltD : D → D → Hd → Option (D × Hd)
  | .int i, .int j, hp => some (.bl (decide (i < j)), hp)
  | .tup a, .tup b, hp => (match intsD a, intsD b with
    | some x, some y => some (.bl (HT.lexLt x y), hp)
    | _, _ => none)
  | _, _, _ => none
def leD : D → D → Hd → Option (D × Hd)
  | .int i, .int j, hp => some (.bl (decide (i ≤ j)), hp)
  | _, _, _ => none
def gtD : D → D → Hd → Option (D × Hd)
  | .int i, .int j, hp => some (.bl (decide (j < i)), hp)
  | _, _, _ => none
def geD : D → D → Hd → Option (D × Hd)
  | .int i, .int j, hp => some (.bl (decide (j ≤ i)), hp)
  | _, _, _ => none
def isNonD : D → Bool
  | .non => true
  | _ => false
def isD : D → D → Hd → Option (D × Hd)
  | d, .non, hp => some (.bl (isNonD d), hp)
  | .bl a, .bl b, hp => some (.bl (a == b), hp)
  | _, _, _ => none
def isntD : D → D → Hd → Option (D × Hd)
  | d, .non, hp => some (.bl (!isNonD d), hp)
  | .bl a, .bl b, hp => some (.bl (!(a == b)), hp)
  | _, _, _ => none
theorem isNonD_ok {E : En} {ad : List Addr} {H : Hp} {d : D} {v : V} (k : RD E ad H d v) : decide (v = .non) = isNonD d := by
  cases d with
  | non => rw [k.n]; rfl
  | bl b => rw [k.b]; rfl
  | int b => rw [k.i]; rfl
  | str b => rw [k.x]; rfl
  | tup ds => obtain ⟨a, vs, rfl, _⟩ := k.t; rfl
  | ref n => obtain ⟨a, rfl, _⟩ := k.r; rfl
  | kl n => rw [RD] at k; obtain ⟨a, rfl, _⟩ := k; rfl
theorem op_ltD (hu : X.A.units < cLine) : OpR X (compareOp .Lt) (rB (en X) ltD) := by
  intro pins s σ H x y v u Q I rx ry ⟨ad, hp, d1, d2, d, hp', hr, k1, k2, e, q⟩
  unfold ltD at e
  split at e
  · rename_i i j
    cases e
    exact op_lt pins s σ H x y v u Q I rx ry ⟨i, j, k1.i, k2.i, q.here hr (rdB _)⟩
  · rename_i a b
    split at e
    · rename_i ns ms e1 e2
      cases e
      obtain ⟨pa, vs, ex, hs, r⟩ := k1.t
      obtain ⟨pb, ws, ey, ht, t⟩ := k2.t
      have ea := intsD_ok e1 r
      have eb := intsD_ok e2 t
      subst ea eb
      exact op_ltT hu pins s σ H x y v u Q I rx ry ⟨pa, pb, ns, ms, ex, ey, hs, ht, q.here hr (rdB _)⟩
    · cases e
  · cases e
theorem op_leD : OpR X (compareOp .LtE) (rB (en X) leD) := by
  intro pins s σ H x y v u Q I rx ry ⟨ad, hp, d1, d2, d, hp', hr, k1, k2, e, q⟩
  unfold leD at e
  split at e
  · rename_i i j
    cases e
    exact op_le pins s σ H x y v u Q I rx ry ⟨i, j, k1.i, k2.i, q.here hr (rdB _)⟩
  · cases e
theorem op_gtD : OpR X (compareOp .Gt) (rB (en X) gtD) := by
  intro pins s σ H x y v u Q I rx ry ⟨ad, hp, d1, d2, d, hp', hr, k1, k2, e, q⟩
  unfold gtD at e
  split at e
  · rename_i i j
    cases e
    exact op_gt pins s σ H x y v u Q I rx ry ⟨i, j, k1.i, k2.i, q.here hr (rdB _)⟩
  · cases e
theorem op_geD : OpR X (compareOp .GtE) (rB (en X) geD) := by
  intro pins s σ H x y v u Q I rx ry ⟨ad, hp, d1, d2, d, hp', hr, k1, k2, e, q⟩
  unfold geD at e
  split at e
  · rename_i i j
    cases e
    exact op_ge pins s σ H x y v u Q I rx ry ⟨i, j, k1.i, k2.i, q.here hr (rdB _)⟩
  · cases e
theorem op_isD : OpR X (compareOp .Is) (rB (en X) isD) := by
  intro pins s σ H x y v u Q I rx ry ⟨ad, hp, d1, d2, d, hp', hr, k1, k2, e, q⟩
  unfold isD at e
  split at e
  · cases e
    refine op_isN pins s σ H x y v u Q I rx ry ⟨k2.n, ?_⟩
    rw [isNonD_ok k1]
    exact q.here hr (rdB _)
  · rename_i a b
    cases e
    refine op_is_bl pins s σ H x y v u Q I rx ry ⟨a, b, k1.b, k2.b, ?_⟩
    rw [show decide (a = b) = (a == b) by cases a <;> cases b <;> rfl]
    exact q.here hr (rdB _)
  · cases e
theorem op_isntD : OpR X (compareOp .IsNot) (rB (en X) isntD) := by
  intro pins s σ H x y v u Q I rx ry ⟨ad, hp, d1, d2, d, hp', hr, k1, k2, e, q⟩
  unfold isntD at e
  split at e
  · cases e
    refine op_notN pins s σ H x y v u Q I rx ry ⟨k2.n, ?_⟩
    rw [isNonD_ok k1]
    exact q.here hr (rdB _)
  · rename_i a b
    cases e
    refine op_isnot_bl pins s σ H x y v u Q I rx ry ⟨a, b, k1.b, k2.b, ?_⟩
    rw [show decide (a = b) = (a == b) by cases a <;> cases b <;> rfl]
    exact q.here hr (rdB _)
  · cases e
/-- a < b < c -/
def mChain (f g : D → D → Hd → Option (D × Hd)) (ma mb mc : M D) : M D := bnd ma fun x => bnd mb fun y => bnd (lft (f x y)) fun z => match z with
  | .bl true => bnd mc fun w => lft (g y w)
  | .bl false => pur (.bl false)
  | _ => fun _ _ => none
end
end DL
namespace DL
open PySem PySem.Spec PyProof.Rows L2

section
variable {X : Cx} {a b c : Expr} {ma mb mc : M D} {pos : Pos}
theorem rE_chain {E : En} {f g : D → D → Hd → Option (D × Hd)} {σ : L2.St} {H : Hp} {Q : VK} (h : rE E (mChain f g ma mb mc) σ H Q) : tChain (rB E f) (rB E g) (rE E ma) (rE E mb) (rE E mc) σ H Q := by
  obtain ⟨ρ, hp, ad, d, hp', st, e, q⟩ := h
  obtain ⟨d1, h1, e1, e⟩ := bnd_inv e
  obtain ⟨d2, h2, e2, e⟩ := bnd_inv e
  obtain ⟨z, h3, e3, e⟩ := bnd_inv e
  refine ⟨ρ, hp, ad, d1, h1, st, e1, fun x H1 a1 x1 p1 r1 k1 => ?_⟩
  refine ⟨ρ, h1, a1, d2, h2, st.next x1 p1 r1, e2, fun y H2 a2 x2 p2 r2 k2 => ?_⟩
  refine ⟨a2, h2, d1, d2, z, h3, r2, k1.mono x2 p2, k2, e3, fun zv H3 a3 x3 p3 r3 k3 => ?_⟩
  split at e
  · refine ⟨true, k3.b, iteT ?_⟩
    obtain ⟨w, h4, e4, e⟩ := bnd_inv e
    refine ⟨ρ, h3, a3, w, h4, st.next ((x1.trans x2).trans x3) ((p1.trans p2).trans p3) r3, e4, fun wv H4 a4 x4 p4 r4 k4 => ?_⟩
    exact ⟨a4, h4, d2, w, d, hp', r4, k2.mono (x3.trans x4) (p3.trans p4), k4, e, q.next (((x1.trans x2).trans x3).trans x4) (((p1.trans p2).trans p3).trans p4)⟩
  · cases e
    exact ⟨false, k3.b, iteF (q _ H3 a3 ((x1.trans x2).trans x3) ((p1.trans p2).trans p3) r3 (rdB _))⟩
  · cases e
theorem le_chain {op op' : CmpOp} {f g : D → D → Hd → Option (D × Hd)} (ho : OpR X (compareOp op) (rB (en X) f)) (ho' : OpR X (compareOp op') (rB (en X) g)) (ha : PE X a (rE (en X) ma)) (hb : PE X b (rE (en X) mb)) (hc : PE X c (rE (en X) mc))
    (hm : lastMarks [op, op'] [b, c] = false := by with_unfolding_all rfl) : PE X (.Compare a [op, op'] [b, c] pos) (rE (en X) (mChain f g ma mb mc)) := PE.mono (pe_chain ho ho' ha hb hc hm) fun _ _ _ h => rE_chain h
theorem lt_chain {op op' : CmpOp} {f g : D → D → Hd → Option (D × Hd)} (ho : OpR X (compareOp op) (rB (en X) f)) (ho' : OpR X (compareOp op') (rB (en X) g)) (ha : PE X a (rE (en X) ma)) (hb : PE X b (rE (en X) mb)) (hc : PE X c (rE (en X) mc))
    (hm : lastMarks [op, op'] [b, c] = false := by with_unfolding_all rfl) : PT X (.Compare a [op, op'] [b, c] pos) (rT (en X) (mTst (mChain f g ma mb mc))) := PT.mono (pt_chain ho ho' ha hb hc hm) fun σ H Q h => by
  obtain ⟨ρ, hp, ad, d, hp', st, e, q⟩ := rT_tst h
  exact rE_chain ⟨ρ, hp, ad, d, hp', st, e, q⟩
end

mutual
def pdW (f : Nat → Option PyData) : D → Option PyData
  | .non => some .none
  | .bl b => some (.bool b)
  | .int i => some (.int i)
  | .str x => some (.str x)
  | .tup ds => (pdsW f ds).map .tuple
  | .ref n => f n
  | .kl ns => some (.list (ns.map .int))
def pdsW (f : Nat → Option PyData) : List D → Option (List PyData)
  | [] => some []
  | d :: ds => match pdW f d, pdsW f ds with
    | some a, some b => some (a :: b)
    | _, _ => none
end
/-- a list as data, to a depth -/
def pdR : Nat → Hd → Nat → Option PyData
  | 0, _, _ => none
  | k + 1, hp, n => match lstOf hp n with
    | some ds => (pdsW (pdR k hp) ds).map .list
    | none => none
def pdD (hp : Hd) (d : D) : Option PyData := pdW (pdR 4 hp) d
theorem dpAll_ints {K : PySem.W.Frag} {H : Hp} : ∀ ns : List Int, DpAll K H (ns.map V.int) (ns.map PyData.int)
  | [] => .nil
  | n :: ns => .cons (.int n) (dpAll_ints ns)
mutual
theorem pdW_ok {E : En} {ad : List Addr} {H : Hp} {f : Nat → Option PyData} (hf : ∀ n q a, f n = some q → ad[n]? = some a → Dp E.K H (.ref a) q) : ∀ {d : D} {p : PyData} {v : V}, pdW f d = some p → RD E ad H d v → Dp E.K H v p
  | .non, p, v, e, k => by rw [pdW] at e; cases e; rw [k.n]; exact .non
  | .bl b, p, v, e, k => by rw [pdW] at e; cases e; rw [k.b]; exact .bl b
  | .int b, p, v, e, k => by rw [pdW] at e; cases e; rw [k.i]; exact .int b
  | .str b, p, v, e, k => by rw [pdW] at e; cases e; rw [k.x]; exact .str b
  | .tup ds, p, v, e, k => by
    rw [pdW] at e
    obtain ⟨a, vs, rfl, hs, r⟩ := k.t
    cases q : pdsW f ds with
    | none => rw [q] at e; cases e
    | some ps => rw [q] at e; cases e; exact .tup hs (pdsW_ok hf q r)
  | .ref n, p, v, e, k => by
    rw [pdW] at e
    obtain ⟨a, rfl, ha⟩ := k.r
    exact hf n p a e ha
  | .kl ns, p, v, e, k => by
    rw [pdW] at e
    cases e
    rw [RD] at k
    obtain ⟨a, rfl, h⟩ := k
    exact .lst h.l (dpAll_ints ns)
theorem pdsW_ok {E : En} {ad : List Addr} {H : Hp} {f : Nat → Option PyData} (hf : ∀ n q a, f n = some q → ad[n]? = some a → Dp E.K H (.ref a) q) : ∀ {ds : List D} {ps : List PyData} {vs : List V}, pdsW f ds = some ps → RDs E ad H ds vs → DpAll E.K H vs ps
  | [], ps, vs, e, k => by rw [pdsW] at e; cases e; rw [RDs] at k; rw [k]; exact .nil
  | d :: ds, ps, vs, e, k => by
    rw [pdsW] at e
    rw [RDs] at k
    obtain ⟨v, r, rfl, k1, k2⟩ := k
    split at e
    · rename_i x y e1 e2
      cases e
      exact .cons (pdW_ok hf e1 k1) (pdsW_ok hf e2 k2)
    · cases e
end
theorem pdR_ok {E : En} {ad : List Addr} {H : Hp} {hp : Hd} (hr : HR E ad H hp) : ∀ (k : Nat) (n : Nat) (q : PyData) (a : Addr), pdR k hp n = some q → ad[n]? = some a → Dp E.K H (.ref a) q
  | 0, _, _, _, e, _ => by cases e
  | k + 1, n, q, a, e, ha => by
    rw [pdR] at e
    split at e
    · rename_i ds e1
      obtain ⟨vs, hs, r⟩ := hr.lstR e1 ha
      cases z : pdsW (pdR k hp) ds with
      | none => rw [z] at e; cases e
      | some ps => rw [z] at e; cases e; exact .lst hs (pdsW_ok (pdR_ok hr k) z r)
    · cases e
theorem pdD_ok {E : En} {ad : List Addr} {H : Hp} {hp : Hd} {d : D} {p : PyData} {v : V} (hr : HR E ad H hp) (e : pdD hp d = some p) (k : RD E ad H d v) : Dp E.K H v p := pdW_ok (pdR_ok hr 4) e k
def eqC (f : Bool → Bool) (d1 d2 : D) (hp : Hd) : Option (D × Hd) := match pdD hp d1, pdD hp d2 with
  | some a, some b => if SeqAt.shaped a = true ∧ SeqAt.shaped b = true then some (.bl (f (PyData.eqv a b)), hp) else none
  | _, _ => none
def eqD : D → D → Hd → Option (D × Hd) := eqC id
def neD : D → D → Hd → Option (D × Hd) := eqC not
section
variable {X : Cx}
theorem op_eqDD (hu : X.A.units + 64 < cLine) : OpR X (compareOp .Eq) (rB (en X) eqD) := by
  intro pins s σ H x y v u Q I rx ry ⟨ad, hp, d1, d2, d, hp', hr, k1, k2, e, q⟩
  unfold eqD eqC at e
  split at e
  · rename_i p1 p2 e1 e2
    split at e
    · rename_i hs
      cases e
      exact op_eqD hu pins s σ H x y v u Q I rx ry ⟨p1, p2, pdD_ok hr e1 k1, pdD_ok hr e2 k2, hs.1, hs.2, q.here hr (rdB _)⟩
    · cases e
  · cases e
theorem op_neDD (hu : X.A.units + 64 < cLine) : OpR X (compareOp .NotEq) (rB (en X) neD) := by
  intro pins s σ H x y v u Q I rx ry ⟨ad, hp, d1, d2, d, hp', hr, k1, k2, e, q⟩
  unfold neD eqC at e
  split at e
  · rename_i p1 p2 e1 e2
    split at e
    · rename_i hs
      cases e
      exact op_neD hu pins s σ H x y v u Q I rx ry ⟨p1, p2, pdD_ok hr e1 k1, pdD_ok hr e2 k2, hs.1, hs.2, q.here hr (rdB _)⟩
    · cases e
  · cases e
def itsPD : PyData → Option (List PyData)
  | .list xs => some xs
  | .tuple xs => some xs
  | _ => none
def inC (f : Bool → Bool) (d1 d2 : D) (hp : Hd) : Option (D × Hd) := match pdD hp d1, pdD hp d2 with
  | some a, some b => (match itsPD b with
    | some xs => if SeqAt.shaped a = true ∧ SeqAt.shaped b = true then some (.bl (f (xs.any fun z => PyData.eqv z a)), hp) else none
    | none => none)
  | _, _ => none
theorem op_inS (hu : X.A.units + 65 < cLine) : OpR X (compareOp .In) (rB (en X) (inC id)) := by
  intro pins s σ H x y v u Q I rx ry ⟨ad, hp, d1, d2, d, hp', hr, k1, k2, e, q⟩
  unfold inC at e
  split at e
  · rename_i p1 p2 e1 e2
    split at e
    · rename_i xs e3
      split at e
      · rename_i hs
        cases e
        have g1 := pdD_ok hr e1 k1
        have g2 := pdD_ok hr e2 k2
        obtain ⟨as, r1⟩ := Dp.reads I p1 x v g1 rx
        obtain ⟨bs, r2⟩ := Dp.reads I p2 y u g2 ry
        cases p2 with
        | list ys => cases e3; exact SeqAt.in_list_reads r2 r1 (SeqAt.canLay_of_shaped hs.2) (SeqAt.canLay_of_shaped hs.1) (room_in_shaped hs.1 hu) ⟨.bl _, H, I, rfl, q.here hr (rdB _)⟩
        | tuple ys => cases e3; exact SeqAt.in_tuple_reads r2 r1 (SeqAt.canLay_of_shaped hs.2) (SeqAt.canLay_of_shaped hs.1) (room_in_shaped hs.1 hu) ⟨.bl _, H, I, rfl, q.here hr (rdB _)⟩
        | _ => cases e3
      · cases e
    · cases e
  · cases e
theorem op_notInS (hu : X.A.units + 65 < cLine) : OpR X (compareOp .NotIn) (rB (en X) (inC not)) := by
  intro pins s σ H x y v u Q I rx ry ⟨ad, hp, d1, d2, d, hp', hr, k1, k2, e, q⟩
  unfold inC at e
  split at e
  · rename_i p1 p2 e1 e2
    split at e
    · rename_i xs e3
      split at e
      · rename_i hs
        cases e
        have g1 := pdD_ok hr e1 k1
        have g2 := pdD_ok hr e2 k2
        obtain ⟨as, r1⟩ := Dp.reads I p1 x v g1 rx
        obtain ⟨bs, r2⟩ := Dp.reads I p2 y u g2 ry
        cases p2 with
        | list ys => cases e3; exact SeqAt.notIn_list_reads r2 r1 (SeqAt.canLay_of_shaped hs.2) (SeqAt.canLay_of_shaped hs.1) (room_in_shaped hs.1 hu) ⟨.bl _, H, I, rfl, q.here hr (rdB _)⟩
        | tuple ys => cases e3; exact SeqAt.notIn_tuple_reads r2 r1 (SeqAt.canLay_of_shaped hs.2) (SeqAt.canLay_of_shaped hs.1) (room_in_shaped hs.1 hu) ⟨.bl _, H, I, rfl, q.here hr (rdB _)⟩
        | _ => cases e3
      · cases e
    · cases e
  · cases e

def atD : D → D → Hd → Option (D × Hd)
  | .tup ds, .int i, hp => (atI ds i).map fun d => (d, hp)
  | .ref n, .int i, hp => (match lstOf hp n with
    | some ds => (atI ds i).map fun d => (d, hp)
    | none => none)
  | _, _, _ => none
theorem atI_rd {E : En} {ad : List Addr} {H : Hp} {ds : List D} {vs : List V} {i : Int} {d : D} (k : RDs E ad H ds vs) (e : atI ds i = some d) : ∃ v, atI vs i = some v ∧ RD E ad H d v := by
  unfold atI at e ⊢
  rw [← k.length]
  cases q : ixN ds.length i with
  | none => rw [q] at e; cases e
  | some j =>
    rw [q] at e
    exact k.get e
theorem ix_D : IxR X (rB (en X) atD) := by
  intro value slice pins s σ H x y v u Q I rx ry ⟨ad, hp, d1, d2, d, hp', hr, k1, k2, e, q⟩ hs
  unfold atD at e
  split at e
  · rename_i ds i
    cases z : atI ds i with
    | none => rw [z] at e; cases e
    | some d' =>
      rw [z] at e
      cases e
      obtain ⟨pa, vs, ex, hq, r⟩ := k1.t
      obtain ⟨w, ew, kw⟩ := atI_rd r z
      exact ix_tup value slice pins s σ H x y v u Q I rx ry ⟨pa, vs, i, w, ex, k2.i, hq, ew, q.here hr kw⟩ hs
  · rename_i n i
    split at e
    · rename_i ds e1
      cases z : atI ds i with
      | none => rw [z] at e; cases e
      | some d' =>
        rw [z] at e
        cases e
        obtain ⟨pa, ex, ha⟩ := k1.r
        obtain ⟨vs, hq, r⟩ := hr.lstR e1 ha
        obtain ⟨w, ew, kw⟩ := atI_rd r z
        exact ix_list value slice pins s σ H x y v u Q I rx ry ⟨pa, vs, i, w, ex, k2.i, hq, ew, q.here hr kw⟩ hs
    · cases e
  · cases e
variable {a b : Expr} {ma mb : M D} {pos p2 : Pos}
theorem le_ix {f : D → D → Hd → Option (D × Hd)} (hr : IxR X (rB (en X) f)) (ha : PE X a (rE (en X) ma)) (hb : PE X b (rE (en X) mb)) (hs : PlainIx b := by exact fun _ _ => rfl) : PE X (.Subscript a b pos) (rE (en X) (mB f ma mb)) := PE.mono (pe_ix hr ha hb hs) fun _ _ _ h => rE_mB h

def rO (E : En) (m : M (Option Int)) : TO := fun σ H Q => ∃ ρ hp ad o hp', St0 E ρ hp ad σ H ∧ m ρ hp = some (o, hp') ∧ ∀ H' ad', Ex E H H' → ad <+: ad' → HR E ad' H' hp' → Q o H'
def mPart (m : M D) : M (Option Int) := bnd m fun d => match d with
  | .int i => pur (some i)
  | _ => fun _ _ => none
theorem lo_none : PO X none (rO (en X) (pur none)) := ⟨fun pins s σ H Q I h => po_none.run pins s σ H Q I (by
  obtain ⟨ρ, hp, ad, o, hp', st, e, q⟩ := h
  cases e
  exact q H ad .refl (List.prefix_refl _) st.h)⟩
theorem lo_some (h : PE X a (rE (en X) ma)) : PO X (some a) (rO (en X) (mPart ma)) := ⟨fun pins s σ H Q I hw => (po_some h).run pins s σ H Q I (by
  obtain ⟨ρ, hp, ad, o, hp', st, e, q⟩ := hw
  obtain ⟨d, h1, e1, e2⟩ := bnd_inv e
  refine ⟨ρ, hp, ad, d, h1, st, e1, fun v H' ad' x p r k => ?_⟩
  split at e2
  · rename_i i
    cases e2
    exact ⟨i, k.i, q H' ad' x p r⟩
  · cases e2)⟩
def cutD (xs : List D) (lo hi : Option Int) : List D := (xs.drop (HT.sIx xs.length 0 lo)).take (HT.sIx xs.length xs.length hi - HT.sIx xs.length 0 lo)
def slcD (lo hi : Option Int) : D → Hd → Option (D × Hd)
  | .tup ds, hp => some (.tup (cutD ds lo hi), hp)
  | .ref n, hp => (match lstOf hp n with
    | some ds => some (.ref hp.n, hp.push (.lst (cutD ds lo hi)))
    | none => none)
  | _, _ => none
theorem cut_rd {E : En} {ad : List Addr} {H : Hp} {ds : List D} {vs : List V} (k : RDs E ad H ds vs) (lo hi : Option Int) : RDs E ad H (cutD ds lo hi) (cutV vs lo hi) := by
  unfold cutD cutV
  rw [← k.length]
  exact (k.drop _).take _
def rSlD (E : En) : V → Option Int → Option Int → Hp → VK → Prop := fun x lo hi H Q => ∃ ad hp d1 d hp', HR E ad H hp ∧ RD E ad H d1 x ∧ slcD lo hi d1 hp = some (d, hp') ∧ PostE E ad H d hp' Q
theorem sl_D : L2.SlR X (rSlD (en X)) := by
  intro pins s σ H x v vl vu lo hi sl Q I rx hs pl pu ⟨ad, hp, d1, d, hp', hr, k1, e, q⟩
  unfold slcD at e
  split at e
  · rename_i ds
    cases e
    obtain ⟨a, vs, ex, hq, r⟩ := k1.t
    refine sl_tupA pins s σ H x v vl vu lo hi sl Q I rx hs pl pu ⟨a, vs, ex, hq, fun hw => ?_, fun _ p n => tup_new hr n (cut_rd r lo hi) q⟩
    have e2 : cutD ds lo hi = ds := by
      unfold cutD
      rw [r.length, hw.1, hw.2]
      simp [← r.length]
    rw [e2] at q
    exact q.here hr (by rw [RD]; exact ⟨a, vs, rfl, hq, r⟩)
  · rename_i n
    split at e
    · rename_i ds e1
      cases e
      obtain ⟨a, ex, ha⟩ := k1.r
      obtain ⟨vs, hq, r⟩ := hr.lstR e1 ha
      exact sl_list pins s σ H x v vl vu lo hi sl Q I rx hs pl pu ⟨a, vs, ex, hq, fun p n => lst_new hr n (cut_rd r lo hi) q⟩
    · cases e
  · cases e
def mSlc (m : M D) (lo hi : M (Option Int)) : M D := bnd m fun d => bnd lo fun l => bnd hi fun u => lft (slcD l u d)
theorem le_slc {lo hi : Option Expr} {ml mh : M (Option Int)} (he : PE X a (rE (en X) ma)) (hl : PO X lo (rO (en X) ml)) (hu : PO X hi (rO (en X) mh)) : PE X (.Subscript a (.Slice lo hi none p2) pos) (rE (en X) (mSlc ma ml mh)) := by
  refine PE.mono (pe_slice sl_D he hl hu) fun σ H Q h => ?_
  obtain ⟨ρ, hp, ad, d, hp', st, e, q⟩ := h
  obtain ⟨d1, h1, e1, e⟩ := bnd_inv e
  obtain ⟨l, h2, e2, e⟩ := bnd_inv e
  obtain ⟨u, h3, e3, e⟩ := bnd_inv e
  refine ⟨ρ, hp, ad, d1, h1, st, e1, fun x H1 a1 x1 p1 r1 k1 => ?_⟩
  refine ⟨ρ, h1, a1, l, h2, st.next x1 p1 r1, e2, fun H2 a2 x2 p2 r2 => ?_⟩
  refine ⟨ρ, h2, a2, u, h3, st.next (x1.trans x2) (p1.trans p2) r2, e3, fun H3 a3 x3 p3 r3 => ?_⟩
  exact ⟨a3, h3, d1, d, hp', r3, k1.mono (x2.trans x3) (p2.trans p3), e, q.next ((x1.trans x2).trans x3) ((p1.trans p2).trans p3)⟩
end
end DL
namespace DL
open PySem PySem.Spec PyProof.Rows L2

abbrev Fn := List D → Hd → Option (D × Hd)
def rC (E : En) (f : Fn) : List V → Hp → VK → Prop := fun xs H Q => ∃ ad hp ds d hp', HR E ad H hp ∧ RDs E ad H ds xs ∧ f ds hp = some (d, hp') ∧ PostE E ad H d hp' Q
section
variable {X : Cx} {x : Str} {p pos : Pos} {e : Expr} {es : List Expr} {ms : M (List D)} {id T : String} {f : Fn}
theorem rE_call {E : En} {σ : L2.St} {H : Hp} {Q : VK} (h : rE E (mCall f ms) σ H Q) : tCB (rC E f) (rA E ms) σ H Q := by
  obtain ⟨ρ, hp, ad, d, hp', st, e, q⟩ := h
  obtain ⟨ds, h1, e1, e2⟩ := bnd_inv e
  exact ⟨ρ, hp, ad, ds, h1, st, e1, fun vs H' ad' x p r k => ⟨ad', h1, ds, d, hp', r, k, e2, q.next x p⟩⟩
theorem le_callB (hc : CallR X (.builtin id) (rC (en X) f)) (hg : Gl X x) (hm : X.mg x = none) (hv : bootBuiltins x = some (.builtin id)) (ha : PA X (e :: es) (rA (en X) ms)) (hn : x ≠ "__name__" := by decide) (hdb : (x == ("__debug__" : Str)) = false := by decide)
    (he : starEach (e :: es) X.env = (false, eval e X.env) :: starEach es X.env := by rfl) (hpl : (backTo pos (starEach es X.env)).any (·.1) = false := by rfl) : PE X (.Call (.Name x p) (e :: es) [] pos) (rE (en X) (mCall f ms)) :=
  PE.mono (pe_callB hc hg hm hv ha hn hdb he hpl) fun _ _ _ h => rE_call h
theorem le_callTy (hc : CallR X (.type T) (rC (en X) f)) (hg : Gl X x) (hm : X.mg x = none) (hv : bootBuiltins x = some (.type T)) (ha : PA X (e :: es) (rA (en X) ms)) (hn : x ≠ "__name__" := by decide) (hdb : (x == ("__debug__" : Str)) = false := by decide)
    (he : starEach (e :: es) X.env = (false, eval e X.env) :: starEach es X.env := by rfl) (hpl : (backTo pos (starEach es X.env)).any (·.1) = false := by rfl) : PE X (.Call (.Name x p) (e :: es) [] pos) (rE (en X) (mCall f ms)) :=
  PE.mono (pe_callTy hc hg hm hv ha hn hdb he hpl) fun _ _ _ h => rE_call h
theorem RDs.one {E : En} {ad : List Addr} {H : Hp} {d : D} {xs : List V} (k : RDs E ad H [d] xs) : ∃ v, xs = [v] ∧ RD E ad H d v := by
  rw [RDs] at k
  obtain ⟨v, r, rfl, k1, k2⟩ := k
  rw [RDs] at k2
  subst k2
  exact ⟨v, rfl, k1⟩
theorem RDs.two {E : En} {ad : List Addr} {H : Hp} {d d' : D} {xs : List V} (k : RDs E ad H [d, d'] xs) : ∃ v w, xs = [v, w] ∧ RD E ad H d v ∧ RD E ad H d' w := by
  rw [RDs] at k
  obtain ⟨v, r, rfl, k1, k2⟩ := k
  obtain ⟨w, rfl, k3⟩ := RDs.one k2
  exact ⟨v, w, rfl, k1, k3⟩
/-- a list or a tuple, to be read -/
def seqOf (hp : Hd) : D → Option (List D)
  | .tup ds => some ds
  | .ref n => lstOf hp n
  | .kl ns => some (ns.map .int)
  | _ => none
theorem rds_ints {E : En} {ad : List Addr} {H : Hp} : ∀ ns : List Int, RDs E ad H (ns.map D.int) (ns.map V.int)
  | [] => .nil
  | n :: ns => .cons (by rw [RD]) (rds_ints ns)
theorem seqOf_ok {E : En} {ad : List Addr} {H : Hp} {hp : Hd} {d : D} {v : V} {ds : List D} (hr : HR E ad H hp) (e : seqOf hp d = some ds) (k : RD E ad H d v) : ∃ a vs, v = .ref a ∧ (SqL E.K H a vs ∨ SqT E.K H a vs) ∧ RDs E ad H ds vs := by
  unfold seqOf at e
  split at e
  · cases e
    obtain ⟨a, vs, ex, hs, r⟩ := k.t
    exact ⟨a, vs, ex, .inr hs, r⟩
  · obtain ⟨a, ex, ha⟩ := k.r
    obtain ⟨vs, hs, r⟩ := hr.lstR e ha
    exact ⟨a, vs, ex, .inl hs, r⟩
  · rename_i ns
    cases e
    rw [RD] at k
    obtain ⟨a, ex, h⟩ := k
    exact ⟨a, _, ex, .inl h.l, rds_ints ns⟩
  · cases e

theorem len_body_raw {prog : Program} {w : World} {A : Around} {E : Value → Shared → Prop} {s : Shared} {d : Addr} {es : Array DictEntry} {ep : Nat} {Q : Value → Shared → Prop} (hd : (d == sysModules) = false) (hm : s.heap.DictRaw d es ep) (hfit : (es.size : Int) < 2 ^ 63)
    (h : Q (.int es.size (s.toks + 1)) { s with toks := s.toks + 1 + 1 }) : wpAny (model prog w) A (Builtin.«len» ⟨[.ref d], []⟩) (fun fin s' => ∃ r, fin = .done (.ret r) ∧ Q r s') E s := by
  unfold Builtin.«len»
  refine wpAny_bind (m := oneArg "len" _) (wpAny_pure ?_)
  refine wpAny_bind (m := callSpecial? (.ref d) (Str.ofString "__len__")) (wpAny_callSpecial?_slot (name := Str.ofString "__len__") hm.typeIs F.slot_dict_len (call_len_raw hd hm ?_))
  refine wpAny_bind (wpAny_holding (wpAny_pure ?_))
  refine wpAny_bind (wpAny_letGo ?_)
  show wpAny _ _ (if ((es.size : Nat) : Int) < 0 then _ else _) _ _ _
  rw [if_neg (by omega)]
  show wpAny _ _ (if ((es.size : Nat) : Int) ≥ 2 ^ 63 then _ else _) _ _ _
  rw [if_neg (by omega)]
  exact wpAny_bind (wpAny_mkInt (wpAny_pure ⟨_, rfl, h⟩))
theorem call_len_rawD {prog : Program} {w : World} {A : Around} {E : Value → Shared → Prop} {s : Shared} {d : Addr} {es : Array DictEntry} {ep : Nat} {Q : Value → Shared → Prop} (hd : (d == sysModules) = false) (hm : s.heap.DictRaw d es ep) (hfit : (es.size : Int) < 2 ^ 63)
    (h : Q (.int es.size (s.toks + 1)) { s with toks := s.toks + 1 + 1 }) : wpAny (model prog w) A (call (.builtin "len") [.ref d]) Q E s :=
  Calls.call_function_entry kind_len plain_len entry_len (args_len1 _) (len_body_raw hd hm hfit h)
theorem dic_raw {pins : List (Addr × Obj)} {σ : L2.St} {H : Hp} {s : Shared} {a : Addr} {vs : List (V × Int × V)} (I : Inv X pins σ H s) (h : Rd H a (DcO a vs)) : DcP a vs s.heap := (h.ok I.hok).1
theorem DcP.raw {a : Addr} {vs : List (V × Int × V)} {h : Heap} (x : DcP a vs h) : ∃ es ep, h.DictRaw a es ep ∧ es.size = vs.length := by
  obtain ⟨o, es, ep, e, c, d, r⟩ := x
  refine ⟨es, ep, ⟨o, e, c, d⟩, ?_⟩
  have := Paired.length r
  simpa using this.symm
theorem PRs.length {E : En} {ad : List Addr} {H : Hp} : ∀ {kvs : List (D × D)} {vs : List (V × Int × V)}, PRs E ad H kvs vs → kvs.length = vs.length
  | [], _, h => by cases h; rfl
  | p :: ps, vs, h => by
    obtain ⟨v, r, k, e, _, _, _, _, h5⟩ := h
    subst e
    simp [PRs.length h5]
def lenF : Fn
  | [.str x], hp => if x.length ≤ big then some (.int x.length, hp) else none
  | [.tup ds], hp => some (.int ds.length, hp)
  | [.ref n], hp => (match lstOf hp n with
    | some ds => some (.int ds.length, hp)
    | none => (match dicOf hp n with
      | some ds => some (.int ds.length, hp)
      | none => none))
  | _, _ => none
theorem call_lenF : CallR X (.builtin "len") (rC (en X) lenF) := by
  intro pins s σ H xs us Q I r ⟨ad, hp, ds, d, hp', hr, k, e, q⟩
  unfold lenF at e
  split at e
  · rename_i x
    split at e
    · rename_i hz
      cases e
      obtain ⟨v, rfl, k1⟩ := k.one
      rw [k1.x] at r
      exact call_len pins s σ H _ us Q I r ⟨_, _, rfl, ⟨big_ok hz, rfl⟩, q.here hr (rdI _)⟩
    · cases e
  · rename_i ds
    cases e
    obtain ⟨v, rfl, k1⟩ := k.one
    obtain ⟨a, vs, rfl, hs, k2⟩ := k1.t
    refine call_len pins s σ H _ us Q I r ⟨_, _, rfl, .inr ⟨vs, hs, rfl⟩, ?_⟩
    rw [← k2.length]
    exact q.here hr (rdI _)
  · rename_i n
    split at e
    · rename_i ds e1
      cases e
      obtain ⟨v, rfl, k1⟩ := k.one
      obtain ⟨a, rfl, ha⟩ := k1.r
      obtain ⟨vs, hs, k2⟩ := hr.lstR e1 ha
      refine call_len pins s σ H _ us Q I r ⟨_, _, rfl, .inl ⟨vs, hs, rfl⟩, ?_⟩
      rw [← k2.length]
      exact q.here hr (rdI _)
    · split at e
      · rename_i ds e1
        cases e
        obtain ⟨v, rfl, k1⟩ := k.one
        obtain ⟨a, rfl, ha⟩ := k1.r
        obtain ⟨vs, hs, hz, hsy, k2, ko⟩ := hr.dicR e1 ha
        obtain ⟨u, rfl, ru⟩ := vals1 r
        cases ru
        obtain ⟨es, ep, raw, hsz⟩ := (dic_raw I hs).raw
        have hl : es.size ≤ sizeLine := by rw [hsz, ← k2.length]; exact hz
        have h63 := line63
        refine call_len_rawD hsy raw (by omega) ?_
        refine ⟨.int es.size, H, I.tok _, ⟨_, rfl⟩, ?_⟩
        rw [hsz, ← k2.length]
        exact q.here hr (rdI _)
      · cases e
  · cases e

def intF : Fn
  | [.int i], hp => some (.int i, hp)
  | [.bl b], hp => some (.int (if b = true then 1 else 0), hp)
  | _, _ => none
theorem call_intF : CallR X (.type "int") (rC (en X) intF) := by
  intro pins s σ H xs us Q I r ⟨ad, hp, ds, d, hp', hr, k, e, q⟩
  unfold intF at e
  split at e
  · cases e
    obtain ⟨v, rfl, k1⟩ := k.one
    rw [k1.i] at r
    exact call_int1 pins s σ H _ us Q I r (.inl ⟨_, rfl, q.here hr (rdI _)⟩)
  · cases e
    obtain ⟨v, rfl, k1⟩ := k.one
    rw [k1.b] at r
    exact call_int1 pins s σ H _ us Q I r (.inr ⟨_, rfl, q.here hr (rdI _)⟩)
  · cases e
def absF : Fn
  | [.int i], hp => some (.int (if i < 0 then -i else i), hp)
  | _, _ => none
theorem call_absF : CallR X (.builtin "abs") (rC (en X) absF) := by
  intro pins s σ H xs us Q I r ⟨ad, hp, ds, d, hp', hr, k, e, q⟩
  unfold absF at e
  split at e
  · cases e
    obtain ⟨v, rfl, k1⟩ := k.one
    rw [k1.i] at r
    exact call_abs pins s σ H _ us Q I r ⟨_, rfl, q.here hr (rdI _)⟩
  · cases e
def min2F : Fn
  | [.int i, .int j], hp => some (.int (if j < i then j else i), hp)
  | _, _ => none
def max2F : Fn
  | [.int i, .int j], hp => some (.int (if j > i then j else i), hp)
  | _, _ => none
theorem call_min2F (hc : X.calm = true) : CallR X (.builtin "min") (rC (en X) min2F) := by
  intro pins s σ H xs us Q I r ⟨ad, hp, ds, d, hp', hr, k, e, q⟩
  unfold min2F at e
  split at e
  · cases e
    obtain ⟨v, w, rfl, k1, k2⟩ := k.two
    rw [k1.i, k2.i] at r
    exact call_min2 hc pins s σ H _ us Q I r ⟨_, _, rfl, q.here hr (rdI _)⟩
  · cases e
theorem call_max2F (hc : X.calm = true) : CallR X (.builtin "max") (rC (en X) max2F) := by
  intro pins s σ H xs us Q I r ⟨ad, hp, ds, d, hp', hr, k, e, q⟩
  unfold max2F at e
  split at e
  · cases e
    obtain ⟨v, w, rfl, k1, k2⟩ := k.two
    rw [k1.i, k2.i] at r
    exact call_max2 hc pins s σ H _ us Q I r ⟨_, _, rfl, q.here hr (rdI _)⟩
  · cases e
def blsD : List D → Option (List Bool)
  | [] => some []
  | .bl i :: ds => (blsD ds).map (i :: ·)
  | _ => none
theorem blsD_ok : ∀ {E : En} {ad : List Addr} {H : Hp} {ds : List D} {vs : List V} {ns : List Bool}, blsD ds = some ns → RDs E ad H ds vs → vs = ns.map V.bl
  | E, ad, H, [], vs, ns, e, k => by
    cases e
    rw [RDs] at k
    exact k
  | E, ad, H, d :: ds, vs, ns, e, k => by
    rw [RDs] at k
    obtain ⟨v, r, rfl, k1, k2⟩ := k
    cases d with
    | bl i =>
      rw [blsD] at e
      cases q : blsD ds with
      | none => rw [q] at e; cases e
      | some ms =>
        rw [q] at e
        cases e
        rw [k1.b, blsD_ok q k2]
        rfl
    | _ => cases e
/-- the ints, the bools of a list -/
def intsOf (hp : Hd) (n : Nat) : Option (List Int) := (lstOf hp n).bind intsD
def blsOf (hp : Hd) (n : Nat) : Option (List Bool) := (lstOf hp n).bind blsD
theorem intsOf_ok {E : En} {ad : List Addr} {H : Hp} {hp : Hd} {n : Nat} {v : V} {ns : List Int} (hr : HR E ad H hp) (e : intsOf hp n = some ns) (k : RD E ad H (.ref n) v) : ∃ a, v = .ref a ∧ SqL E.K H a (ns.map V.int) := by
  unfold intsOf at e
  obtain ⟨a, rfl, ha⟩ := k.r
  cases z : lstOf hp n with
  | none => rw [z] at e; cases e
  | some ds =>
    rw [z] at e
    obtain ⟨vs, hs, r⟩ := hr.lstR z ha
    have := intsD_ok e r
    subst this
    exact ⟨a, rfl, hs⟩
theorem blsOf_ok {E : En} {ad : List Addr} {H : Hp} {hp : Hd} {n : Nat} {v : V} {ns : List Bool} (hr : HR E ad H hp) (e : blsOf hp n = some ns) (k : RD E ad H (.ref n) v) : ∃ a, v = .ref a ∧ SqL E.K H a (ns.map V.bl) := by
  unfold blsOf at e
  obtain ⟨a, rfl, ha⟩ := k.r
  cases z : lstOf hp n with
  | none => rw [z] at e; cases e
  | some ds =>
    rw [z] at e
    obtain ⟨vs, hs, r⟩ := hr.lstR z ha
    have := blsD_ok e r
    subst this
    exact ⟨a, rfl, hs⟩
def sumF : Fn
  | [.ref n], hp => (intsOf hp n).map fun ns => (.int ns.sum, hp)
  | _, _ => none
def allF : Fn
  | [.ref n], hp => (blsOf hp n).map fun ns => (.bl (ns.all fun b => b), hp)
  | _, _ => none
def anyF : Fn
  | [.ref n], hp => (blsOf hp n).map fun ns => (.bl (ns.any fun b => b), hp)
  | _, _ => none
def maxI : List Int → Int
  | [] => 0
  | i :: is => match is with
    | [] => i
    | j :: js => if maxI (j :: js) < i then i else maxI (j :: js)
def minI : List Int → Int
  | [] => 0
  | i :: is => match is with
    | [] => i
    | j :: js => if i < minI (j :: js) then i else minI (j :: js)
theorem maxI_ok : ∀ {ns : List Int} {m : Int}, m ∈ ns → (∀ y, y ∈ ns → y ≤ m) → m = maxI ns
  | [], m, h, _ => by cases h
  | [i], m, h, _ => by simpa [maxI] using h
  | i :: j :: is, m, h, hm => by
    show m = if maxI (j :: is) < i then i else maxI (j :: is)
    by_cases hj : m ∈ j :: is
    · have e := maxI_ok hj fun y hy => hm y (List.mem_cons_of_mem _ hy)
      rw [← e, if_neg (by have := hm i List.mem_cons_self; omega)]
    · have e : m = i := by
        rcases List.mem_cons.mp h with z | z
        · exact z
        · exact absurd z hj
      subst e
      have h1 : maxI (j :: is) ∈ j :: is := maxI_mem j is
      have h2 : maxI (j :: is) ≤ m := hm _ (List.mem_cons_of_mem _ h1)
      have h3 : maxI (j :: is) ≠ m := fun z => hj (z ▸ h1)
      rw [if_pos (by omega)]
where
  maxI_mem : ∀ (j : Int) (is : List Int), maxI (j :: is) ∈ j :: is
    | j, [] => by simp [maxI]
    | j, k :: is => by
      show (if maxI (k :: is) < j then j else maxI (k :: is)) ∈ j :: k :: is
      split
      · exact List.mem_cons_self
      · exact List.mem_cons_of_mem _ (maxI_mem k is)
theorem minI_ok : ∀ {ns : List Int} {m : Int}, m ∈ ns → (∀ y, y ∈ ns → m ≤ y) → m = minI ns
  | [], m, h, _ => by cases h
  | [i], m, h, _ => by simpa [minI] using h
  | i :: j :: is, m, h, hm => by
    show m = if i < minI (j :: is) then i else minI (j :: is)
    by_cases hj : m ∈ j :: is
    · have e := minI_ok hj fun y hy => hm y (List.mem_cons_of_mem _ hy)
      rw [← e, if_neg (by have := hm i List.mem_cons_self; omega)]
    · have e : m = i := by
        rcases List.mem_cons.mp h with z | z
        · exact z
        · exact absurd z hj
      subst e
      have h1 : minI (j :: is) ∈ j :: is := minI_mem j is
      have h2 : m ≤ minI (j :: is) := hm _ (List.mem_cons_of_mem _ h1)
      have h3 : minI (j :: is) ≠ m := fun z => hj (z ▸ h1)
      rw [if_pos (by omega)]
where
  minI_mem : ∀ (j : Int) (is : List Int), minI (j :: is) ∈ j :: is
    | j, [] => by simp [minI]
    | j, k :: is => by
      show (if j < minI (k :: is) then j else minI (k :: is)) ∈ j :: k :: is
      split
      · exact List.mem_cons_self
      · exact List.mem_cons_of_mem _ (minI_mem k is)
def maxF : Fn
  | [.ref n], hp => (match intsOf hp n with
    | some (i :: is) => some (.int (maxI (i :: is)), hp)
    | _ => none)
  | _, _ => none
def minF : Fn
  | [.ref n], hp => (match intsOf hp n with
    | some (i :: is) => some (.int (minI (i :: is)), hp)
    | _ => none)
  | _, _ => none
theorem call_sumF (hc : X.calm = true) : CallR X (.builtin "sum") (rC (en X) sumF) := by
  intro pins s σ H xs us Q I r ⟨ad, hp, ds, d, hp', hr, k, e, q⟩
  unfold sumF at e
  split at e
  · rename_i n
    cases z : intsOf hp n with
    | none => rw [z] at e; cases e
    | some ns =>
      rw [z] at e
      cases e
      obtain ⟨v, rfl, k1⟩ := k.one
      obtain ⟨a, rfl, hs⟩ := intsOf_ok hr z k1
      exact cr_sum hc pins s σ H _ us Q I r ⟨a, ns, rfl, hs, q.here hr (rdI _)⟩
  · cases e
theorem call_allF (hc : X.calm = true) : CallR X (.builtin "all") (rC (en X) allF) := by
  intro pins s σ H xs us Q I r ⟨ad, hp, ds, d, hp', hr, k, e, q⟩
  unfold allF at e
  split at e
  · rename_i n
    cases z : blsOf hp n with
    | none => rw [z] at e; cases e
    | some ns =>
      rw [z] at e
      cases e
      obtain ⟨v, rfl, k1⟩ := k.one
      obtain ⟨a, rfl, hs⟩ := blsOf_ok hr z k1
      exact cr_all hc pins s σ H _ us Q I r ⟨a, ns, rfl, hs, q.here hr (rdB _)⟩
  · cases e
theorem call_anyF (hc : X.calm = true) : CallR X (.builtin "any") (rC (en X) anyF) := by
  intro pins s σ H xs us Q I r ⟨ad, hp, ds, d, hp', hr, k, e, q⟩
  unfold anyF at e
  split at e
  · rename_i n
    cases z : blsOf hp n with
    | none => rw [z] at e; cases e
    | some ns =>
      rw [z] at e
      cases e
      obtain ⟨v, rfl, k1⟩ := k.one
      obtain ⟨a, rfl, hs⟩ := blsOf_ok hr z k1
      exact cr_any hc pins s σ H _ us Q I r ⟨a, ns, rfl, hs, q.here hr (rdB _)⟩
  · cases e
theorem call_maxF (hc : X.calm = true) : CallR X (.builtin "max") (rC (en X) maxF) := by
  intro pins s σ H xs us Q I r ⟨ad, hp, ds, d, hp', hr, k, e, q⟩
  unfold maxF at e
  split at e
  · rename_i n
    split at e
    · rename_i i is z
      cases e
      obtain ⟨v, rfl, k1⟩ := k.one
      obtain ⟨a, rfl, hs⟩ := intsOf_ok hr z k1
      refine cr_max hc pins s σ H _ us Q I r ⟨a, i :: is, rfl, hs, by simp, fun m h1 h2 => ?_⟩
      rw [maxI_ok h1 h2]
      exact q.here hr (rdI _)
    · cases e
  · cases e
theorem call_minF (hc : X.calm = true) : CallR X (.builtin "min") (rC (en X) minF) := by
  intro pins s σ H xs us Q I r ⟨ad, hp, ds, d, hp', hr, k, e, q⟩
  unfold minF at e
  split at e
  · rename_i n
    split at e
    · rename_i i is z
      cases e
      obtain ⟨v, rfl, k1⟩ := k.one
      obtain ⟨a, rfl, hs⟩ := intsOf_ok hr z k1
      refine cr_min hc pins s σ H _ us Q I r ⟨a, i :: is, rfl, hs, by simp, fun m h1 h2 => ?_⟩
      rw [minI_ok h1 h2]
      exact q.here hr (rdI _)
    · cases e
  · cases e

def listF : Fn
  | [d], hp => (match seqOf hp d with
    | some ds => some (.ref hp.n, hp.push (.lst ds))
    | none => none)
  | _, _ => none
def tupleF : Fn
  | [d], hp => (match seqOf hp d with
    | some ds => some (.tup ds, hp)
    | none => none)
  | _, _ => none
theorem call_listF : CallR X (.type "list") (rC (en X) listF) := by
  intro pins s σ H xs us Q I r ⟨ad, hp, ds, d, hp', hr, k, e, q⟩
  unfold listF at e
  split at e
  · split at e
    · rename_i d0 ds z
      cases e
      obtain ⟨v, rfl, k1⟩ := k.one
      obtain ⟨a, vs, rfl, hs, k2⟩ := seqOf_ok hr z k1
      exact call_list_of pins s σ H _ us Q I r ⟨a, vs, rfl, hs, fun l n => lst_new hr n k2 q⟩
    · cases e
  · cases e
theorem call_tupleF : CallR X (.type "tuple") (rC (en X) tupleF) := by
  intro pins s σ H xs us Q I r ⟨ad, hp, ds, d, hp', hr, k, e, q⟩
  unfold tupleF at e
  split at e
  · split at e
    · rename_i d0 ds z
      cases e
      obtain ⟨v, rfl, k1⟩ := k.one
      obtain ⟨a, vs, rfl, hs, k2⟩ := seqOf_ok hr z k1
      rcases hs with hs | hs
      · exact call_tuple_of pins s σ H _ us Q I r ⟨a, vs, rfl, .inl ⟨hs, fun l n => tup_new hr n k2 q⟩⟩
      · exact call_tuple_of pins s σ H _ us Q I r ⟨a, vs, rfl, .inr ⟨hs, q.here hr (by rw [RD]; exact ⟨a, vs, rfl, hs, k2⟩)⟩⟩
    · cases e
  · cases e
end
end DL
namespace DL
open PySem PySem.Spec PyProof.Rows L2

def chkT (T : String) (d : D) (hp : Hd) : Bool := match d with
  | .str _ => T == "str"
  | .ref n => (T == "list" && (lstOf hp n).isSome) || (T == "dict" && (dicOf hp n).isSome)
  | _ => false
section
variable {X : Cx}
theorem chkT_is {pins : List (Addr × Obj)} {σ : L2.St} {H : Hp} {s : Shared} {T : String} {d : D} {x : V} {v : Value} {ad : List Addr} {hp : Hd} (I : Inv X pins σ H s) (hr : HR (en X) ad H hp) (k : RD (en X) ad H d x) (r : RelV x v) (c : chkT T d hp = true) :
    s.TypeIs v T ∧ ∀ a, v = .ref a → ∃ ob, s.heap.get? a = some ob ∧ ob.dict = none := by
  unfold chkT at c
  split at c
  · rw [k.x] at r
    obtain ⟨t, rfl⟩ := r
    have e : T = "str" := by simpa using c
    subst e
    exact ⟨typeIs_str s _ t, fun _ e => nomatch e⟩
  · rename_i n
    obtain ⟨a, rfl, ha⟩ := k.r
    cases r
    rw [Bool.or_eq_true] at c
    rcases c with c | c
    · rw [Bool.and_eq_true] at c
      obtain ⟨c1, c2⟩ := c
      have e : T = "list" := by simpa using c1
      subst e
      obtain ⟨ds, e1⟩ := Option.isSome_iff_exists.mp c2
      obtain ⟨vs, hs, _⟩ := hr.lstR e1 ha
      obtain ⟨its, _, pl, _⟩ := I.list hs
      refine ⟨pl.isList.typeIs, fun a e => ?_⟩
      cases e
      obtain ⟨o, n, e, c, hd, _⟩ := pl
      exact ⟨o, e, hd⟩
    · rw [Bool.and_eq_true] at c
      obtain ⟨c1, c2⟩ := c
      have e : T = "dict" := by simpa using c1
      subst e
      obtain ⟨ds, e1⟩ := Option.isSome_iff_exists.mp c2
      obtain ⟨vs, hs, _⟩ := hr.dicR e1 ha
      obtain ⟨o, es, ep, e2, ex, _⟩ := dic_raw I hs
      refine ⟨⟨o, e2, ex.1⟩, fun a e => ?_⟩
      cases e
      exact ⟨o, e2, ex.2.1⟩
  · cases c
abbrev Mt := D → List D → Hd → Option (D × Hd)
def rMt (E : En) (f : Mt) : V → List V → Hp → VK → Prop := fun x xs H Q => ∃ ad hp o ds d hp', HR E ad H hp ∧ RD E ad H o x ∧ RDs E ad H ds xs ∧ f o ds hp = some (d, hp') ∧ PostE E ad H d hp' Q
def mMeth (T : String) (f : Mt) (mo : M D) (ms : M (List D)) : M D := bnd mo fun o ρ hp => if chkT T o hp = true then bnd ms (fun ds => lft (f o ds)) ρ hp else none
variable {o e : Expr} {es : List Expr} {mo : M D} {ms : M (List D)} {name : Str} {apos cpos : Pos} {T id : String} {f : Mt}
theorem le_bm0 (pa : PlainAttrs T) (slot : Slot T name id) (hty : typeOf (.builtin id) = pure (.type "method_descriptor")) (hm : MtR X id (rMt (en X) f)) (ho : PE X o (rE (en X) mo))
    (hbase : attributeBase o name X.env (eval o X.env) = eval o X.env := by rfl) (hline : (apos.endLine == cpos.line) = true := by rfl) : PE X (.Call (.Attribute o name apos) [] [] cpos) (rE (en X) (mMeth T f mo (pur []))) := by
  refine ⟨fun pins s σ H Q I h => ?_⟩
  obtain ⟨ρ, hp, ad, d, hp', st, e, q⟩ := h
  obtain ⟨o1, h1, e1, e2⟩ := bnd_inv e
  split at e2
  · rename_i hc
    obtain ⟨ds, h2, e3, e4⟩ := bnd_inv e2
    cases e3
    refine wpAny_Call_method0_late hbase hline (thn (ho.run pins s σ H (fun x H1 => ∃ ad1, Ex (en X) H H1 ∧ ad <+: ad1 ∧ HR (en X) ad1 H1 h1 ∧ RD (en X) ad1 H1 o1 x) I ⟨ρ, hp, ad, o1, h1, st, e1, fun v H' ad' x p r k => ⟨ad', x, p, r, k⟩⟩) fun v s1 ⟨x, H1, I1, r1, ad1, x1, p1, hr1, k1⟩ => ?_)
    obtain ⟨h1, h2⟩ := chkT_is I1 hr1 k1 r1 hc
    exact ⟨T, id, pa, slot, hty, h1, h2, Calls.callWith_builtin rfl (PySem.evalArgs_none (hm pins s1 σ H1 x [] v [] Q I1 r1 .nil ⟨ad1, _, o1, [], d, hp', hr1, k1, .nil, e4, q.next x1 p1⟩))⟩
  · cases e2
theorem le_bm (pa : PlainAttrs T) (slot : Slot T name id) (hty : typeOf (.builtin id) = pure (.type "method_descriptor")) (hm : MtR X id (rMt (en X) f)) (ho : PE X o (rE (en X) mo)) (ha : PA X (e :: es) (rA (en X) ms))
    (hbase : attributeBase o name X.env (eval o X.env) = eval o X.env := by rfl)
    (hfew : ((backTo cpos (starEach (e :: es) X.env)).all (fun x => !x.1) && (backToKw cpos (keywordEach [] X.env)).all (fun x => x.1.isSome)
      && decide ((e :: es).length + ([] : List Keyword).length + (if ([] : List Keyword).isEmpty then 0 else 1) < 30)) = true := by rfl)
    (hline : (apos.endLine == cpos.line) = true := by rfl) (hs : starEach (e :: es) X.env = (false, eval e X.env) :: starEach es X.env := by rfl) (hplain : (backTo cpos (starEach es X.env)).any (·.1) = false := by rfl) :
    PE X (.Call (.Attribute o name apos) (e :: es) [] cpos) (rE (en X) (mMeth T f mo ms)) := by
  refine ⟨fun pins s σ H Q I h => ?_⟩
  obtain ⟨ρ, hp, ad, d, hp', st, e0, q⟩ := h
  obtain ⟨o1, h1, e1, e2⟩ := bnd_inv e0
  split at e2
  · rename_i hc
    obtain ⟨ds, h2, e3, e4⟩ := bnd_inv e2
    refine wpAny_Call_method_late hbase hfew hline rfl (thn (ho.run pins s σ H (fun x H1 => ∃ ad1, Ex (en X) H H1 ∧ ad <+: ad1 ∧ HR (en X) ad1 H1 h1 ∧ RD (en X) ad1 H1 o1 x) I ⟨ρ, hp, ad, o1, h1, st, e1, fun v H' ad' x p r k => ⟨ad', x, p, r, k⟩⟩) fun v s1 ⟨x, H1, I1, r1, ad1, x1, p1, hr1, k1⟩ => ?_)
    obtain ⟨g1, g2⟩ := chkT_is I1 hr1 k1 r1 hc
    refine ⟨T, id, pa, slot, hty, g1, g2, ?_⟩
    have hA := ha.run cpos pins s1 σ H1 (fun xs H2 => rMt (en X) f x xs H2 Q) I1 ⟨ρ, h1, ad1, ds, h2, st.next x1 p1 hr1, e3, fun vs H2 a2 x2 p2 r2 k2 => ⟨a2, h2, o1, ds, d, hp', r2, k1.mono x2 p2, k2, e4, q.next (x1.trans x2) (p1.trans p2)⟩⟩
    rw [hs] at hA ⊢
    refine Calls.callWith_builtin (by show (false || (backTo cpos (starEach es X.env)).any (·.1)) = false; rw [hplain] <;> rfl) (Calls.evalArgs_plain ?_)
    exact thn hA fun us s2 ⟨vs, H2, I2, r2, q2⟩ => hm pins s2 σ H2 x vs v us Q I2 r1 r2 q2
  · cases e2

/-- a change of the list at n -/
theorem lst_put {E : En} {ad : List Addr} {H : Hp} {hp : Hd} {n : Nat} {a : Addr} {vs ws : List V} {es : List D} {d : D} {v : V} {Q : VK} (hr : HR E ad H hp) (ha : ad[n]? = some a) (h : H a = some (.lst vs)) (k : RDs E ad H es ws) (kd : RD E ad H d v) (q : PostE E ad H d (hp.set n (.lst es)) Q) : Q v (upd H a (.lst ws)) := by
  have x : Ex E H (upd H a (.lst ws)) := .mut h True.intro
  exact q v _ ad x (List.prefix_refl _) (hr.set ha h True.intro ⟨_, upd_same, ws, rfl, k.mono x (List.prefix_refl _)⟩) (kd.mono x (List.prefix_refl _))
def appM : Mt
  | .ref n, [d], hp => (match hp.get n with
    | some (.lst ds) => if ds.length < big then some (.non, hp.set n (.lst (ds ++ [d]))) else none
    | _ => none)
  | _, _, _ => none
theorem mt_appM : MtR X "list.append" (rMt (en X) appM) := by
  intro pins s σ H x xs v us Q I rx rv ⟨ad, hp, o, ds, d, hp', hr, k1, k2, e, q⟩
  unfold appM at e
  split at e
  · rename_i n d0
    split at e
    · rename_i ds e1
      split at e
      · rename_i hz
        cases e
        obtain ⟨w, rfl, kw⟩ := k2.one
        obtain ⟨a, rfl, ha⟩ := k1.r
        obtain ⟨vs, h1, r1⟩ := hr.lst e1 ha
        exact mt_append pins s σ H _ _ v us Q I rx rv ⟨a, vs, w, rfl, rfl, h1, by rw [← r1.length]; exact big_lt hz, lst_put hr ha h1 (r1.append (.cons kw .nil)) rdN q⟩
      · cases e
    · cases e
  · cases e
def extM : Mt
  | .ref n, [.ref m], hp => (match hp.get n, hp.get m with
    | some (.lst ds), some (.lst es) => if ds.length + es.length ≤ big then some (.non, hp.set n (.lst (ds ++ es))) else none
    | _, _ => none)
  | _, _, _ => none
theorem mt_extM : MtR X "list.extend" (rMt (en X) extM) := by
  intro pins s σ H x xs v us Q I rx rv ⟨ad, hp, o, ds, d, hp', hr, k1, k2, e, q⟩
  unfold extM at e
  split at e
  · rename_i n m
    split at e
    · rename_i ds es e1 e2
      split at e
      · rename_i hz
        cases e
        obtain ⟨w, rfl, kw⟩ := k2.one
        obtain ⟨a, rfl, ha⟩ := k1.r
        obtain ⟨b, rfl, hb⟩ := kw.r
        obtain ⟨vs, h1, r1⟩ := hr.lst e1 ha
        obtain ⟨ws, h2, r2⟩ := hr.lst e2 hb
        exact mt_extend pins s σ H _ _ v us Q I rx rv ⟨a, b, vs, ws, rfl, rfl, h1, h2, by rw [← r1.length, ← r2.length]; exact big_ok hz, lst_put hr ha h1 (r1.append r2) rdN q⟩
      · cases e
    · cases e
  · cases e
theorem RDs.dropLast {E : En} {ad : List Addr} {H : Hp} {ds : List D} {vs : List V} (k : RDs E ad H ds vs) : RDs E ad H ds.dropLast vs.dropLast := by
  rw [List.dropLast_eq_take, List.dropLast_eq_take, ← k.length]
  exact k.take _
def popM : Mt
  | .ref n, [], hp => (match hp.get n with
    | some (.lst ds) => (match ds[ds.length - 1]? with
      | some d => some (d, hp.set n (.lst ds.dropLast))
      | none => none)
    | _ => none)
  | _, _, _ => none
theorem mt_popM : MtR X "list.pop" (rMt (en X) popM) := by
  intro pins s σ H x xs v us Q I rx rv ⟨ad, hp, o, ds, d, hp', hr, k1, k2, e, q⟩
  unfold popM at e
  split at e
  · rename_i n
    split at e
    · rename_i ds e1
      split at e
      · rename_i d0 e2
        cases e
        rw [RDs] at k2
        subst k2
        obtain ⟨a, rfl, ha⟩ := k1.r
        obtain ⟨vs, h1, r1⟩ := hr.lst e1 ha
        obtain ⟨w, ew, kw⟩ := r1.get e2
        exact mt_pop pins s σ H _ _ v us Q I rx rv ⟨a, vs, w, rfl, rfl, h1, by rw [← r1.length]; exact ew, lst_put hr ha h1 r1.dropLast kw q⟩
      · cases e
    · cases e
  · cases e
/-- pop(0) -/
def pop0M : Mt
  | .ref n, [.int 0], hp => (match hp.get n with
    | some (.lst (d :: ds)) => some (d, hp.set n (.lst ds))
    | _ => none)
  | _, _, _ => none
theorem mt_pop0M : MtR X "list.pop" (rMt (en X) pop0M) := by
  intro pins s σ H x xs v us Q I rx rv ⟨ad, hp, o, ds, d, hp', hr, k1, k2, e, q⟩
  unfold pop0M at e
  split at e
  · rename_i n
    split at e
    · rename_i d0 ds e1
      cases e
      obtain ⟨w, rfl, kw⟩ := k2.one
      rw [kw.i] at rv
      obtain ⟨a, rfl, ha⟩ := k1.r
      obtain ⟨vs, h1, r1⟩ := hr.lst e1 ha
      rw [RDs] at r1
      obtain ⟨y, ys, rfl, ky, kys⟩ := r1
      refine mt_popAt pins s σ H _ _ v us Q I rx rv ⟨a, y :: ys, 0, 0, y, rfl, rfl, h1, by decide, by decide, ?_, rfl, lst_put hr ha h1 kys ky q⟩
      exact (ixN_seq (n := (y :: ys).length) (i := 0) (j := 0) (by unfold ixN; rw [if_pos (by decide), if_pos (by simp only [List.length_cons]; omega)]; rfl)).1
    · cases e
  · cases e
def clrM : Mt
  | .ref n, [], hp => (match hp.get n with
    | some (.lst ds) => some (.non, hp.set n (.lst []))
    | _ => none)
  | _, _, _ => none
theorem mt_clrM : MtR X "list.clear" (rMt (en X) clrM) := by
  intro pins s σ H x xs v us Q I rx rv ⟨ad, hp, o, ds, d, hp', hr, k1, k2, e, q⟩
  unfold clrM at e
  split at e
  · rename_i n
    split at e
    · rename_i ds e1
      cases e
      rw [RDs] at k2
      subst k2
      obtain ⟨a, rfl, ha⟩ := k1.r
      obtain ⟨vs, h1, r1⟩ := hr.lst e1 ha
      exact mt_clear pins s σ H _ _ v us Q I rx rv ⟨a, vs, rfl, rfl, h1, lst_put hr ha h1 .nil rdN q⟩
    · cases e
  · cases e
end
end DL
namespace DL
open PySem PySem.Spec PyProof.Rows L2

section
variable {X : Cx}
theorem frz_dict {pins : List (Addr × Obj)} {σ : L2.St} {H : Hp} {s : Shared} {a : Addr} {o : Obj} {vs : List (V × Int × V)} (I : Inv X pins σ H s) (h : H a = some (.frz o (DcO a vs))) :
    s.heap.get? a = some o ∧ o.ExactDict ∧ ∃ es ep, o.data = .dict es ep ∧ Paired (fun (p : V × Int × V) (e : DictEntry) => RelV p.1 e.key ∧ e.hash = p.2.1 ∧ RelV p.2.2 e.val) vs es.toList := by
  obtain ⟨e, x⟩ := I.hok a _ h
  obtain ⟨⟨o', es, ep, e', c, d, r⟩, _⟩ := x
  rw [e] at e'
  cases e'
  exact ⟨e, c, es, ep, d, r⟩
def ItK (a : Addr) (o : Obj) : It :=
  ⟨fun i H => ∃ vs p, H a = some (.frz o (DcO a vs)) ∧ vs[i]? = some p, fun i H x H' => H' = H ∧ ∀ vs, H a = some (.frz o (DcO a vs)) → ∃ p, vs[i]? = some p ∧ x = p.1, fun i H => ∃ vs, H a = some (.frz o (DcO a vs)) ∧ vs.length ≤ i⟩
def ItV (a : Addr) (o : Obj) : It :=
  ⟨fun i H => ∃ vs p, H a = some (.frz o (DcO a vs)) ∧ vs[i]? = some p, fun i H x H' => H' = H ∧ ∀ vs, H a = some (.frz o (DcO a vs)) → ∃ p, vs[i]? = some p ∧ x = p.2.2, fun i H => ∃ vs, H a = some (.frz o (DcO a vs)) ∧ vs.length ≤ i⟩
def ItI (a : Addr) (o : Obj) : It :=
  ⟨fun i H => ∃ vs p, H a = some (.frz o (DcO a vs)) ∧ vs[i]? = some p, fun i H v H' => ∃ T x y, v = .ref T ∧ H T = none ∧ H' = upd H T (.tup [x, y]) ∧ ∀ vs, H a = some (.frz o (DcO a vs)) → ∃ p, vs[i]? = some p ∧ x = p.1 ∧ y = p.2.2, fun i H => ∃ vs, H a = some (.frz o (DcO a vs)) ∧ vs.length ≤ i⟩
theorem ent_get {vs : List (V × Int × V)} {es : Array DictEntry} (r : Paired (fun (p : V × Int × V) (e : DictEntry) => RelV p.1 e.key ∧ e.hash = p.2.1 ∧ RelV p.2.2 e.val) vs es.toList) {i : Nat} {p : V × Int × V} (h : vs[i]? = some p) :
    ∃ hi : i < es.size, RelV p.1 es[i].key ∧ RelV p.2.2 es[i].val := by
  obtain ⟨e, h1, h2⟩ := paired_get r h
  obtain ⟨hi, h3⟩ := List.getElem?_eq_some_iff.mp h1
  have hi' : i < es.size := by simpa using hi
  refine ⟨hi', ?_⟩
  have h4 : es[i] = e := by simpa using h3
  rw [h4]
  exact ⟨h2.1, h2.2.2⟩
theorem ent_len {vs : List (V × Int × V)} {es : Array DictEntry} (r : Paired (fun (p : V × Int × V) (e : DictEntry) => RelV p.1 e.key ∧ e.hash = p.2.1 ∧ RelV p.2.2 e.val) vs es.toList) : vs.length = es.size := by
  have := Paired.length r
  simpa using this
variable {P : Program} {w : World} {K : PySem.W.Frag} {tg : Expr} {a : Addr} {o : Obj} {es : Array DictEntry} {ep : Nat}
theorem turn_K (it : Addr) (hod : o.data = .dict es ep) : Turn P w K tg (ItK a o) [it] it (fun i h => h.IsKeyIter it a i es.size ep) where
  mem := by simp
  obj := fun i h st b hb => by
    have e : b = it := by simpa using hb
    subst e
    obtain ⟨oi, e, c, dd⟩ := st
    exact ⟨oi, e, fun v z => by rw [dd] at z; cases z⟩
  keep := fun i h h' st k => st.at fun oi e => k it (by simp) oi e
  item := by
    intro X hP hw hK hc i pins s σ H E I hf st hg
    subst hP hw hK
    obtain ⟨vs, p, hd, hi⟩ := hg
    obtain ⟨f0, f1, f2, f3, f4, f5⟩ := hf it (by simp)
    obtain ⟨hgd, hx, es', ep', hdt, r⟩ := frz_dict I hd
    obtain ⟨rfl, rfl⟩ := dict_ep hod hdt
    obtain ⟨hlt, rk, rv⟩ := ent_get r hi
    refine wpAny_pyNext_keys_item_raw st ⟨o, hgd, hx, hdt⟩ hlt fun h' st' sb => ?_
    have I1 : Inv X pins σ H { s with heap := h' } := I.turned (t' := s.toks) (fun b ob hb e => (sb.2 b hb).trans e) f0 f1 f3 f4 f5
    obtain ⟨oi, e, c, dd⟩ := id st'
    refine ⟨_, rfl, go_of (s := { s with heap := h' }) e c dd (by decide) ⟨p.1, H, I1, rk, ⟨rfl, fun vs' hd' => ?_⟩, st', fun b hb => (hf b hb).1⟩⟩
    obtain ⟨_, _, es2, ep2, hdt2, r2⟩ := frz_dict I hd'
    obtain ⟨rfl, rfl⟩ := dict_ep hdt hdt2
    have hl : i < vs'.length := by rw [ent_len r2]; exact hlt
    obtain ⟨_, rk2, _⟩ := ent_get r2 (List.getElem?_eq_getElem hl)
    exact ⟨_, List.getElem?_eq_getElem hl, rk.inj rk2⟩
  done := by
    intro X hP hw hK hc i pins s σ H E I hf st hg
    subst hP hw hK
    obtain ⟨vs, hd, hi⟩ := hg
    obtain ⟨f0, f1, f2, f3, f4, f5⟩ := hf it (by simp)
    obtain ⟨hgd, hx, es', ep', hdt, r⟩ := frz_dict I hd
    obtain ⟨rfl, rfl⟩ := dict_ep hod hdt
    exact wpAny_pyNext_keys_end_raw (I.ok.hd hc) st ⟨o, hgd, hx, hdt⟩ (by rw [← ent_len r]; exact hi) fun h' eb => ⟨rfl, I.turned (t' := s.toks) (fun b ob hb e => eb b ob hb e) f0 f1 f3 f4 f5⟩
  self := fun A i s Q E st h => wpAny_pyIter_keyiter st h
theorem turn_V (it : Addr) (hod : o.data = .dict es ep) : Turn P w K tg (ItV a o) [it] it (fun i h => h.IsValIter it a i es.size ep) where
  mem := by simp
  obj := fun i h st b hb => by
    have e : b = it := by simpa using hb
    subst e
    obtain ⟨oi, e, c, dd⟩ := st
    exact ⟨oi, e, fun v z => by rw [dd] at z; cases z⟩
  keep := fun i h h' st k => st.at fun oi e => k it (by simp) oi e
  item := by
    intro X hP hw hK hc i pins s σ H E I hf st hg
    subst hP hw hK
    obtain ⟨vs, p, hd, hi⟩ := hg
    obtain ⟨f0, f1, f2, f3, f4, f5⟩ := hf it (by simp)
    obtain ⟨hgd, hx, es', ep', hdt, r⟩ := frz_dict I hd
    obtain ⟨rfl, rfl⟩ := dict_ep hod hdt
    obtain ⟨hlt, rk, rv⟩ := ent_get r hi
    refine wpAny_pyNext_values_item_raw st ⟨o, hgd, hx, hdt⟩ hlt fun h' st' sb => ?_
    have I1 : Inv X pins σ H { s with heap := h' } := I.turned (t' := s.toks) (fun b ob hb e => (sb.2 b hb).trans e) f0 f1 f3 f4 f5
    obtain ⟨oi, e, c, dd⟩ := id st'
    refine ⟨_, rfl, go_of (s := { s with heap := h' }) e c dd (by decide) ⟨p.2.2, H, I1, rv, ⟨rfl, fun vs' hd' => ?_⟩, st', fun b hb => (hf b hb).1⟩⟩
    obtain ⟨_, _, es2, ep2, hdt2, r2⟩ := frz_dict I hd'
    obtain ⟨rfl, rfl⟩ := dict_ep hdt hdt2
    have hl : i < vs'.length := by rw [ent_len r2]; exact hlt
    obtain ⟨_, _, rv2⟩ := ent_get r2 (List.getElem?_eq_getElem hl)
    exact ⟨_, List.getElem?_eq_getElem hl, rv.inj rv2⟩
  done := by
    intro X hP hw hK hc i pins s σ H E I hf st hg
    subst hP hw hK
    obtain ⟨vs, hd, hi⟩ := hg
    obtain ⟨f0, f1, f2, f3, f4, f5⟩ := hf it (by simp)
    obtain ⟨hgd, hx, es', ep', hdt, r⟩ := frz_dict I hd
    obtain ⟨rfl, rfl⟩ := dict_ep hod hdt
    exact wpAny_pyNext_values_end_raw (I.ok.hd hc) st ⟨o, hgd, hx, hdt⟩ (by rw [← ent_len r]; exact hi) fun h' eb => ⟨rfl, I.turned (t' := s.toks) (fun b ob hb e => eb b ob hb e) f0 f1 f3 f4 f5⟩
  self := fun A i s Q E st h => wpAny_pyIter_valiter st h
theorem turn_I {elts : List Expr} {kk : Nat} {tpos : Pos} (it : Addr) (hod : o.data = .dict es ep) : Turn P w K (.Tuple elts kk tpos) (ItI a o) [it] it (fun i h => ∃ ok ov, IsItemIter h it a i es.size ep ok ov) where
  mem := by simp
  obj := fun i h st b hb => by
    have e : b = it := by simpa using hb
    subst e
    obtain ⟨ok, ov, e⟩ := st
    exact ⟨_, e, fun v z => nomatch z⟩
  keep := fun i h h' st k => let ⟨ok, ov, e⟩ := st; ⟨ok, ov, k it (by simp) _ e⟩
  item := by
    intro X hP hw hK hc i pins s σ H E I hf st hg
    subst hP hw hK
    obtain ⟨vs, p, hd, hi⟩ := hg
    obtain ⟨hgd, hx, es', ep', hdt, r⟩ := frz_dict I hd
    obtain ⟨rfl, rfl⟩ := dict_ep hod hdt
    obtain ⟨hlt, rk, rv⟩ := ent_get r hi
    obtain ⟨ok, ov, he⟩ := st
    have hil : it < s.heap.objs.size := Heap.lt_size he
    refine wpAny_pyNext_items_item_raw he ⟨o, hgd, hx, hdt⟩ hlt fun h' ho hT hz hk => ?_
    refine ⟨_, rfl, wpAny_letOwnedTupleGo_items (s := { s with heap := h' }) ho fun h'' he' sb => ?_⟩
    have hT2 : h''.get? s.heap.objs.size = some { cls := .type "tuple", data := .seq #[es'[i].key, es'[i].val] } := (sb.2 _ (Nat.ne_of_gt hil)).trans hT
    have new : ObjOk X.prog X.w (upd H s.heap.objs.size (.tup [p.1, p.2.2])) h'' s.heap.objs.size (.tup [p.1, p.2.2]) :=
      ⟨by show 2 ≤ sizeLine; decide, [es'[i].key, es'[i].val], .cons rk (.cons rv .nil), ⟨_, hT2, rfl, _, rfl⟩⟩
    have I1 : Inv X pins σ (upd H s.heap.objs.size (.tup [p.1, p.2.2])) { s with heap := h'' } :=
      I.turnedNew (t' := s.toks) (ch := [it]) (fun b ob hb e => (sb.2 b (by simpa using hb)).trans (hk b ob (by simpa using hb) e)) hf (Nat.le_refl _) new
    refine ⟨.ref s.heap.objs.size, _, I1, rfl, ⟨_, p.1, p.2.2, rfl, I.hok.fresh (Nat.le_refl _), rfl, fun vs' hd' => ?_⟩, ⟨_, _, he'⟩, fun b hb => ?_⟩
    · obtain ⟨_, _, es2, ep2, hdt2, r2⟩ := frz_dict I hd'
      obtain ⟨rfl, rfl⟩ := dict_ep hdt hdt2
      have hl : i < vs'.length := by rw [ent_len r2]; exact hlt
      obtain ⟨_, rk2, rv2⟩ := ent_get r2 (List.getElem?_eq_getElem hl)
      exact ⟨_, List.getElem?_eq_getElem hl, rk.inj rk2, rv.inj rv2⟩
    · have e : b = it := by simpa using hb
      rw [e, upd_ne (Nat.ne_of_lt hil)]
      exact (hf it (by simp)).1
  done := by
    intro X hP hw hK hc i pins s σ H E I hf st hg
    subst hP hw hK
    obtain ⟨vs, hd, hi⟩ := hg
    obtain ⟨f0, f1, f2, f3, f4, f5⟩ := hf it (by simp)
    obtain ⟨hgd, hx, es', ep', hdt, r⟩ := frz_dict I hd
    obtain ⟨rfl, rfl⟩ := dict_ep hod hdt
    obtain ⟨ok, ov, he⟩ := st
    exact wpAny_pyNext_items_end_raw (I.ok.hd hc) he ⟨o, hgd, hx, hdt⟩ (by rw [← ent_len r]; exact hi) fun h' eb => ⟨rfl, I.turned (t' := s.toks) (fun b ob hb e => eb b ob hb e) f0 f1 f3 f4 f5⟩
  self := fun A i s Q E st h => let ⟨_, _, e⟩ := st; PySem.W.kcp_self e h
end

section
variable {E : En} {ad : List Addr} {H : Hp}
theorem jr_list {n : Nat} {a : Addr} (ha : ad[n]? = some a) : JR E ad H (.lst n) (Itl E.K a) := by
  intro i H1 ad1 hp1 x p hr
  have ha1 : ad1[n]? = some a := by
    obtain ⟨t, rfl⟩ := p
    rw [List.getElem?_append_left (List.getElem?_eq_some_iff.mp ha).1]; exact ha
  refine ⟨fun d e => ?_, fun e => ?_⟩
  · simp only [nextD] at e
    cases z : lstOf hp1 n with
    | none => rw [z] at e; cases e
    | some ds =>
      rw [z] at e
      simp only [Option.map_some, Option.some.injEq] at e
      obtain ⟨vs, hs, r⟩ := hr.lstR z ha1
      obtain ⟨v, ev, k⟩ := r.get e
      refine ⟨⟨vs, v, hs, ev⟩, fun y H2 ⟨e2, y2⟩ => ?_⟩
      subst e2
      have := y2 vs hs
      rw [ev] at this
      cases this
      exact ⟨.refl, hr, k⟩
  · simp only [nextD] at e
    cases z : lstOf hp1 n with
    | none => rw [z] at e; cases e
    | some ds =>
      rw [z] at e
      simp only [Option.map_some, Option.some.injEq] at e
      obtain ⟨vs, hs, r⟩ := hr.lstR z ha1
      exact ⟨vs, hs, by rw [← r.length]; exact List.getElem?_eq_none_iff.mp e⟩
theorem jr_tup {ds : List D} {vs : List V} {a : Addr} (hs : SqT E.K H a vs) (r : RDs E ad H ds vs) : JR E ad H (.seq ds) (Itt E.K a) := by
  intro i H1 ad1 hp1 x p hr
  refine ⟨fun d e => ?_, fun e => ?_⟩
  · simp only [nextD, Option.some.injEq] at e
    obtain ⟨v, ev, k⟩ := (r.mono x p).get e
    refine ⟨⟨vs, v, x.tup a vs hs, ev⟩, fun y H2 ⟨e2, y2⟩ => ?_⟩
    subst e2
    have := y2 vs (x.tup a vs hs)
    rw [ev] at this
    cases this
    exact ⟨.refl, hr, k⟩
  · simp only [nextD, Option.some.injEq] at e
    exact ⟨vs, x.tup a vs hs, by rw [← r.length]; exact List.getElem?_eq_none_iff.mp e⟩
def rangeD (n : Nat) : List D := (List.range n).map fun (i : Nat) => D.int (i : Int)
theorem jr_range {n : Nat} : JR E ad H (.seq (rangeD n)) (Itr 0 n) := by
  intro i H1 ad1 hp1 x p hr
  refine ⟨fun d e => ?_, fun e => ?_⟩
  · simp only [nextD, Option.some.injEq, rangeD, List.getElem?_map] at e
    by_cases hi : i < n
    · rw [List.getElem?_range hi] at e
      cases e
      refine ⟨hi, fun y H2 ⟨e2, y2⟩ => ?_⟩
      subst e2 y2
      exact ⟨.refl, hr, by rw [RD]; simp⟩
    · rw [List.getElem?_eq_none (by simpa using Nat.le_of_not_lt hi)] at e
      cases e
  · simp only [nextD, Option.some.injEq, rangeD, List.getElem?_map, Option.map_eq_none_iff, List.getElem?_eq_none_iff, List.length_range] at e
    exact e
theorem Ex.frzd {H1 : Hp} (x : Ex E H H1) {a : Addr} {o : Obj} {u : HO} (h : H a = some (.frz o u)) : H1 a = some (.frz o u) := x.frz a o u h
/-- a locked dict's pairs -/
theorem HR.lkd {ad1 : List Addr} {H1 : Hp} {hp1 : Hd} {n : Nat} {a : Addr} {o : Obj} {u : HO} {kvs : List (D × D)} (hr : HR E ad1 H1 hp1) (ha : ad1[n]? = some a) (hf : H1 a = some (.frz o u)) (z : dicOf hp1 n = some kvs) : ∃ vs, H1 a = some (.frz o (DcO a vs)) ∧ PRs E ad1 H1 kvs vs := by
  obtain ⟨vs, hs, _, _, r, _⟩ := hr.dicR z ha
  rcases hs with h | ⟨o', h⟩
  · rw [hf] at h; unfold DcO at h; cases h
  · have q := h
    rw [hf] at q
    cases q
    exact ⟨vs, h, r⟩
theorem PRs.get {ad1 : List Addr} {H1 : Hp} : ∀ {kvs : List (D × D)} {vs : List (V × Int × V)} {i : Nat} {p : D × D}, PRs E ad1 H1 kvs vs → kvs[i]? = some p → ∃ q, vs[i]? = some q ∧ RD E ad1 H1 p.1 q.1 ∧ RD E ad1 H1 p.2 q.2.2
  | [], _, _, _, h, e => by simp at e
  | x :: xs, vs, i, p, h, e => by
    obtain ⟨v, r, k, e1, h1, h2, h3, h4, h5⟩ := h
    subst e1
    cases i with
    | zero => simp at e; subst e; exact ⟨v, rfl, h1, h4⟩
    | succ i => simpa using PRs.get h5 (by simpa using e)
theorem jr_key {n : Nat} {a : Addr} {o : Obj} {u : HO} (ha : ad[n]? = some a) (hf : H a = some (.frz o u)) : JR E ad H (.key n) (ItK a o) := by
  intro i H1 ad1 hp1 x p hr
  have ha1 : ad1[n]? = some a := by
    obtain ⟨t, rfl⟩ := p
    rw [List.getElem?_append_left (List.getElem?_eq_some_iff.mp ha).1]; exact ha
  refine ⟨fun d e => ?_, fun e => ?_⟩
  · simp only [nextD] at e
    cases z : dicOf hp1 n with
    | none => rw [z] at e; cases e
    | some kvs =>
      rw [z] at e
      simp only [Option.map_some, Option.some.injEq] at e
      obtain ⟨vs, hs, r⟩ := hr.lkd ha1 (x.frzd hf) z
      cases y : kvs[i]? with
      | none => rw [y] at e; cases e
      | some kv =>
        rw [y] at e
        cases e
        obtain ⟨q, eq, k1, k2⟩ := r.get y
        refine ⟨⟨vs, q, hs, eq⟩, fun xv H2 ⟨e2, y2⟩ => ?_⟩
        subst e2
        obtain ⟨q', eq', ex⟩ := y2 vs hs
        rw [eq] at eq'
        cases eq'
        subst ex
        exact ⟨.refl, hr, k1⟩
  · simp only [nextD] at e
    cases z : dicOf hp1 n with
    | none => rw [z] at e; cases e
    | some kvs =>
      rw [z] at e
      simp only [Option.map_some, Option.some.injEq, Option.map_eq_none_iff, List.getElem?_eq_none_iff] at e
      obtain ⟨vs, hs, r⟩ := hr.lkd ha1 (x.frzd hf) z
      exact ⟨vs, hs, by rw [← r.length]; exact e⟩
theorem jr_val {n : Nat} {a : Addr} {o : Obj} {u : HO} (ha : ad[n]? = some a) (hf : H a = some (.frz o u)) : JR E ad H (.val n) (ItV a o) := by
  intro i H1 ad1 hp1 x p hr
  have ha1 : ad1[n]? = some a := by
    obtain ⟨t, rfl⟩ := p
    rw [List.getElem?_append_left (List.getElem?_eq_some_iff.mp ha).1]; exact ha
  refine ⟨fun d e => ?_, fun e => ?_⟩
  · simp only [nextD] at e
    cases z : dicOf hp1 n with
    | none => rw [z] at e; cases e
    | some kvs =>
      rw [z] at e
      simp only [Option.map_some, Option.some.injEq] at e
      obtain ⟨vs, hs, r⟩ := hr.lkd ha1 (x.frzd hf) z
      cases y : kvs[i]? with
      | none => rw [y] at e; cases e
      | some kv =>
        rw [y] at e
        cases e
        obtain ⟨q, eq, k1, k2⟩ := r.get y
        refine ⟨⟨vs, q, hs, eq⟩, fun xv H2 ⟨e2, y2⟩ => ?_⟩
        subst e2
        obtain ⟨q', eq', ex⟩ := y2 vs hs
        rw [eq] at eq'
        cases eq'
        subst ex
        exact ⟨.refl, hr, k2⟩
  · simp only [nextD] at e
    cases z : dicOf hp1 n with
    | none => rw [z] at e; cases e
    | some kvs =>
      rw [z] at e
      simp only [Option.map_some, Option.some.injEq, Option.map_eq_none_iff, List.getElem?_eq_none_iff] at e
      obtain ⟨vs, hs, r⟩ := hr.lkd ha1 (x.frzd hf) z
      exact ⟨vs, hs, by rw [← r.length]; exact e⟩
theorem rd_pair {ad1 : List Addr} {H1 : Hp} {T : Addr} {d1 d2 : D} {x y : V} (n : H1 T = none) (k1 : RD E ad1 H1 d1 x) (k2 : RD E ad1 H1 d2 y) : RD E ad1 (upd H1 T (.tup [x, y])) (.tup [d1, d2]) (.ref T) := by
  rw [RD]
  exact ⟨T, [x, y], rfl, .inl (.inl upd_same), .cons (k1.mono (.new n) (List.prefix_refl _)) (.cons (k2.mono (.new n) (List.prefix_refl _)) .nil)⟩
theorem jr_itm {n : Nat} {a : Addr} {o : Obj} {u : HO} (ha : ad[n]? = some a) (hf : H a = some (.frz o u)) : JR E ad H (.itm n) (ItI a o) := by
  intro i H1 ad1 hp1 x p hr
  have ha1 : ad1[n]? = some a := by
    obtain ⟨t, rfl⟩ := p
    rw [List.getElem?_append_left (List.getElem?_eq_some_iff.mp ha).1]; exact ha
  refine ⟨fun d e => ?_, fun e => ?_⟩
  · simp only [nextD] at e
    cases z : dicOf hp1 n with
    | none => rw [z] at e; cases e
    | some kvs =>
      rw [z] at e
      simp only [Option.map_some, Option.some.injEq] at e
      obtain ⟨vs, hs, r⟩ := hr.lkd ha1 (x.frzd hf) z
      cases y : kvs[i]? with
      | none => rw [y] at e; cases e
      | some kv =>
        rw [y] at e
        cases e
        obtain ⟨q, eq, k1, k2⟩ := r.get y
        refine ⟨⟨vs, q, hs, eq⟩, fun xv H2 ⟨T, xa, ya, e2, nT, e3, y2⟩ => ?_⟩
        subst e2 e3
        obtain ⟨q', eq', ex, ey⟩ := y2 vs hs
        rw [eq] at eq'
        cases eq'
        subst ex ey
        exact ⟨.new nT, hr.aside nT, rd_pair nT k1 k2⟩
  · simp only [nextD] at e
    cases z : dicOf hp1 n with
    | none => rw [z] at e; cases e
    | some kvs =>
      rw [z] at e
      simp only [Option.map_some, Option.some.injEq, Option.map_eq_none_iff, List.getElem?_eq_none_iff] at e
      obtain ⟨vs, hs, r⟩ := hr.lkd ha1 (x.frzd hf) z
      exact ⟨vs, hs, by rw [← r.length]; exact e⟩
theorem jr_enl {n : Nat} {a : Addr} (ha : ad[n]? = some a) : JR E ad H (.enl n) (Ite E.K a) := by
  intro i H1 ad1 hp1 x p hr
  have ha1 : ad1[n]? = some a := by
    obtain ⟨t, rfl⟩ := p
    rw [List.getElem?_append_left (List.getElem?_eq_some_iff.mp ha).1]; exact ha
  refine ⟨fun d e => ?_, fun e => ?_⟩
  · simp only [nextD] at e
    cases z : lstOf hp1 n with
    | none => rw [z] at e; cases e
    | some ds =>
      rw [z] at e
      simp only [Option.map_some, Option.some.injEq] at e
      obtain ⟨vs, hs, r⟩ := hr.lstR z ha1
      cases y : ds[i]? with
      | none => rw [y] at e; cases e
      | some d0 =>
        rw [y] at e
        cases e
        obtain ⟨v, ev, k⟩ := r.get y
        refine ⟨⟨vs, v, hs, ev⟩, fun yv H2 ⟨T, xv, e2, nT, e3, y2⟩ => ?_⟩
        subst e2 e3
        have := y2 vs hs
        rw [ev] at this
        cases this
        exact ⟨.new nT, hr.aside nT, rd_pair nT (rdI _) k⟩
  · simp only [nextD] at e
    cases z : lstOf hp1 n with
    | none => rw [z] at e; cases e
    | some ds =>
      rw [z] at e
      simp only [Option.map_some, Option.some.injEq, Option.map_eq_none_iff, List.getElem?_eq_none_iff] at e
      obtain ⟨vs, hs, r⟩ := hr.lstR z ha1
      exact ⟨vs, hs, by rw [← r.length]; exact e⟩
def zipD (xs ys : List D) : List D := List.zipWith (fun x y => .tup [x, y]) xs ys
theorem jr_zipT {xs ys : List D} {vs ws : List V} {a b : Addr} (hs : SqT E.K H a vs) (ht : SqT E.K H b ws) (r : RDs E ad H xs vs) (t : RDs E ad H ys ws) : JR E ad H (.seq (zipD xs ys)) (RZ.ItzT E.K a b) := by
  intro i H1 ad1 hp1 x p hr
  refine ⟨fun d e => ?_, fun e => ?_⟩
  · simp only [nextD, Option.some.injEq, zipD, List.getElem?_zipWith] at e
    cases y1 : xs[i]? with
    | none => rw [y1] at e; cases e
    | some d1 =>
      cases y2 : ys[i]? with
      | none => rw [y1, y2] at e; cases e
      | some d2 =>
        rw [y1, y2] at e
        cases e
        obtain ⟨v, ev, k⟩ := (r.mono x p).get y1
        obtain ⟨w, ew, l⟩ := (t.mono x p).get y2
        refine ⟨⟨vs, ws, v, w, x.tup a vs hs, x.tup b ws ht, ev, ew⟩, fun yv H2 ⟨T, xv, yv', e2, nT, e3, z1, z2⟩ => ?_⟩
        subst e2 e3
        have q1 := z1 vs (x.tup a vs hs)
        have q2 := z2 ws (x.tup b ws ht)
        rw [ev] at q1
        rw [ew] at q2
        cases q1
        cases q2
        exact ⟨.new nT, hr.aside nT, rd_pair nT k l⟩
  · simp only [nextD, Option.some.injEq, zipD] at e
    have hl := List.getElem?_eq_none_iff.mp e
    rw [List.length_zipWith] at hl
    refine ⟨vs, ws, x.tup a vs hs, x.tup b ws ht, ?_⟩
    rw [← r.length, ← t.length]
    omega
end

def ItE (K : PySem.W.Frag) (a : Addr) : It :=
  ⟨fun i H => ∃ (xs : List V) (x : V), SqT K H a xs ∧ xs[i]? = some x, fun i H v H' => ∃ T x, v = .ref T ∧ H T = none ∧ H' = upd H T (.tup [.int (i : Nat), x]) ∧ ∀ xs, SqT K H a xs → xs[i]? = some x, fun i H => ∃ xs : List V, SqT K H a xs ∧ xs.length ≤ i⟩
theorem turn_E {P : Program} {w : World} {K : PySem.W.Frag} {elts : List Expr} {kk : Nat} {tpos : Pos} (a e it : Addr) (hai : a ≠ it) (hae : a ≠ e) :
    Turn P w K (.Tuple elts kk tpos) (ItE K a) [e, it] e (fun i h => (∃ old, IsEnum h e it ((i : Nat) : Int) old) ∧ h.IsTupleIter it a i ∧ e ≠ it) where
  mem := by simp
  obj := fun i h st b hb => by
    obtain ⟨⟨old, he⟩, ⟨o, ho, hc, hd⟩, _⟩ := st
    have e' : b = e ∨ b = it := by simpa using hb
    rcases e' with z | z
    · rw [z]; exact ⟨_, he, fun v q => nomatch q⟩
    · rw [z]; exact ⟨o, ho, fun v q => by rw [hd] at q; cases q⟩
  keep := fun i h h' st k => let ⟨⟨old, he⟩, hi, hne⟩ := st; ⟨⟨old, k e (by simp) _ he⟩, hi.at fun o q => k it (by simp) o q, hne⟩
  item := by
    intro X hP hw hK hc i pins s σ H E I hf st hg
    subst hP hw hK
    obtain ⟨⟨old, he⟩, hit, hne⟩ := st
    obtain ⟨xs, x, hq, hx⟩ := hg
    obtain ⟨its, rv, p, hz⟩ := I.tuple hq
    obtain ⟨u, hu, ru⟩ := rv.get hx
    have hel : e < s.heap.objs.size := Heap.lt_size he
    have hil : it < s.heap.objs.size := by obtain ⟨_, q, _⟩ := hit; exact Heap.lt_size q
    have hlt : i < its.toArray.size := by simpa using (List.getElem?_eq_some_iff.mp hu).1
    have Dr := Draws.tuple (prog := X.prog) (w := X.w) (A := X.A.in1) (show X.A.in1.handled = none from I.ok.hd hc) it a hai its.toArray
    refine wpAny_pyNext_enum_itemD Dr he ⟨hit, p⟩ hlt hne (by simp; exact ⟨hne, Ne.symm hae⟩) fun x' h' tk hx' ho hit' hT hsz hk => ?_
    have ex : x' = u := by
      have q : its.toArray[i]? = some u := by simpa using hu
      rw [q] at hx'
      exact (Option.some.inj hx').symm
    subst ex
    refine ⟨_, rfl, wpAny_letOwnedTupleGo_enum (s := { s with heap := h', toks := tk + 1 }) ho fun h'' he' sb => ?_⟩
    have hT2 : h''.get? s.heap.objs.size = some { cls := .type "tuple", data := .seq #[.int i tk, x'] } := (sb.2 _ (Nat.ne_of_gt hel)).trans hT
    have new : ObjOk X.prog X.w (upd H s.heap.objs.size (.tup [.int (i : Nat), x])) h'' s.heap.objs.size (.tup [.int (i : Nat), x]) :=
      ⟨by show 2 ≤ sizeLine; decide, [.int i tk, x'], .cons ⟨_, rfl⟩ (.cons ru .nil), ⟨_, hT2, rfl, _, rfl⟩⟩
    have I1 : Inv X pins σ (upd H s.heap.objs.size (.tup [.int (i : Nat), x])) { s with heap := h'', toks := tk + 1 } :=
      I.turnedNew (ch := [e, it]) (fun b ob hb q => (sb.2 b (fun z => hb (by simp [z]))).trans (hk b ob (fun z => hb (by simp [z])) (fun z => hb (by simp [z])) q)) hf (Nat.le_refl _) new
    refine ⟨.ref s.heap.objs.size, _, I1, rfl, ⟨_, x, rfl, I.hok.fresh (Nat.le_refl _), rfl, fun ys hy => by rw [I.tuple_inj hy hq]; exact hx⟩, ⟨⟨x', ?_⟩, hit'.1.at fun o q => (sb.2 it (Ne.symm hne)).trans q, hne⟩, fun b hb => ?_⟩
    · have e1 : ((i + 1 : Nat) : Int) = (i : Int) + 1 := by omega
      rw [e1]; exact he'
    · have hb' : b < s.heap.objs.size := by
        have e' : b = e ∨ b = it := by simpa using hb
        rcases e' with z | z
        · rw [z]; exact hel
        · rw [z]; exact hil
      rw [upd_ne (Nat.ne_of_lt hb')]
      exact (hf b hb).1
  done := by
    intro X hP hw hK hc i pins s σ H E I hf st hg
    subst hP hw hK
    obtain ⟨⟨old, he⟩, hit, hne⟩ := st
    obtain ⟨xs, hq, hx⟩ := hg
    obtain ⟨its, rv, p, hz⟩ := I.tuple hq
    obtain ⟨f0, f1, f2, f3, f4, f5⟩ := hf it (by simp)
    have hT : s.TypeIs (.ref e) "enumerate" := ⟨_, he, rfl⟩
    have hl := rv.length
    unfold pyNext
    refine wpAny_bind (wpAny_attempt (wpAny_callSpecial?_slot (name := Str.ofString "__next__") hT F.slot_enumerate_next
      (wpAny_call_entry F.slot_enumerate_next hT F.entry_enumerate_next ?_ (F.args_enumerate_next_1 _))))
    show wpAny _ _ (field (.ref e) 2 >>= _) _ _ _
    refine wpAny_bind (wpAny_field he rfl (x := .ref it) rfl ?_)
    refine wpAny_bind (wpAny_nextOf_tuple_end (show X.A.in1.handled = none from I.ok.hd hc) hit p (by simp; omega) fun h' x he' hx' => ?_)
    obtain ⟨o, ho, hc'⟩ := hx'
    refine wpAny_bind (wpAny_isInstance (T := "StopIteration") (b := true) ⟨o, ho, hc'⟩ isSubtype_stop ?_)
    exact wpAny_pure ⟨rfl, I.turned (t' := s.toks) (fun b o hb q => he' b o hb q) f0 f1 f3 f4 f5⟩
  self := fun A i s Q E st h => let ⟨⟨_, he⟩, _⟩ := st; wpAny_pyIter_enum he h
def enumD (ds : List D) : List D := ds.zipIdx.map fun p => .tup [.int p.2, p.1]
section
variable {E : En} {ad : List Addr} {H : Hp}
theorem jr_enT {ds : List D} {vs : List V} {a : Addr} (hs : SqT E.K H a vs) (r : RDs E ad H ds vs) : JR E ad H (.seq (enumD ds)) (ItE E.K a) := by
  intro i H1 ad1 hp1 x p hr
  refine ⟨fun d e => ?_, fun e => ?_⟩
  · simp only [nextD, Option.some.injEq, enumD, List.getElem?_map, List.getElem?_zipIdx] at e
    cases y : ds[i]? with
    | none => rw [y] at e; cases e
    | some d0 =>
      rw [y] at e
      cases e
      obtain ⟨v, ev, k⟩ := (r.mono x p).get y
      refine ⟨⟨vs, v, x.tup a vs hs, ev⟩, fun yv H2 ⟨T, xv, e2, nT, e3, y2⟩ => ?_⟩
      subst e2 e3
      have := y2 vs (x.tup a vs hs)
      rw [ev] at this
      cases this
      refine ⟨.new nT, hr.aside nT, rd_pair nT ?_ k⟩
      rw [RD]
      simp
  · simp only [nextD, Option.some.injEq, enumD, List.getElem?_map, List.getElem?_zipIdx, Option.map_eq_none_iff, List.getElem?_eq_none_iff] at e
    exact ⟨vs, x.tup a vs hs, by rw [← r.length]; exact e⟩
end

theorem meets_enum1 {v : Value} {o : Obj} {H : Heap → Prop} (B : Begins v o H) :
    Meets (Builtin.«enumerate.__new__» ⟨[.type "enumerate", v], []⟩) (fun _ R s => H s.heap ∧
      R (.ok (.ret (.ref (s.heap.push o).objs.size))) { s with heap := (s.heap.push o).push { cls := .type "enumerate", data := .fields #[.none, .bool false, .ref s.heap.objs.size, rawInt 0, .none, .none] } }) :=
  .of_wp fun prog w A R s h => by
    obtain ⟨hp, g, d, tk, os⟩ := s; obtain ⟨h1, h⟩ := h
    have hsub := sub_enumerate
    have q1 : ∀ {A' : Around} {E : Value → Shared → Prop} {Q : Value → Shared → Prop}, Q (.ref hp.objs.size) ⟨hp.push o, g, d, tk, os⟩ → wpAny (model prog w) A' (pyIter v) Q E ⟨hp, g, d, tk, os⟩ :=
      fun q => B.iter prog w _ _ ⟨hp, g, d, tk, os⟩ _ h1 q
    wp_walk using q1
    refine wpAny_stack_any fun st => wpAny_pure ?_
    split
    · rename_i c _ _ _ _ _
      cases (c == Value.type "enumerate")
      · wp_walk using q1
        exact ⟨_, rfl, h⟩
      · wp_walk using q1
        exact ⟨_, rfl, h⟩
    · wp_walk using q1
      exact ⟨_, rfl, h⟩
theorem enum_begins1 {prog : Program} {w : World} {A : Around} {E : Value → Shared → Prop} {s : Shared} {v : Value} {o : Obj} {H : Heap → Prop} {Q : Value → Shared → Prop} (B : Begins v o H) (h1 : H s.heap)
    (h : ∀ h', IsEnum h' (s.heap.objs.size + 1) s.heap.objs.size 0 .none → h'.get? s.heap.objs.size = some o → h'.objs.size = s.heap.objs.size + 2 →
      (∀ b o, s.heap.get? b = some o → h'.get? b = some o) → Q (.ref (s.heap.objs.size + 1)) { s with heap := h' }) :
    wpAny (model prog w) A (call (.type "enumerate") [v]) Q E s := by
  refine callType_new F.called_enumerate (by decide) (F.typeCall_enumerate_1 _) (F.newCall_enumerate_1 _) (fun obj => F.args_object_init_2 obj _) F.entry_enumerate_new (meets_enum1 B) ⟨h1, ?_⟩
  have hz : (s.heap.push o).objs.size = s.heap.objs.size + 1 := Heap.size_push ..
  show _ ∧ _
  rw [hz]
  have he : IsEnum ((s.heap.push o).push { cls := .type "enumerate", data := .fields #[.none, .bool false, .ref s.heap.objs.size, rawInt 0, .none, .none] }) (s.heap.objs.size + 1) s.heap.objs.size 0 .none := by
    have := Heap.get?_push_size (s.heap.push o) (o := { cls := .type "enumerate", data := .fields #[.none, .bool false, .ref s.heap.objs.size, rawInt 0, .none, .none] }) rfl
    rw [hz] at this; exact this
  refine ⟨⟨_, he, rfl⟩, h _ he (Heap.get?_push_of_some _ (Heap.get?_push_size _ B.free)) (by rw [Heap.size_push, hz]) fun b o x => Heap.get?_push_of_some _ (Heap.get?_push_of_some _ x)⟩
end DL
namespace DL
open PySem PySem.Spec PyProof.Rows L2

def srcD : D → Hd → Option ((Src × Option Nat) × Hd)
  | .tup ds, hp => some ((.seq ds, none), hp)
  | .ref n, hp => (match hp.get n with
    | some (.lst _) => some ((.lst n, none), hp)
    | some (.lk (.lst _)) => some ((.lst n, none), hp)
    | some (.dic kvs) => some ((.key n, some n), hp.set n (.lk (.dic kvs)))
    | some (.lk (.dic _)) => some ((.key n, none), hp)
    | _ => none)
  | _, _ => none
def mSrc (m : M D) : M (Src × Option Nat) := bnd m fun d => lft (srcD d)
section
variable {X : Cx} {tg e : Expr} {me : M D} {apos cpos pos p : Pos}
/-- a dict is locked -/
theorem dic_lock {pins : List (Addr × Obj)} {σ : L2.St} {H : Hp} {s : Shared} {ad : List Addr} {hp : Hd} {n : Nat} {kvs : List (D × D)} {a : Addr} (I : Inv X pins σ H s) (hr : HR (en X) ad H hp) (ha : ad[n]? = some a) (e : hp.get n = some (.dic kvs)) :
    ∃ od vs, Inv X pins σ (upd H a (.frz od (DcO a vs))) s ∧ Ex (en X) H (upd H a (.frz od (DcO a vs))) ∧ HR (en X) ad (upd H a (.frz od (DcO a vs))) (hp.set n (.lk (.dic kvs))) ∧ H a = some (DcO a vs) ∧ (a == sysModules) = false := by
  obtain ⟨u, e1, vs, rfl, z, sy, r, k⟩ := hr.at_ ha e
  obtain ⟨od, I1⟩ := I.lock e1 True.intro
  have x : Ex (en X) H (upd H a (.frz od (DcO a vs))) := .mut e1 True.intro
  refine ⟨od, vs, I1, x, hr.set ha e1 True.intro ⟨od, DcO a vs, upd_same, vs, rfl, z, sy, r.mono x (List.prefix_refl _), k⟩, e1, sy⟩
theorem lkc_none {H : Hp} {ad : List Addr} : LkC H ad none := fun n z => nomatch z
theorem lkc_some {H H1 : Hp} {ad : List Addr} {n : Nat} {a : Addr} {u : HO} (ha : ad[n]? = some a) (e : H1 a = some u) (m : Mut (some u)) (x : Ex (en X) H H1) : LkC H ad (some n) := fun m' z => by
  cases z
  refine ⟨a, ha, fun o w z => ?_⟩
  have := x.frz a o w z
  rw [e] at this
  cases this
  exact m
theorem li_any (he : PE X e (rE (en X) me)) : PI X tg e (rI (en X) (mSrc me)) := by
  refine ⟨fun pins s σ H R I h => ?_⟩
  obtain ⟨ρ, hp, ad, sr, u, hp', st, e0, q⟩ := h
  obtain ⟨d, h1, e1, e2⟩ := bnd_inv e0
  refine thn (he.run pins s σ H (fun x H1 => ∃ ad1, Ex (en X) H H1 ∧ ad <+: ad1 ∧ HR (en X) ad1 H1 h1 ∧ RD (en X) ad1 H1 d x) I ⟨ρ, hp, ad, d, h1, st, e1, fun v H' ad' x p r k => ⟨ad', x, p, r, k⟩⟩) fun v s1 ⟨x, H1, I1, r1, ad1, x1, p1, hr1, k1⟩ => ?_
  cases d with
  | tup ds =>
    cases e2
    obtain ⟨a, vs, rfl, hs, r⟩ := k1.t
    cases r1
    obtain ⟨its, rv, pt, hz⟩ := I1.tuple hs
    refine wpAny_pyIter_tuple (show s1.heap.IsTuple a its.toArray from pt) (pi_one (tk := s1.toks) I1 _ (turn_tuple a _) ⟨_, Heap.get?_push_size _ rfl, rfl, rfl⟩ ?_)
    exact q _ H1 ad1 x1 p1 hr1 (jr_tup hs r) lkc_none
  | ref n =>
    simp only [lft, srcD] at e2
    obtain ⟨a, rfl, ha⟩ := k1.r
    cases r1
    have lst : ∀ ds, lstOf h1 n = some ds → (sr, u) = (.lst n, none) → hp' = h1 → wpAny (model X.prog X.w) X.A (pyIter (.ref a)) (PIE X pins σ tg R) X.xe s1 := fun ds z1 z2 z3 => by
      cases z2
      subst z3
      obtain ⟨vs, hs, r⟩ := hr1.lstR z1 ha
      obtain ⟨its, rv, pt, hz⟩ := I1.list hs
      refine wpAny_pyIter_list pt.isList (pi_one (tk := s1.toks) I1 _ (turn_list a _) ⟨_, Heap.get?_push_size _ rfl, rfl, rfl⟩ ?_)
      exact q _ H1 ad1 x1 p1 hr1 (jr_list ha) lkc_none
    split at e2
    · rename_i ds z
      cases e2
      exact lst ds (by unfold lstOf; rw [z]) rfl rfl
    · rename_i ds z
      cases e2
      exact lst ds (by unfold lstOf; rw [z]) rfl rfl
    · rename_i kvs z
      cases e2
      obtain ⟨od, vs, I2, x2, hr2, ea, sy⟩ := dic_lock I1 hr1 ha z
      obtain ⟨hgd, hx, es, ep, hdt, r⟩ := frz_dict I2 upd_same
      refine wpAny_pyIter_dict_raw sy ⟨od, hgd, hx, hdt⟩ (pi_one (tk := s1.toks) I2 _ (turn_K _ hdt) ⟨_, Heap.get?_push_size _ rfl, rfl, rfl⟩ ?_)
      exact q _ _ ad1 (x1.trans x2) p1 hr2 (jr_key ha upd_same) (lkc_some ha ea True.intro x1)
    · rename_i kvs z
      cases e2
      obtain ⟨ob, w, ef, hi⟩ := hr1.at_ ha z
      obtain ⟨vs, rfl, zz, sy, _⟩ := hi
      obtain ⟨hgd, hx, es, ep, hdt, r⟩ := frz_dict I1 ef
      refine wpAny_pyIter_dict_raw sy ⟨ob, hgd, hx, hdt⟩ (pi_one (tk := s1.toks) I1 _ (turn_K _ hdt) ⟨_, Heap.get?_push_size _ rfl, rfl, rfl⟩ ?_)
      exact q _ H1 ad1 x1 p1 hr1 (jr_key ha ef) lkc_none
    · cases e2
  | _ => cases e2

def rngD : List D → Hd → Option ((Src × Option Nat) × Hd)
  | [.int n], hp => if -4611686018427387904 ≤ n ∧ n < 4611686018427387904 then some ((.seq (rangeD n.toNat), none), hp) else none
  | _, _ => none
def mRng (ms : M (List D)) : M (Src × Option Nat) := bnd ms fun ds => lft (rngD ds)
theorem li_range {a : Expr} {ms : M (List D)} (hg : Gl X "range") (hm : X.mg "range" = none) (ha : PA X [a] (rA (en X) ms)) (hs : starEach [a] X.env = [(false, eval a X.env)] := by rfl) : PI X tg (.Call (.Name "range" p) [a] [] pos) (rI (en X) (mRng ms)) := by
  refine PI.mono (pi_range1 hg hm ha hs) fun σ H R h => ?_
  obtain ⟨ρ, hp, ad, sr, u, hp', st, e0, q⟩ := h
  obtain ⟨ds, h1, e1, e2⟩ := bnd_inv e0
  refine ⟨ρ, hp, ad, ds, h1, st, e1, fun vs H' ad' x p r k => ?_⟩
  simp only [lft, rngD] at e2
  split at e2
  · split at e2
    · rename_i hz
      cases e2
      obtain ⟨v, rfl, k1⟩ := k.one
      exact ⟨_, by rw [k1.i], by omega, by omega, q _ H' ad' x p r jr_range lkc_none⟩
    · cases e2
  · cases e2

def dsrcD (f : Nat → Src) : D → Hd → Option ((Src × Option Nat) × Hd)
  | .ref n, hp => (match hp.get n with
    | some (.dic kvs) => some ((f n, some n), hp.set n (.lk (.dic kvs)))
    | some (.lk (.dic _)) => some ((f n, none), hp)
    | _ => none)
  | _, _ => none
def mDsr (f : Nat → Src) (m : M D) : M (Src × Option Nat) := bnd m fun d => lft (dsrcD f d)
/-- the dict behind the receiver, locked -/
theorem dsr_run {f : Nat → Src} {R : It → Hp → Prop} {pins : List (Addr × Obj)} {s : Shared} {σ : L2.St} {H : Hp} (he : PE X e (rE (en X) me)) (I : Inv X pins σ H s) (h : rI (en X) (mDsr f me) σ H R) :
    wpAny (model X.prog X.w) X.A (eval e X.env) (fun v s1 => ∃ a od vs H1 ad1 n, v = .ref a ∧ Inv X pins σ H1 s1 ∧ H1 a = some (.frz od (DcO a vs)) ∧ (a == sysModules) = false ∧ ad1[n]? = some a ∧
      ∀ J, JR (en X) ad1 H1 (f n) J → R J H1) X.xe s := by
  obtain ⟨ρ, hp, ad, sr, u, hp', st, e0, q⟩ := h
  obtain ⟨d, h1, e1, e2⟩ := bnd_inv e0
  refine thn (he.run pins s σ H (fun x H1 => ∃ ad1, Ex (en X) H H1 ∧ ad <+: ad1 ∧ HR (en X) ad1 H1 h1 ∧ RD (en X) ad1 H1 d x) I ⟨ρ, hp, ad, d, h1, st, e1, fun v H' ad' x p r k => ⟨ad', x, p, r, k⟩⟩) fun v s1 ⟨x, H1, I1, r1, ad1, x1, p1, hr1, k1⟩ => ?_
  cases d with
  | ref n =>
    simp only [lft, dsrcD] at e2
    obtain ⟨a, rfl, ha⟩ := k1.r
    cases r1
    split at e2
    · rename_i kvs z
      cases e2
      obtain ⟨od, vs, I2, x2, hr2, ea, sy⟩ := dic_lock I1 hr1 ha z
      exact ⟨a, od, vs, _, ad1, n, rfl, I2, upd_same, sy, ha, fun J jr => q _ _ ad1 (x1.trans x2) p1 hr2 jr (lkc_some ha ea True.intro x1)⟩
    · rename_i kvs z
      cases e2
      obtain ⟨ob, w, ef, hi⟩ := hr1.at_ ha z
      obtain ⟨vs, rfl, zz, sy, _⟩ := hi
      exact ⟨a, ob, vs, H1, ad1, n, rfl, I1, ef, sy, ha, fun J jr => q _ _ ad1 x1 p1 hr1 jr lkc_none⟩
    · cases e2
  | _ => cases e2
theorem li_values (he : PE X e (rE (en X) me)) (hbase : attributeBase e "values" X.env (eval e X.env) = eval e X.env := by rfl) (hline : (apos.endLine == cpos.line) = true := by rfl) : PI X tg (.Call (.Attribute e "values" apos) [] [] cpos) (rI (en X) (mDsr .val me)) := by
  refine ⟨fun pins s σ H R I h => ?_⟩
  refine wpAny_Call_method (T := "dict") (id := "dict.values") hbase rfl hline F.plainAttrs_dict F.slot_dict_values F.type_dict_values (thn (dsr_run he I h) fun u s1 ⟨a, od, vs, H1, ad1, n, eu, I1, ef, sy, ha, q⟩ => ?_)
  subst eu
  obtain ⟨hgd, hx, es, ep, hdt, r⟩ := frz_dict I1 ef
  have raw : s1.heap.DictRaw a es ep := ⟨od, hgd, hx, hdt⟩
  refine ⟨raw.typeIs, fun b z => by cases z; exact ⟨od, hgd, hx.2.1⟩, ?_⟩
  have I2 : Inv X pins σ H1 { s1 with heap := s1.heap.push { cls := .type "dict_values", data := .fields #[.ref a] } } := I1.kept (t' := s1.toks) fun b ob q => Heap.get?_push_of_some _ q
  have fin : wpAny (model X.prog X.w) X.A (pyIter (.ref s1.heap.objs.size)) (PIE X pins σ tg R) X.xe { s1 with heap := s1.heap.push { cls := .type "dict_values", data := .fields #[.ref a] } } :=
    wpAny_pyIter_values_raw (d := a) ⟨_, Heap.get?_push_size _ rfl, rfl, rfl⟩ (raw.push _) (pi_one (tk := s1.toks) I2 _ (turn_V _ hdt) ⟨_, Heap.get?_push_size _ rfl, rfl, rfl⟩ (q _ (jr_val ha ef)))
  show wpAny _ _ (callWith cpos (.builtin "dict.values") [.ref a] [] []) _ X.xe s1
  exact method_meetsIn F.slot_dict_values F.entry_dict_values rfl (PySem.evalArgs_none ⟨rfl, raw.typeIs, F.args_dict_values_1 _, _, meets_dict_values_raw a sy, ⟨es, ep, raw⟩, fin⟩)
theorem li_items {elts : List Expr} {kk : Nat} {tpos : Pos} (he : PE X e (rE (en X) me)) (hbase : attributeBase e "items" X.env (eval e X.env) = eval e X.env := by rfl) (hline : (apos.endLine == cpos.line) = true := by rfl) : PI X (.Tuple elts kk tpos) (.Call (.Attribute e "items" apos) [] [] cpos) (rI (en X) (mDsr .itm me)) := by
  refine ⟨fun pins s σ H R I h => ?_⟩
  refine wpAny_Call_method (T := "dict") (id := "dict.items") hbase rfl hline F.plainAttrs_dict F.slot_dict_items F.type_dict_items (thn (dsr_run he I h) fun u s1 ⟨a, od, vs, H1, ad1, n, eu, I1, ef, sy, ha, q⟩ => ?_)
  subst eu
  obtain ⟨hgd, hx, es, ep, hdt, r⟩ := frz_dict I1 ef
  have raw : s1.heap.DictRaw a es ep := ⟨od, hgd, hx, hdt⟩
  refine ⟨raw.typeIs, fun b z => by cases z; exact ⟨od, hgd, hx.2.1⟩, ?_⟩
  have I2 : Inv X pins σ H1 { s1 with heap := s1.heap.push { cls := .type "dict_items", data := .fields #[.ref a] } } := I1.kept (t' := s1.toks) fun b ob q => Heap.get?_push_of_some _ q
  have fin : wpAny (model X.prog X.w) X.A (pyIter (.ref s1.heap.objs.size)) (PIE X pins σ (.Tuple elts kk tpos) R) X.xe { s1 with heap := s1.heap.push { cls := .type "dict_items", data := .fields #[.ref a] } } :=
    wpAny_pyIter_items_raw (d := a) ⟨_, Heap.get?_push_size _ rfl, rfl, rfl⟩ (raw.push _) (pi_one (tk := s1.toks) I2 _ (turn_I _ hdt) ⟨_, _, Heap.get?_push_size _ rfl⟩ (q _ (jr_itm ha ef)))
  show wpAny _ _ (callWith cpos (.builtin "dict.items") [.ref a] [] []) _ X.xe s1
  exact method_meetsIn F.slot_dict_items F.entry_dict_items rfl (PySem.evalArgs_none ⟨rfl, raw.typeIs, F.args_dict_items_1 _, _, meets_dict_items_raw a sy, ⟨es, ep, raw⟩, fin⟩)

def enuD : List D → Hd → Option ((Src × Option Nat) × Hd)
  | [.tup ds], hp => some ((.seq (enumD ds), none), hp)
  | [.ref n], hp => (match lstOf hp n with
    | some _ => some ((.enl n, none), hp)
    | none => none)
  | _, _ => none
def mEnu (ms : M (List D)) : M (Src × Option Nat) := bnd ms fun ds => lft (enuD ds)
theorem li_enum {a : Expr} {ms : M (List D)} {elts : List Expr} {kk : Nat} {tpos : Pos} (hg : Gl X "enumerate") (hm : X.mg "enumerate" = none) (ha : PA X [a] (rA (en X) ms)) (hs : starEach [a] X.env = [(false, eval a X.env)] := by rfl) :
    PI X (.Tuple elts kk tpos) (.Call (.Name "enumerate" p) [a] [] pos) (rI (en X) (mEnu ms)) := by
  refine ⟨fun pins s σ H R I h => ?_⟩
  obtain ⟨ρ, hp, ad, sr, u, hp', st, e0, q⟩ := h
  obtain ⟨ds, h1, e1, e2⟩ := bnd_inv e0
  refine Call_ (ld_blt I hg hm boot_enumerate (PyProof.Rows.callWith_type1 (thn (ha.run pos pins s σ H (fun vs H1 => ∃ ad1, Ex (en X) H H1 ∧ ad <+: ad1 ∧ HR (en X) ad1 H1 h1 ∧ RDs (en X) ad1 H1 ds vs) I ⟨ρ, hp, ad, ds, h1, st, e1, fun v H' ad' x p r k => ⟨ad', x, p, r, k⟩⟩) fun us s1 ⟨vs, H1, I1, r1, ad1, x1, p1, hr1, k1⟩ => ?_) hs rfl))
  have hd1 : ∃ d, ds = [d] := by
    simp only [lft, enuD] at e2
    split at e2
    · exact ⟨_, rfl⟩
    · exact ⟨_, rfl⟩
    · cases e2
  obtain ⟨d, rfl⟩ := hd1
  obtain ⟨v, rfl, k⟩ := k1.one
  obtain ⟨w, rfl, rw'⟩ := vals1 r1
  have fr : ∀ b, b ∈ [s1.heap.objs.size + 1, s1.heap.objs.size] → FpOk X pins H1 b := fun b hb => by
    have e' : b = s1.heap.objs.size + 1 ∨ b = s1.heap.objs.size := by simpa using hb
    have hle : s1.heap.objs.size ≤ b := by
      rcases e' with z | z
      · rw [z]; exact Nat.le_add_right _ _
      · rw [z]; exact Nat.le_refl _
    exact I1.fpOk hle (I1.hok.fresh hle)
  cases d with
  | tup ds =>
    cases e2
    obtain ⟨a, vs, rfl, hq, r⟩ := k.t
    cases rw'
    obtain ⟨its, rv, pt, hz⟩ := I1.tuple hq
    obtain ⟨ot, hot, _⟩ := id pt
    have hlt := Heap.lt_size hot
    refine enum_begins1 (begins_tuple a its.toArray) (show s1.heap.IsTuple a its.toArray from pt) fun h' he hit hsz hk => wpAny_pyIter_enum he ?_
    have I2 : Inv X pins σ H1 { s1 with heap := h' } := I1.kept (t' := s1.toks) hk
    exact ⟨s1.heap.objs.size + 1, [s1.heap.objs.size + 1, s1.heap.objs.size], _, _, H1, rfl, I2, turn_E a (s1.heap.objs.size + 1) s1.heap.objs.size (Nat.ne_of_lt hlt) (Nat.ne_of_lt (Nat.lt_succ_of_lt hlt)), ⟨⟨.none, he⟩, ⟨_, hit, rfl, rfl⟩, Nat.succ_ne_self _⟩, fr, q _ H1 ad1 x1 p1 hr1 (jr_enT hq r) lkc_none⟩
  | ref n =>
    simp only [lft, enuD] at e2
    split at e2
    · rename_i ds z
      cases e2
      obtain ⟨a, rfl, ha'⟩ := k.r
      cases rw'
      obtain ⟨vs, hq, r⟩ := hr1.lstR z ha'
      obtain ⟨its, rv, pt, hz⟩ := I1.list hq
      refine call_enumerate_list pt.isList fun h' he hit hsz hk => wpAny_pyIter_enum he ?_
      have I2 : Inv X pins σ H1 { s1 with heap := h' } := I1.kept (t' := s1.toks) hk
      exact ⟨s1.heap.objs.size + 1, [s1.heap.objs.size + 1, s1.heap.objs.size], _, _, H1, rfl, I2, turn_enum a (s1.heap.objs.size + 1) s1.heap.objs.size, ⟨⟨.none, he⟩, hit, Nat.succ_ne_self _⟩, fr, q _ H1 ad1 x1 p1 hr1 (jr_enl ha') lkc_none⟩
    · cases e2
  | _ => cases e2
def zpD : List D → Hd → Option ((Src × Option Nat) × Hd)
  | [.tup xs, .tup ys], hp => some ((.seq (zipD xs ys), none), hp)
  | _, _ => none
def mZip (ms : M (List D)) : M (Src × Option Nat) := bnd ms fun ds => lft (zpD ds)
theorem li_zip {a b : Expr} {ms : M (List D)} {elts : List Expr} {kk : Nat} {tpos : Pos} (hg : Gl X "zip") (hm : X.mg "zip" = none) (ha : PA X [a, b] (rA (en X) ms))
    (hs : starEach [a, b] X.env = (false, eval a X.env) :: starEach [b] X.env := by rfl) (hpl : (backTo pos (starEach [b] X.env)).any (·.1) = false := by rfl) :
    PI X (.Tuple elts kk tpos) (.Call (.Name "zip" p) [a, b] [] pos) (rI (en X) (mZip ms)) := by
  refine PI.mono (RZ.pi_zipA hg hm ha hs hpl) fun σ H R h => ?_
  obtain ⟨ρ, hp, ad, sr, u, hp', st, e0, q⟩ := h
  obtain ⟨ds, h1, e1, e2⟩ := bnd_inv e0
  refine ⟨ρ, hp, ad, ds, h1, st, e1, fun vs H' ad' x p r k => ?_⟩
  simp only [lft, zpD] at e2
  split at e2
  · cases e2
    obtain ⟨v, w, rfl, k1, k2⟩ := k.two
    obtain ⟨pa, vs, rfl, hs1, r1⟩ := k1.t
    obtain ⟨pb, ws, rfl, hs2, r2⟩ := k2.t
    exact ⟨pa, pb, vs, ws, rfl, .inr ⟨hs1, hs2, q _ H' ad' x p r (jr_zipT hs1 hs2 r1 r2) lkc_none⟩⟩
  · cases e2
end
end DL
namespace DL
open PySem PySem.Spec PyProof.Rows L2

def wipeR (ρ : Rho) : List Nat → Rho
  | [] => ρ
  | v :: vs => (wipeR ρ vs).set v none
theorem wipeR_length (ρ : Rho) : ∀ vs : List Nat, (wipeR ρ vs).length = ρ.length
  | [] => rfl
  | v :: vs => by unfold wipeR; rw [List.length_set, wipeR_length ρ vs]
theorem wipeR_some {ρ : Rho} {i : Nat} {x : D} : ∀ {vs : List Nat}, (wipeR ρ vs)[i]? = some (some x) → ρ[i]? = some (some x) ∧ i ∉ vs
  | [], h => ⟨h, by simp⟩
  | v :: vs, h => by
    unfold wipeR at h
    by_cases hi : v = i
    · subst hi
      by_cases hv : v < (wipeR ρ vs).length
      · rw [List.getElem?_set_self hv] at h; cases h
      · rw [List.getElem?_eq_none (by simpa using hv)] at h; cases h
    · rw [List.getElem?_set_ne hi] at h
      obtain ⟨h1, h2⟩ := wipeR_some h
      exact ⟨h1, by simp only [List.mem_cons, not_or]; exact ⟨fun e => hi e.symm, h2⟩⟩
section
variable {E : En} {ad : List Addr} {H : Hp} {ρ : Rho} {hp : Hd} {σ : L2.St}
theorem RS.wipe (h : RS E ad H ρ σ) (vs : List Nat) : RS E ad H (wipeR ρ vs) (wipe σ vs) := fun i d e => by
  obtain ⟨e1, hi⟩ := wipeR_some e
  obtain ⟨v, e2, k⟩ := h i d e1
  exact ⟨v, by rw [wipe_out hi]; exact e2, k⟩
theorem wipe_set {i : Nat} {x : Option V} : ∀ {vs : List Nat}, i ∈ vs → wipe (σ.set i x) vs = wipe σ vs
  | [], h => by cases h
  | v :: vs, h => by
    unfold wipe
    by_cases hv : i ∈ vs
    · rw [wipe_set hv]
    · have e : i = v := by
        rcases List.mem_cons.mp h with z | z
        · exact z
        · exact absurd z hv
      subst e
      rw [wipe_sets hv]
      simp
where
  wipe_sets {i : Nat} {x : Option V} : ∀ {vs : List Nat}, i ∉ vs → wipe (σ.set i x) vs = (wipe σ vs).set i x
    | [], _ => rfl
    | v :: vs, h => by
      unfold wipe
      rw [wipe_sets (fun z => h (List.mem_cons_of_mem _ z)), List.set_comm _ _ (fun z => h (by rw [z]; exact List.mem_cons_self))]
theorem wipe_twice {vs : List Nat} : wipe (wipe σ vs) vs = wipe σ vs := by
  apply List.ext_getElem?
  intro i
  by_cases hi : i ∈ vs
  · have h1 := fun (τ : L2.St) => wipe_in (σ := τ) hi
    rcases h1 σ with a | a <;> rcases h1 (wipe σ vs) with b | b
    · rw [a, b]
    · have := List.getElem?_eq_none_iff.mp b
      rw [wipe_length] at this
      rw [List.getElem?_eq_none_iff.mpr this] at a
      cases a
    · have := List.getElem?_eq_none_iff.mp a
      rw [a, List.getElem?_eq_none_iff.mpr (by rw [wipe_length]; exact this)]
    · rw [a, b]
  · rw [wipe_out hi]
where
  wipe_in {σ : L2.St} {i : Nat} : ∀ {vs : List Nat}, i ∈ vs → (wipe σ vs)[i]? = some none ∨ (wipe σ vs)[i]? = none
    | [], h => by cases h
    | v :: vs, h => by
      unfold wipe
      by_cases hv : v = i
      · subst hv
        by_cases hl : v < (wipe σ vs).length
        · exact .inl (List.getElem?_set_self hl)
        · exact .inr (List.getElem?_eq_none_iff.mpr (by simpa using hl))
      · rw [List.getElem?_set_ne hv]
        exact wipe_in (by rcases List.mem_cons.mp h with z | z; exact absurd z.symm hv; exact z)
end
def rGc (E : En) (vs : List Nat) (g : G) : TG := fun v σ H Q => ∃ ρ hp ad d ρ' hp', St1 E ρ hp ad σ H ∧ RD E ad H d v ∧ g d ρ hp = some (ρ', hp') ∧ ∀ σ' H' ad', Ex E H H' → ad <+: ad' → St1 E ρ' hp' ad' σ' H' → wipe σ' vs = wipe σ vs → Q σ' H'
def rGcs (E : En) (vs : List Nat) (g : Gs) : TGs := fun ws σ H Q => ∃ ρ hp ad ds ρ' hp', St1 E ρ hp ad σ H ∧ RDs E ad H ds ws ∧ g ds ρ hp = some (ρ', hp') ∧ ∀ σ' H' ad', Ex E H H' → ad <+: ad' → St1 E ρ' hp' ad' σ' H' → wipe σ' vs = wipe σ vs → Q σ' H'
section
variable {X : Cx} {pos : Pos} {e : Expr} {vs : List Nat}
theorem lgc_name {i : Nat} {x : Str} (hv : i ∈ vs) (hN : X.N.Nodup) (hi : X.N[i]? = some x) (hx : Loc X.env.scope x) (hf : X.fn x = true ∨ X.env.scope.names.lookup x = some .local := by first | exact .inl rfl | exact .inr rfl | assumption) : PG X (.Name x pos) (rGc (en X) vs (gName i)) :=
  PG.mono (pg_name hN hi hx hf) fun v σ H Q h => by
    obtain ⟨ρ, hp, ad, d, ρ', hp', st, k, e, q⟩ := h
    unfold gName putR at e
    split at e
    · rename_i hi
      cases e
      exact q _ H ad .refl (List.prefix_refl _) (st.set hi k) (wipe_set hv)
    · cases e
theorem lgcs_nil : PGs X [] (rGcs (en X) vs gNil) := PGs.mono pgs_nil fun ws σ H Q h => by
  obtain ⟨ρ, hp, ad, ds, ρ', hp', st, k, e, q⟩ := h
  cases ds with
  | nil =>
    cases e
    rw [RDs] at k
    exact ⟨k, q σ H ad .refl (List.prefix_refl _) st rfl⟩
  | cons d ds => cases e
theorem lgcs_cons {es : List Expr} {g : G} {r : Gs} (h1 : PG X e (rGc (en X) vs g)) (h2 : PGs X es (rGcs (en X) vs r)) (hs : (assignEach (e :: es) X.env).map (·.2) = assign e X.env :: (assignEach es X.env).map (·.2) := by rfl) : PGs X (e :: es) (rGcs (en X) vs (gCons g r)) :=
  PGs.mono (pgs_cons h1 h2 hs) fun ws σ H Q h => by
    obtain ⟨ρ, hp, ad, ds, ρ', hp', st, k, e, q⟩ := h
    cases ds with
    | nil => cases e
    | cons d ds =>
      rw [RDs] at k
      obtain ⟨v, r, ev, k1, k2⟩ := k
      simp only [gCons] at e
      split at e
      · rename_i ρ1 h1 e1
        exact ⟨v, r, ev, ρ, hp, ad, d, ρ1, h1, st, k1, e1, fun σ' H' ad' x p s1 w1 => ⟨ρ1, h1, ad', ds, ρ', hp', s1, k2.mono x p, e, fun σ2 H2 a2 x2 p2 s2 w2 => q σ2 H2 a2 (x.trans x2) (p.trans p2) s2 (w2.trans w1)⟩⟩
      · cases e
theorem lgc_tup {es : List Expr} {k n : Nat} {g : Gs} (hc : X.calm = true) (h : PGs X es (rGcs (en X) vs g)) (hn : (assignEach es X.env).length = n := by rfl) (hst : (assignEach es X.env).findIdx? (·.1) = none := by rfl) : PG X (.Tuple es k pos) (rGc (en X) vs (gTup n g)) :=
  PG.mono (pg_tup hc h hn hst) fun v σ H Q h => by
    obtain ⟨ρ, hp, ad, d, ρ', hp', st, k, e, q⟩ := h
    unfold gTup at e
    split at e
    · rename_i ds
      split at e
      · rename_i hl
        rw [RD] at k
        obtain ⟨a, ws, ev, sq, ks⟩ := k
        exact ⟨a, ws, ev, sq, by rw [← ks.length]; exact hl, ρ, hp, ad, ds, ρ', hp', st, ks, e, q⟩
      · cases e
    · cases e
/-- no tests, one test -/
theorem lts_nil : PTs X [] (rT (en X) (pur true)) := ⟨fun pins s σ H Q I h => pts_nil.run pins s σ H Q I (by
  obtain ⟨ρ, hp, ad, b, hp', st, e, q⟩ := h
  cases e
  exact q.here st.h)⟩
theorem lts_one {c : Expr} {m : M Bool} (h : PT X c (rT (en X) m)) : PTs X [c] (rT (en X) m) := pts_one h
end
def lcLoop (s : Src) (g : G) (tt : M Bool) (me : M D) (ρw : Rho) (nL : Nat) : Nat → Nat → Hd → Option Hd
  | 0, _, _ => none
  | n + 1, i, hp => match nextD s i hp with
    | some (some d) => (match g d ρw hp with
      | some (ρ2, h2) => (match tt ρ2 h2 with
        | some (true, h3) => (match me ρ2 h3 with
          | some (y, h4) => (match h4.get nL with
            | some (.lst acc) => if acc.length < big then lcLoop s g tt me ρw nL n (i + 1) (h4.set nL (.lst (acc ++ [y]))) else none
            | _ => none)
          | none => none)
        | some (false, h3) => lcLoop s g tt me ρw nL n (i + 1) h3
        | none => none)
      | none => none)
    | some none => some hp
    | none => none
def mLc (N : Nat) (vs : List Nat) (mi : M (Src × Option Nat)) (g : G) (tt : M Bool) (me : M D) : M D := fun ρ hp => match mi ρ hp with
  | some ((s, u), h) => (match lcLoop s g tt me (wipeR ρ vs) h.n N 0 (h.push (.lst [])) with
    | some h' => (match unl u h' with
      | some h'' => some (.ref h.n, h'')
      | none => none)
    | none => none)
  | none => none
section
variable {X : Cx} {elt tg iter : Expr} {ifs : List Expr} {scope : Scope} {own : List (Str × Nat)} {pos : Pos} {mi : M (Src × Option Nat)} {g : G} {tt : M Bool} {me : M D} {N : Nat}
theorem rE_lc {σ : L2.St} {H : Hp} {Q : VK} {vs : List Nat} (h : rE (en X) (mLc N vs mi g tt me) σ H Q) :
    tLc (rI (en X) mi) (rGc (en X) vs g) (rT (en X) tt) (rE (en X) me) vs σ H (fun v H' => UL H H' (Q v)) := by
  obtain ⟨ρ, hp, ad, d, hp', st, e, q⟩ := h
  unfold mLc at e
  split at e
  case h_2 => cases e
  rename_i s u h0 e0
  split at e
  case h_2 => cases e
  rename_i h2 e2
  split at e
  case h_2 => cases e
  rename_i h3 e3
  cases e
  refine ⟨ρ, hp, ad, s, u, h0, st, e0, fun J H1 a1 x1 p1 r1 jr lc D nD => ?_⟩
  have exN : Ex (en X) H1 (upd H1 D (.lst [])) := .new nD
  have hrN : HR (en X) (a1 ++ [D]) (upd H1 D (.lst [])) (h0.push (.lst [])) := r1.push nD ⟨_, upd_same, [], rfl, .nil⟩
  have hD : ∀ ad', (a1 ++ [D]) <+: ad' → ad'[h0.n]? = some D := fun ad' p => by
    obtain ⟨t, rfl⟩ := p
    rw [List.getElem?_append_left (by simp [r1.len]), ← r1.len]
    simp
  refine ⟨fun i n Hi => ∃ hi ai, Ex (en X) H1 Hi ∧ (a1 ++ [D]) <+: ai ∧ HR (en X) ai Hi hi ∧ lcLoop s g tt me (wipeR ρ vs) h0.n n i hi = some h2, ⟨N, _, _, exN, List.prefix_refl _, hrN, e2⟩, ?_⟩
  rintro i n Hi ⟨hi, ai, xi, pi, ri, ei⟩
  have pa : a1 <+: ai := (List.prefix_append _ _).trans pi
  obtain ⟨jgo, jstop⟩ := jr i Hi ai hi xi pa ri
  cases n with
  | zero => cases ei
  | succ n =>
    rw [lcLoop] at ei
    split at ei
    · rename_i d ed
      obtain ⟨go, yl⟩ := jgo d ed
      refine .inr ⟨go, fun H' => ∃ hj aj, Ex (en X) H1 H' ∧ (a1 ++ [D]) <+: aj ∧ HR (en X) aj H' hj ∧ lcLoop s g tt me (wipeR ρ vs) h0.n n (i + 1) hj = some h2, fun H' ⟨hj, aj, xj, pj, rj, ej⟩ => ⟨n, Nat.lt_succ_self n, hj, aj, xj, pj, rj, ej⟩, fun x Hy y => ?_⟩
      obtain ⟨xy, ry, ky⟩ := yl x Hy y
      split at ei
      case h_2 => cases ei
      rename_i ρ2 hg eg
      have xall : Ex (en X) H Hy := (x1.trans xi).trans xy
      have sW : St0 (en X) (wipeR ρ vs) hi ai (wipe σ vs) Hy := ⟨(st.s.mono xall (p1.trans pa)).wipe vs, ry, by rw [wipe_length, wipeR_length]; exact st.len⟩
      refine ⟨_, hi, ai, d, ρ2, hg, sW, ky, eg, fun σ2 H2 a2 x2 p2 s2 w2 => ⟨?_, ?_⟩⟩
      · rw [w2]
        exact wipe_twice
      split at ei
      · rename_i h4 e4
        refine ⟨ρ2, hg, a2, true, h4, s2.toSt0, e4, fun H3 a3 x3 p3 r3 => iteT ?_⟩
        split at ei
        case h_2 => cases ei
        rename_i y' h5 e5
        refine ⟨ρ2, h4, a3, y', h5, s2.toSt0.next x3 p3 r3, e5, fun yv H4 a4 x4 p4 r4 k4 => ?_⟩
        split at ei
        case h_2 => cases ei
        rename_i acc eacc
        split at ei
        case isFalse => cases ei
        rename_i hz
        have pD : (a1 ++ [D]) <+: a4 := ((pi.trans p2).trans p3).trans p4
        obtain ⟨av, hav, rav⟩ := r4.lst eacc (hD a4 pD)
        have x5 : Ex (en X) H4 (upd H4 D (.lst (av ++ [yv]))) := .mut hav True.intro
        refine ⟨av, hav, by rw [← rav.length]; exact big_lt hz, _, a4, ((((xi.trans xy).trans x2).trans x3).trans x4).trans x5, pD, r4.set (b := .lst (acc ++ [y'])) (hD a4 pD) hav True.intro ⟨_, upd_same, _, rfl, (rav.append (.cons k4 .nil)).mono x5 (List.prefix_refl _)⟩, ei⟩
      · rename_i h4 e4
        exact ⟨ρ2, hg, a2, false, h4, s2.toSt0, e4, fun H3 a3 x3 p3 r3 => iteF ⟨h4, a3, ((xi.trans xy).trans x2).trans x3, (pi.trans p2).trans p3, r3, ei⟩⟩
      · cases ei
    · rename_i ed
      cases ei
      refine .inl ⟨jstop ed, HR.unl (ad := a1 ++ [D]) ri (x1.trans xi) (LkC.mono lc (List.prefix_append _ _)) pi e3 fun H2 x2 r2 rd => q _ H2 ai x2 (p1.trans pa) r2 ?_⟩
      rw [RD]
      exact ⟨D, rfl, hD ai pi⟩
    · cases ei
theorem le_lc (hc : X.calm = true) (hN : X.N.Nodup) (hi : PI X tg iter (rI (en X) mi)) (ok : BlkOk X.N X.env.scope scope own)
    (hg : ∀ (s : Shared) (H : Hp) (C : Addr) (cl : List (Str × Addr)) (fp : List Addr), PG (X.blk s H scope (compEnvC scope cl C X.env) fp) tg (rGc (en X) (own.map (·.2)) g))
    (ht : ∀ (s : Shared) (H : Hp) (C : Addr) (cl : List (Str × Addr)) (fp : List Addr), PTs (X.blk s H scope (compEnvC scope cl C X.env) fp) ifs (rT (en X) tt))
    (he : ∀ (s : Shared) (H : Hp) (C : Addr) (cl : List (Str × Addr)) (fp : List Addr), PE (X.blk s H scope (compEnvC scope cl C X.env) fp) elt (rE (en X) me)) (hs : ∀ x, foldedSetIterable iter X.env x = pure x := by intro _; rfl) :
    PE X (.ListComp elt [⟨tg, iter, ifs, 0⟩] scope pos) (rE (en X) (mLc N (own.map (·.2)) mi g tt me)) :=
  PE.mono (pe_unl (pe_lc hc hN hi ok hg ht he hs)) fun σ H Q h => rE_lc h
end
end DL
namespace DL
open PySem PySem.Spec PyProof.Rows L2

section
variable {X : Cx} {pins : List (Addr × Obj)} {σ : L2.St} {H : Hp} {s : Shared} {ad : List Addr}
mutual
theorem nst (I : Inv X pins σ H s) : ∀ {d : D} {v : V} {u : Value} {k : NestedKey}, RD (en X) ad H d v → RelV v u → kyD d = some k → NestedIs s.heap k u
  | .non, v, u, k, r, ru, e => by
    rw [kyD] at e; cases e; rw [r.n] at ru
    cases (show u = Value.none from ru); exact .none
  | .bl b, v, u, k, r, ru, e => by
    rw [kyD] at e; cases e; rw [r.b] at ru
    cases (show u = Value.bool b from ru); exact .bool rfl
  | .int i, v, u, k, r, ru, e => by
    rw [kyD] at e; cases e; rw [r.i] at ru
    obtain ⟨t, rfl⟩ := ru; exact .int i t
  | .str i, v, u, k, r, ru, e => by
    rw [kyD] at e; cases e; rw [r.x] at ru
    obtain ⟨t, rfl⟩ := ru; exact .text i t
  | .tup ds, v, u, k, r, ru, e => by
    rw [kyD] at e
    obtain ⟨a, vs, rfl, hs, rs⟩ := r.t
    cases (show u = Value.ref a from ru)
    cases q : kysD ds with
    | none => rw [q] at e; cases e
    | some ks =>
      rw [q] at e; cases e
      obtain ⟨its, rv, ⟨o, ho, hc, n, hd⟩, _⟩ := I.tuple hs
      exact .tup ho hc hd (by simpa using nsts I rs rv q)
  | .ref n, v, u, k, r, ru, e => by rw [kyD] at e; cases e
  | .kl n, v, u, k, r, ru, e => by rw [kyD] at e; cases e
theorem nsts (I : Inv X pins σ H s) : ∀ {ds : List D} {vs : List V} {us : List Value} {ks : List NestedKey}, RDs (en X) ad H ds vs → Vals vs us → kysD ds = some ks → NestedAll s.heap ks us
  | [], vs, us, ks, r, ru, e => by
    rw [kysD] at e; cases e
    rw [RDs] at r; subst r; cases ru; exact .nil
  | d :: ds, vs, us, ks, r, ru, e => by
    rw [kysD] at e
    rw [RDs] at r
    obtain ⟨v, rs, rfl, r1, r2⟩ := r
    cases ru with
    | cons h1 h2 =>
      split at e
      · rename_i k ks' e1 e2
        cases e
        exact .cons (nst I r1 h1 e1) (nsts I r2 h2 e2)
      · cases e
end
end
def fkD : D → Option L2.Key
  | .int i => some (.inl i)
  | .str x => some (.inr x)
  | _ => none
def nk : L2.Key → NestedKey
  | .inl i => .num i
  | .inr x => .text x
theorem nk_inj : ∀ {a b : L2.Key}, nk a = nk b → a = b
  | .inl _, .inl _, e => by injection e with e; rw [e]
  | .inr _, .inr _, e => by injection e with e; rw [e]
  | .inl _, .inr _, e => nomatch e
  | .inr _, .inl _, e => nomatch e
theorem fk_of {d : D} (h : kdD d = 2) : ∃ k, fkD d = some k ∧ kyD d = some (nk k) := by
  cases d with
  | int i => exact ⟨.inl i, rfl, by rw [kyD]; rfl⟩
  | str i => exact ⟨.inr i, rfl, by rw [kyD]; rfl⟩
  | _ => simp [kdD] at h
theorem fk_rd {E : En} {ad : List Addr} {H : Hp} {d : D} {v : V} {k : L2.Key} (e : fkD d = some k) : RD E ad H d v ↔ v = kV k := by
  cases d with
  | int i => cases e; rw [RD]; rfl
  | str i => cases e; rw [RD]; rfl
  | _ => cases e
theorem keyH_nk (w : World) (k : L2.Key) : keyH w k = (nk k).hash w := by
  cases k with
  | inl i => rfl
  | inr i => rfl

def TX (E : En) (ad : List Addr) (H : Hp) : List (D × D) → List (NestedKey × Addr × Value) → Prop := Paired fun (p : D × D) (x : NestedKey × Addr × Value) => kyD p.1 = some x.1 ∧ kdD p.1 = 1 ∧ RD E ad H p.1 (.ref x.2.1) ∧ ∃ v, RD E ad H p.2 v ∧ RelV v x.2.2
def FX (E : En) (ad : List Addr) (H : Hp) : List (D × D) → List (L2.Key × Value) → Prop := Paired fun (p : D × D) (x : L2.Key × Value) => fkD p.1 = some x.1 ∧ ∃ v, RD E ad H p.2 v ∧ RelV v x.2
theorem tup_ref {E : En} {ad : List Addr} {H : Hp} {d : D} {v : V} (h : kdD d = 1) (r : RD E ad H d v) : ∃ a, v = .ref a := by
  cases d with
  | tup ds => obtain ⟨a, _, e, _⟩ := r.t; exact ⟨a, e⟩
  | _ => simp [kdD] at h
theorem tx_of {E : En} {ad : List Addr} {H : Hp} : ∀ {kvs : List (D × D)} {vs : List (V × Int × V)} {es : List DictEntry}, PRs E ad H kvs vs → (∀ p ∈ kvs, kdD p.1 = 1) → Paired (fun (p : V × Int × V) (e : DictEntry) => RelV p.1 e.key ∧ e.hash = p.2.1 ∧ RelV p.2.2 e.val) vs es →
    ∃ xs : List (NestedKey × Addr × Value), TX E ad H kvs xs ∧ es = xs.map (fun x => (⟨x.1.hash E.w, .ref x.2.1, x.2.2⟩ : DictEntry))
  | [], vs, es, h, _, r => by
    cases h
    cases r
    exact ⟨[], .nil, rfl⟩
  | p :: ps, vs, es, h, t, r => by
    obtain ⟨q, rs, k, rfl, h1, h2, h3, h4, h5⟩ := h
    cases r with
    | cons r1 r2 =>
      rename_i e es'
      obtain ⟨xs, tx, ee⟩ := tx_of h5 (fun p hp => t p (List.mem_cons_of_mem _ hp)) r2
      have hp := t p List.mem_cons_self
      obtain ⟨a, ea⟩ := tup_ref hp h1
      obtain ⟨q1, q2, q3⟩ := q
      obtain ⟨r3, r4, r5⟩ := r1
      simp only at ea h1 h3 h4 r3 r4 r5
      subst ea
      refine ⟨(k, a, e.val) :: xs, .cons ⟨h2, hp, h1, q3, h4, r5⟩ tx, ?_⟩
      rw [List.map_cons, ← ee]
      congr 1
      have e1 : e.key = Value.ref a := r3
      rw [← h3, ← r4, ← e1]
theorem of_tx {E : En} {ad : List Addr} {H : Hp} : ∀ {kvs : List (D × D)} {xs : List (NestedKey × Addr × Value)}, TX E ad H kvs xs →
    ∃ vs, PRs E ad H kvs vs ∧ Paired (fun (p : V × Int × V) (e : DictEntry) => RelV p.1 e.key ∧ e.hash = p.2.1 ∧ RelV p.2.2 e.val) vs (xs.map (fun x => (⟨x.1.hash E.w, .ref x.2.1, x.2.2⟩ : DictEntry)))
  | [], _, .nil => ⟨[], rfl, .nil⟩
  | p :: ps, _, .cons h t => by
    rename_i x xs
    obtain ⟨vs, h5, r⟩ := of_tx t
    obtain ⟨h1, h2, h3, v, h4, h6⟩ := h
    exact ⟨(.ref x.2.1, x.1.hash E.w, v) :: vs, ⟨_, _, _, rfl, h3, h1, rfl, h4, h5⟩, .cons ⟨rfl, rfl, h6⟩ r⟩
theorem fx_of {E : En} {ad : List Addr} {H : Hp} : ∀ {kvs : List (D × D)} {vs : List (V × Int × V)} {es : List DictEntry}, PRs E ad H kvs vs → (∀ p ∈ kvs, kdD p.1 = 2) → Paired (fun (p : V × Int × V) (e : DictEntry) => RelV p.1 e.key ∧ e.hash = p.2.1 ∧ RelV p.2.2 e.val) vs es →
    ∃ xs : List (L2.Key × Value), FX E ad H kvs xs ∧ Pairs (mixKind E.P E.w) es xs ∧ ∀ e ∈ es, ∃ k, (mixKind E.P E.w).is k e.key = true ∧ e.hash = (mixKind E.P E.w).hash k
  | [], vs, es, h, _, r => by
    cases h
    cases r
    exact ⟨[], .nil, .nil, fun e h => by cases h⟩
  | p :: ps, vs, es, h, t, r => by
    obtain ⟨q, rs, k, rfl, h1, h2, h3, h4, h5⟩ := h
    cases r with
    | cons r1 r2 =>
      rename_i e es'
      obtain ⟨xs, tx, ee, ek⟩ := fx_of h5 (fun p hp => t p (List.mem_cons_of_mem _ hp)) r2
      obtain ⟨k', e1, e2⟩ := fk_of (t p List.mem_cons_self)
      rw [h2] at e2
      cases e2
      have ev := (fk_rd e1).mp h1
      obtain ⟨r3, r4, r5⟩ := r1
      rw [ev] at r3
      have is := kV_is (P := E.P) (w := E.w) r3
      refine ⟨(k', e.val) :: xs, .cons ⟨e1, _, h4, r5⟩ tx, .cons is rfl ee, fun e' he' => ?_⟩
      rcases List.mem_cons.mp he' with z | z
      · subst z
        exact ⟨k', is, by rw [r4, h3, ← keyH_nk]; rfl⟩
      · exact ek e' z
theorem of_fx {E : En} {ad : List Addr} {H : Hp} : ∀ {kvs : List (D × D)} {xs : List (L2.Key × Value)} {es : List DictEntry}, FX E ad H kvs xs → Pairs (mixKind E.P E.w) es xs → (∀ e ∈ es, ∃ k, (mixKind E.P E.w).is k e.key = true ∧ e.hash = (mixKind E.P E.w).hash k) →
    ∃ vs, PRs E ad H kvs vs ∧ Paired (fun (p : V × Int × V) (e : DictEntry) => RelV p.1 e.key ∧ e.hash = p.2.1 ∧ RelV p.2.2 e.val) vs es
  | [], _, _, .nil, .nil, _ => ⟨[], rfl, .nil⟩
  | p :: ps, _, _, .cons h t, .cons is ev es, ek => by
    rename_i x xs e es'
    obtain ⟨vs, h5, r⟩ := of_fx t es fun e' he' => ek e' (List.mem_cons_of_mem _ he')
    obtain ⟨h1, v, h4, h6⟩ := h
    obtain ⟨k', ik, hk⟩ := ek e List.mem_cons_self
    have ek' : k' = x.1 := (mixKind E.P E.w).inj _ _ _ ik is
    have h2 : kyD p.1 = some (nk x.1) := by
      obtain ⟨a, b⟩ := p
      cases a with
      | int i => simp [fkD] at h1; rw [← h1, kyD]; rfl
      | str i => simp [fkD] at h1; rw [← h1, kyD]; rfl
      | _ => simp [fkD] at h1
    refine ⟨(kV x.1, (nk x.1).hash E.w, v) :: vs, ⟨_, _, _, rfl, (fk_rd h1).mpr rfl, h2, rfl, h4, h5⟩, .cons ⟨relV_key is, ?_, by rw [ev]; exact h6⟩ r⟩
    rw [hk, ek', ← keyH_nk]
    rfl
theorem nodup_some {α : Type} : ∀ {l : List α}, (l.map some).Nodup → l.Nodup
  | [], _ => List.nodup_nil
  | a :: l, h => by
    rw [List.map_cons, List.nodup_cons] at h
    rw [List.nodup_cons]
    exact ⟨fun m => h.1 (List.mem_map.mpr ⟨a, m, rfl⟩), nodup_some h.2⟩
theorem nodup_inj : ∀ {l : List L2.Key}, (l.map (fun k => some (nk k))).Nodup → l.Nodup
  | [], _ => List.nodup_nil
  | a :: l, h => by
    rw [List.map_cons, List.nodup_cons] at h
    rw [List.nodup_cons]
    exact ⟨fun m => h.1 (List.mem_map.mpr ⟨a, m, rfl⟩), nodup_inj h.2⟩
theorem tx_keys {E : En} {ad : List Addr} {H : Hp} : ∀ {kvs : List (D × D)} {xs : List (NestedKey × Addr × Value)}, TX E ad H kvs xs → kvs.map (fun p => kyD p.1) = (xs.map (·.1)).map some
  | [], _, .nil => rfl
  | p :: ps, _, .cons h t => by
    rw [List.map_cons, List.map_cons, List.map_cons, tx_keys t, h.1]
theorem fx_ky {d : D} {k : L2.Key} (h : fkD d = some k) : kyD d = some (nk k) := by
  cases d with
  | int i => simp [fkD] at h; rw [← h, kyD]; rfl
  | str i => simp [fkD] at h; rw [← h, kyD]; rfl
  | _ => simp [fkD] at h
theorem fx_keys {E : En} {ad : List Addr} {H : Hp} : ∀ {kvs : List (D × D)} {xs : List (L2.Key × Value)}, FX E ad H kvs xs → kvs.map (fun p => kyD p.1) = (xs.map (·.1)).map (fun k => some (nk k))
  | [], _, .nil => rfl
  | p :: ps, _, .cons h t => by
    rw [List.map_cons, List.map_cons, List.map_cons, fx_keys t, fx_ky h.1]
/-- a dict of tuples | of flat keys, in the heap -/
theorem dic_H {X : Cx} {pins : List (Addr × Obj)} {σ : L2.St} {H : Hp} {s : Shared} {ad : List Addr} {a : Addr} {kvs : List (D × D)} {vs : List (V × Int × V)} (I : Inv X pins σ H s) (dc : DcP a vs s.heap) (r : PRs (en X) ad H kvs vs) (ko : KsOk kvs) (t : ∀ p ∈ kvs, kdD p.1 = 1) :
    ∃ xs, s.heap.DictOfH (nestedKind X.prog X.w) a xs ∧ TX (en X) ad H kvs xs := by
  obtain ⟨o, es, ep, e, c, d, pr⟩ := dc
  obtain ⟨xs, tx, ee⟩ := tx_of r t pr
  refine ⟨xs, ⟨o, es, ep, e, c, d, ee, fun x hx => ?_, ?_⟩, tx⟩
  · obtain ⟨i, hi⟩ := List.getElem?_of_mem hx
    have hl : i < kvs.length := by
      rw [Paired.length tx]; exact (List.getElem?_eq_some_iff.mp hi).1
    obtain ⟨x', hx', h1, h2, h3, _⟩ := paired_get tx (List.getElem?_eq_getElem hl)
    rw [hi] at hx'
    cases hx'
    obtain ⟨k, hk, hd⟩ := ko.2.1 kvs[i] (List.getElem_mem _)
    rw [h1] at hk
    cases hk
    exact ⟨nst I h3 rfl h1, hd⟩
  · have e1 : kvs.map (fun p => kyD p.1) = (xs.map (·.1)).map some := tx_keys tx
    have := ko.1
    rw [e1] at this
    exact nodup_some this
theorem dic_F {X : Cx} {pins : List (Addr × Obj)} {σ : L2.St} {H : Hp} {s : Shared} {ad : List Addr} {a : Addr} {kvs : List (D × D)} {vs : List (V × Int × V)} (I : Inv X pins σ H s) (dc : DcP a vs s.heap) (r : PRs (en X) ad H kvs vs) (ko : KsOk kvs) (t : ∀ p ∈ kvs, kdD p.1 = 2) :
    ∃ xs, s.heap.DictOf (mixKind X.prog X.w) a xs ∧ FX (en X) ad H kvs xs := by
  obtain ⟨o, es, ep, e, c, d, pr⟩ := dc
  obtain ⟨xs, fx, ps, ek⟩ := fx_of r t pr
  refine ⟨xs, ⟨o, es, ep, e, c, d, fun e' he' => ek e' (by simpa using he'), ps, ?_⟩, fx⟩
  have := ko.1
  rw [fx_keys fx] at this
  exact nodup_inj this
mutual
def ekD : D → D → Bool
  | .non, .non => true
  | .bl a, .bl b => a == b
  | .bl a, .int j => decide ((if a = true then (1 : Int) else 0) = j)
  | .int i, .bl b => decide (i = (if b = true then (1 : Int) else 0))
  | .int i, .int j => decide (i = j)
  | .str x, .str y => decide (x = y)
  | .tup a, .tup b => eksD a b
  | _, _ => false
def eksD : List D → List D → Bool
  | [], [] => true
  | a :: as, b :: bs => ekD a b && eksD as bs
  | _, _ => false
end
mutual
theorem ekD_ok : ∀ {a b : D} {j k : NestedKey}, kyD a = some j → kyD b = some k → ekD a b = NestedKey.beq j k
  | .non, b, j, k, e1, e2 => by
    rw [kyD] at e1; cases e1
    cases b with
    | tup y =>
      rw [kyD] at e2
      obtain ⟨q, _, rfl⟩ := Option.map_eq_some_iff.mp e2; simp [ekD, NestedKey.beq]
    | _ => rw [kyD] at e2; cases e2 <;> simp [ekD, NestedKey.beq]
  | .bl x, b, j, k, e1, e2 => by
    rw [kyD] at e1; cases e1
    cases b with
    | bl y => rw [kyD] at e2; cases e2; cases x <;> cases y <;> simp [ekD, NestedKey.beq]
    | int y => rw [kyD] at e2; cases e2; simp [ekD, NestedKey.beq]
    | tup y =>
      rw [kyD] at e2
      obtain ⟨q, _, rfl⟩ := Option.map_eq_some_iff.mp e2; simp [ekD, NestedKey.beq]
    | _ => rw [kyD] at e2; cases e2 <;> simp [ekD, NestedKey.beq]
  | .int x, b, j, k, e1, e2 => by
    rw [kyD] at e1; cases e1
    cases b with
    | bl y => rw [kyD] at e2; cases e2; simp [ekD, NestedKey.beq]
    | int y => rw [kyD] at e2; cases e2; simp [ekD, NestedKey.beq]
    | tup y =>
      rw [kyD] at e2
      obtain ⟨q, _, rfl⟩ := Option.map_eq_some_iff.mp e2; simp [ekD, NestedKey.beq]
    | _ => rw [kyD] at e2; cases e2 <;> simp [ekD, NestedKey.beq]
  | .str x, b, j, k, e1, e2 => by
    rw [kyD] at e1; cases e1
    cases b with
    | tup y =>
      rw [kyD] at e2
      obtain ⟨q, _, rfl⟩ := Option.map_eq_some_iff.mp e2; simp [ekD, NestedKey.beq]
    | _ => rw [kyD] at e2; cases e2 <;> simp [ekD, NestedKey.beq]
  | .tup x, b, j, k, e1, e2 => by
    rw [kyD] at e1
    obtain ⟨q1, h1, rfl⟩ := Option.map_eq_some_iff.mp e1
    cases b with
    | tup y =>
      rw [kyD] at e2
      obtain ⟨q, h2, rfl⟩ := Option.map_eq_some_iff.mp e2
      rw [ekD, NestedKey.beq]
      exact eksD_ok h1 h2
    | _ => rw [kyD] at e2; cases e2 <;> simp [ekD, NestedKey.beq]
  | .ref _, b, j, k, e1, e2 => by rw [kyD] at e1; cases e1
  | .kl _, b, j, k, e1, e2 => by rw [kyD] at e1; cases e1
theorem eksD_ok : ∀ {a b : List D} {j k : List NestedKey}, kysD a = some j → kysD b = some k → eksD a b = NestedKey.beqAll j k
  | [], [], j, k, e1, e2 => by rw [kysD] at e1 e2; cases e1; cases e2; rfl
  | [], b :: bs, j, k, e1, e2 => by
    rw [kysD] at e1; rw [kysD] at e2; cases e1
    split at e2
    · cases e2; rfl
    · cases e2
  | a :: as, [], j, k, e1, e2 => by
    rw [kysD] at e1; rw [kysD] at e2; cases e2
    split at e1
    · cases e1; rfl
    · cases e1
  | a :: as, b :: bs, j, k, e1, e2 => by
    rw [kysD] at e1 e2
    split at e1
    · split at e2
      · rename_i h1 h2 _ _ _ _ h3 h4
        cases e1; cases e2
        rw [eksD, NestedKey.beqAll, ekD_ok h1 h3, eksD_ok h2 h4]
      · cases e2
    · cases e1
end
theorem ekD_iff {a b : D} {j k : NestedKey} (e1 : kyD a = some j) (e2 : kyD b = some k) : ekD a b = true ↔ j = k := by
  rw [ekD_ok e1 e2, ← NestedKey.decide_eq, decide_eq_true_iff]
def dAt (k : D) : List (D × D) → Option D
  | [] => none
  | p :: r => if ekD p.1 k = true then some p.2 else dAt k r
def dPut (k v : D) : List (D × D) → List (D × D)
  | [] => [(k, v)]
  | p :: r => if ekD p.1 k = true then (p.1, v) :: r else p :: dPut k v r
section
variable {E : En} {ad : List Addr} {H : Hp}
theorem TX.val {k : D} {q : NestedKey} (ek : kyD k = some q) : ∀ {kvs : List (D × D)} {xs : List (NestedKey × Addr × Value)}, TX E ad H kvs xs →
    match dAt k kvs with
    | some d => ∃ p v, atKey xs q = some p ∧ RD E ad H d v ∧ RelV v p.2
    | none => atKey xs q = none
  | [], _, .nil => rfl
  | p :: ps, _, .cons (b := x) h t => by
    rename_i xs
    obtain ⟨h1, h2, h3, v, h4, h5⟩ := h
    rw [dAt]
    by_cases c : ekD p.1 k = true
    · rw [if_pos c]
      exact ⟨x.2, v, by simp [atKey, List.find?_cons, (ekD_iff h1 ek).mp c], h4, h5⟩
    · rw [if_neg c]
      have e : atKey (x :: xs) q = atKey xs q := by
        have n : ¬ x.1 = q := fun z => c ((ekD_iff h1 ek).mpr z)
        simp [atKey, List.find?_cons, n]
      rw [e]
      exact TX.val ek t
theorem storedH_cons {x : NestedKey × Addr × Value} {xs : List (NestedKey × Addr × Value)} {q : NestedKey} {b : Addr} {u : Value} (nd : ((x :: xs).map (·.1)).Nodup) :
    storedH (x :: xs) q b u = if x.1 = q then (x.1, x.2.1, u) :: xs else x :: storedH xs q b u := by
  rw [List.map_cons, List.nodup_cons] at nd
  by_cases c : x.1 = q
  · rw [if_pos c, storedH_old (p := x.2) (by simp [atKey, List.find?_cons, c]), List.map_cons, map_putAt_of_not_mem xs q u (by rw [← c]; exact nd.1), putAt, if_pos c]
  · rw [if_neg c]
    have e : atKey (x :: xs) q = atKey xs q := by simp [atKey, List.find?_cons, c]
    unfold storedH
    rw [e]
    split
    · rw [List.map_cons, putAt, if_neg c]
    · rfl
theorem TX.put {k d : D} {v : V} {q : NestedKey} {b : Addr} {u : Value} (ek : kyD k = some q) (hk : kdD k = 1) (rk : RD E ad H k (.ref b)) (rd : RD E ad H d v) (rv : RelV v u) : ∀ {kvs : List (D × D)} {xs : List (NestedKey × Addr × Value)}, TX E ad H kvs xs → (xs.map (·.1)).Nodup → TX E ad H (dPut k d kvs) (storedH xs q b u)
  | [], _, .nil, _ => .cons ⟨ek, hk, rk, v, rd, rv⟩ .nil
  | p :: ps, _, .cons (b := x) h t, nd => by
    rename_i xs
    rw [dPut, storedH_cons nd]
    by_cases c : ekD p.1 k = true
    · rw [if_pos c, if_pos ((ekD_iff h.1 ek).mp c)]
      exact .cons ⟨h.1, h.2.1, h.2.2.1, v, rd, rv⟩ t
    · rw [if_neg c, if_neg (fun z => c ((ekD_iff h.1 ek).mpr z))]
      rw [List.map_cons, List.nodup_cons] at nd
      exact .cons h (TX.put ek hk rk rd rv t nd.2)
theorem FX.val {k : D} {q : L2.Key} (ek : fkD k = some q) : ∀ {kvs : List (D × D)} {xs : List (L2.Key × Value)}, FX E ad H kvs xs →
    match dAt k kvs with
    | some d => ∃ p v, valueAt xs q = some p ∧ RD E ad H d v ∧ RelV v p
    | none => valueAt xs q = none
  | [], _, .nil => rfl
  | p :: ps, _, .cons (b := x) h t => by
    rename_i xs
    obtain ⟨h1, v, h4, h5⟩ := h
    rw [dAt]
    by_cases c : ekD p.1 k = true
    · rw [if_pos c]
      exact ⟨x.2, v, by simp [valueAt, List.find?_cons, nk_inj ((ekD_iff (fx_ky h1) (fx_ky ek)).mp c)], h4, h5⟩
    · rw [if_neg c]
      have e : valueAt (x :: xs) q = valueAt xs q := by
        have n : ¬ x.1 = q := fun z => c ((ekD_iff (fx_ky h1) (fx_ky ek)).mpr (congrArg nk z))
        simp [valueAt, List.find?_cons, n]
      rw [e]
      exact FX.val ek t
theorem map_st_of_not_mem {κ : Type} [DecidableEq κ] (q : κ) (u : Value) : ∀ xs : List (κ × Value), q ∉ xs.map (·.1) → xs.map (fun kv => if kv.1 = q then (kv.1, u) else kv) = xs
  | [], _ => rfl
  | x :: xs, h => by
    rw [List.map_cons, List.mem_cons, not_or] at h
    rw [List.map_cons, if_neg (fun z => h.1 z.symm), map_st_of_not_mem q u xs h.2]
theorem stored_cons {x : L2.Key × Value} {xs : List (L2.Key × Value)} {q : L2.Key} {u : Value} (nd : ((x :: xs).map (·.1)).Nodup) :
    stored (x :: xs) q u = if x.1 = q then (x.1, u) :: xs else x :: stored xs q u := by
  rw [List.map_cons, List.nodup_cons] at nd
  unfold stored
  by_cases c : x.1 = q
  · rw [if_pos c, if_pos (by simp [c]), List.map_cons, if_pos c, map_st_of_not_mem q u xs (by rw [← c]; exact nd.1)]
  · rw [if_neg c]
    rw [List.any_cons, decide_eq_false c, Bool.false_or]
    split
    · rw [List.map_cons, if_neg c]
    · rfl
theorem FX.put {k d : D} {v : V} {q : L2.Key} {u : Value} (ek : fkD k = some q) (rd : RD E ad H d v) (rv : RelV v u) : ∀ {kvs : List (D × D)} {xs : List (L2.Key × Value)}, FX E ad H kvs xs → (xs.map (·.1)).Nodup → FX E ad H (dPut k d kvs) (stored xs q u)
  | [], _, .nil, _ => .cons ⟨ek, v, rd, rv⟩ .nil
  | p :: ps, _, .cons (b := x) h t, nd => by
    rename_i xs
    rw [dPut, stored_cons nd]
    by_cases c : ekD p.1 k = true
    · rw [if_pos c, if_pos (nk_inj ((ekD_iff (fx_ky h.1) (fx_ky ek)).mp c))]
      exact .cons ⟨h.1, v, rd, rv⟩ t
    · rw [if_neg c, if_neg (fun z => c ((ekD_iff (fx_ky h.1) (fx_ky ek)).mpr (congrArg nk z)))]
      rw [List.map_cons, List.nodup_cons] at nd
      exact .cons h (FX.put ek rd rv t nd.2)
end
end DL
namespace DL
open PySem PySem.Spec PyProof.Rows L2

def kOk (k : D) (kvs : List (D × D)) : Bool := (match kyD k with
    | some q => decide (q.depth ≤ 8)
    | none => false) && (match kvs with
    | [] => kdD k == 1 || kdD k == 2
    | p :: _ => kdD p.1 == kdD k)
theorem kOk_cases {k : D} {kvs : List (D × D)} (ko : KsOk kvs) (h : kOk k kvs = true) : ∃ q, kyD k = some q ∧ q.depth ≤ 8 ∧ ((kdD k = 1 ∧ ∀ p ∈ kvs, kdD p.1 = 1) ∨ (kdD k = 2 ∧ ∀ p ∈ kvs, kdD p.1 = 2)) := by
  unfold kOk at h
  rw [Bool.and_eq_true] at h
  obtain ⟨h1, h2⟩ := h
  cases e : kyD k with
  | none => rw [e] at h1; cases h1
  | some q =>
    rw [e] at h1
    refine ⟨q, rfl, by simpa using h1, ?_⟩
    cases kvs with
    | nil =>
      simp only [Bool.or_eq_true, beq_iff_eq] at h2
      rcases h2 with h2 | h2
      · exact .inl ⟨h2, fun p hp => by cases hp⟩
      · exact .inr ⟨h2, fun p hp => by cases hp⟩
    | cons p ps =>
      simp only [beq_iff_eq] at h2
      rcases ko.2.2 with a | a
      · exact .inl ⟨by rw [← h2]; exact a p List.mem_cons_self, a⟩
      · exact .inr ⟨by rw [← h2]; exact a p List.mem_cons_self, a⟩
section
variable {X : Cx} {pins : List (Addr × Obj)} {σ : L2.St} {H : Hp} {s : Shared} {ad : List Addr} {hp : Hd} {n : Nat} {a : Addr} {kvs : List (D × D)} {k d : D} {y : V} {u : Value}
/-- the dict at a, seen by a key -/
def DView (X : Cx) (s : Shared) (ad : List Addr) (H : Hp) (a : Addr) (kvs : List (D × D)) (k : D) (u : Value) : Prop :=
  (∃ xs q b, kdD k = 1 ∧ kyD k = some q ∧ u = .ref b ∧ s.heap.DictOfH (nestedKind X.prog X.w) a xs ∧ TX (en X) ad H kvs xs ∧ (nestedKind X.prog X.w).is s.heap q b ∧ RD (en X) ad H k (.ref b)) ∨
  (∃ xs q, kdD k = 2 ∧ fkD k = some q ∧ s.heap.DictOf (mixKind X.prog X.w) a xs ∧ FX (en X) ad H kvs xs ∧ (mixKind X.prog X.w).is q u = true)
theorem dview {vs : List (V × Int × V)} (I : Inv X pins σ H s) (hs : Rd H a (DcO a vs)) (pr : PRs (en X) ad H kvs vs) (ko : KsOk kvs) (ok : kOk k kvs = true) (rk : RD (en X) ad H k y) (ry : RelV y u) : DView X s ad H a kvs k u := by
  obtain ⟨q, e, hq, c⟩ := kOk_cases ko ok
  rcases c with ⟨c1, c2⟩ | ⟨c1, c2⟩
  · obtain ⟨xs, hx, tx⟩ := dic_H I (dic_raw I hs) pr ko c2
    obtain ⟨b, rfl⟩ := tup_ref c1 rk
    cases (show u = Value.ref b from ry)
    exact .inl ⟨xs, q, b, c1, e, rfl, hx, tx, ⟨nst I rk rfl e, hq⟩, rk⟩
  · obtain ⟨xs, hx, fx⟩ := dic_F I (dic_raw I hs) pr ko c2
    obtain ⟨f, e1, e2⟩ := fk_of c1
    refine .inr ⟨xs, f, c1, e1, hx, fx, ?_⟩
    rw [(fk_rd e1).mp rk] at ry
    exact kV_is ry
theorem DView.typ (h : DView X s ad H a kvs k u) : s.TypeIs (.ref a) "dict" := by
  rcases h with ⟨xs, q, b, h1, h2, h3, h4, _⟩ | ⟨xs, q, h1, h2, h4, _⟩
  · exact h4.typeIs
  · exact h4.typeIs
variable {A : Around} {E : Value → Shared → Prop}
theorem room8 (hu : A.units + 64 < cLine) : (nestedKind X.prog X.w).room A.in1 := by
  show A.in1.units + 8 < cLine
  rw [Around.in1_units]; omega
theorem DView.get {Q : Value → Shared → Prop} (hu : A.units + 64 < cLine) (I : Inv X pins σ H s) (h : DView X s ad H a kvs k u) (e : dAt k kvs = some d) (hQ : ∀ w v s', Inv X pins σ H s' → RD (en X) ad H d v → RelV v w → Q w s') :
    wpAny (model X.prog X.w) A (getItem (.ref a) u) Q E s := by
  rcases h with ⟨xs, q, b, h1, h2, rfl, h4, h5, h6, h7⟩ | ⟨xs, q, h1, h2, h4, h5, h6⟩
  · have := TX.val h2 h5
    rw [e] at this
    obtain ⟨p, v, g1, g2, g3⟩ := this
    exact wpAny_getItem_heap (room8 hu) h6 h4 g1 (hQ _ v _ (I.tok _) g2 g3)
  · have := FX.val h2 h5
    rw [e] at this
    obtain ⟨p, v, g1, g2, g3⟩ := this
    exact wpAny_getItem_of h6 h4.mapOf g1 (hQ _ v _ (I.tok _) g2 g3)
theorem DView.in_ {Q : Value → Shared → Prop} (hu : A.units + 64 < cLine) (hd : (a == sysModules) = false) (I : Inv X pins σ H s) (h : DView X s ad H a kvs k u) (hQ : ∀ s', Inv X pins σ H s' → Q (.bool (dAt k kvs).isSome) s') :
    wpAny (model X.prog X.w) A (compareOp .In u (.ref a)) Q E s := by
  rcases h with ⟨xs, q, b, h1, h2, rfl, h4, h5, h6, h7⟩ | ⟨xs, q, h1, h2, h4, h5, h6⟩
  · refine wpAny_in_heap (room8 hu) h6 hd h4 ?_
    have := TX.val h2 h5
    have e : (atKey xs q).isSome = (dAt k kvs).isSome := by
      cases z : dAt k kvs with
      | none => rw [z] at this; rw [this]; rfl
      | some d => rw [z] at this; obtain ⟨p, v, g1, _⟩ := this; rw [g1]; rfl
    rw [e]
    exact hQ _ (I.tok _)
  · refine wpAny_in_of h6 hd h4.mapOf ?_
    have := FX.val h2 h5
    have e : (valueAt xs q).isSome = (dAt k kvs).isSome := by
      cases z : dAt k kvs with
      | none => rw [z] at this; rw [this]; rfl
      | some d => rw [z] at this; obtain ⟨p, v, g1, _⟩ := this; rw [g1]; rfl
    rw [e]
    exact hQ _ (I.tok _)
theorem DView.notIn {Q : Value → Shared → Prop} (hu : A.units + 64 < cLine) (hd : (a == sysModules) = false) (I : Inv X pins σ H s) (h : DView X s ad H a kvs k u) (hQ : ∀ s', Inv X pins σ H s' → Q (.bool (!(dAt k kvs).isSome)) s') :
    wpAny (model X.prog X.w) A (compareOp .NotIn u (.ref a)) Q E s := by
  rcases h with ⟨xs, q, b, h1, h2, rfl, h4, h5, h6, h7⟩ | ⟨xs, q, h1, h2, h4, h5, h6⟩
  · refine wpAny_notIn_heap (room8 hu) h6 hd h4 ?_
    have := TX.val h2 h5
    have e : (atKey xs q).isSome = (dAt k kvs).isSome := by
      cases z : dAt k kvs with
      | none => rw [z] at this; rw [this]; rfl
      | some d => rw [z] at this; obtain ⟨p, v, g1, _⟩ := this; rw [g1]; rfl
    rw [e]
    exact hQ _ (I.tok _)
  · refine wpAny_notIn_of h6 hd h4.mapOf ?_
    have := FX.val h2 h5
    have e : (valueAt xs q).isSome = (dAt k kvs).isSome := by
      cases z : dAt k kvs with
      | none => rw [z] at this; rw [this]; rfl
      | some d => rw [z] at this; obtain ⟨p, v, g1, _⟩ := this; rw [g1]; rfl
    rw [e]
    exact hQ _ (I.tok _)
theorem DView.getOr {Q : Value → Shared → Prop} {x : D} {xv : V} {xu : Value} (hu : A.units + 64 < cLine) (hd : (a == sysModules) = false) (I : Inv X pins σ H s) (h : DView X s ad H a kvs k u) (rx : RD (en X) ad H x xv) (rxu : RelV xv xu) (hQ : ∀ w v s', Inv X pins σ H s' → RD (en X) ad H ((dAt k kvs).getD x) v → RelV v w → Q w s') :
    wpAny (model X.prog X.w) A (call (.builtin "dict.get") [.ref a, u, xu]) Q E s := by
  rcases h with ⟨xs, q, b, h1, h2, rfl, h4, h5, h6, h7⟩ | ⟨xs, q, h1, h2, h4, h5, h6⟩
  · refine call_meetsIn PySem.F.slot_dict_get h4.typeIs PySem.F.entry_dict_get (PySem.F.args_dict_get_3 _ _ _) (meetsH_dict_get_default (nestedKind X.prog X.w) a b hd xu) ⟨room8 hu, q, xs, h6, h4, ?_⟩
    have := TX.val h2 h5
    cases z : dAt k kvs with
    | none => rw [z] at this hQ; rw [this]; exact hQ _ xv _ (I.tok _) rx rxu
    | some d => rw [z] at this hQ; obtain ⟨p, v, g1, g2, g3⟩ := this; rw [g1]; exact hQ _ v _ (I.tok _) g2 g3
  · refine call_meetsIn PySem.F.slot_dict_get h4.typeIs PySem.F.entry_dict_get (PySem.F.args_dict_get_3 _ _ _) (meets_dict_get_default (mixKind X.prog X.w) a h6 hd xu) ⟨_, h4.mapOf, ?_⟩
    have := FX.val h2 h5
    cases z : dAt k kvs with
    | none => rw [z] at this hQ; rw [this]; exact hQ _ xv _ (I.tok _) rx rxu
    | some d => rw [z] at this hQ; obtain ⟨p, v, g1, g2, g3⟩ := this; rw [g1]; exact hQ _ v _ (I.tok _) g2 g3
theorem ext_ok {H' : Hp} {h' : Heap} {vs : List (V × Int × V)} (dc : DcP a vs h') : ObjOk X.prog X.w H' h' a (DcO a vs) := by
  refine ⟨dc, let ⟨o, _, _, e, _⟩ := dc; ⟨o, e⟩, fun h1 h2 ⟨o, es, ep, e, r⟩ k => ⟨o, es, ep, k _ e, r⟩⟩
theorem dcp_T {E : En} {h' : Heap} {xs : List (NestedKey × Addr × Value)} (dd : h'.DictOfH (nestedKind E.P E.w) a xs) (tx : TX E ad H kvs xs) : ∃ vs, DcP a vs h' ∧ PRs E ad H kvs vs := by
  obtain ⟨vs, pr, r⟩ := of_tx tx
  obtain ⟨o, es, ep, e, c, dt, ee, _⟩ := dd
  exact ⟨vs, ⟨o, es, ep, e, c, dt, by rw [ee]; exact r⟩, pr⟩
theorem dcp_F {E : En} {h' : Heap} {xs : List (L2.Key × Value)} (dd : h'.DictOf (mixKind E.P E.w) a xs) (fx : FX E ad H kvs xs) : ∃ vs, DcP a vs h' ∧ PRs E ad H kvs vs := by
  obtain ⟨o, es, ep, e, c, dt, ek, ee, _⟩ := dd
  obtain ⟨vs, pr, r⟩ := of_fx fx ee (fun e he => ek e (by simpa using he))
  exact ⟨vs, ⟨o, es, ep, e, c, dt, r⟩, pr⟩
theorem dPut_keys {k d : D} {q : NestedKey} (ek : kyD k = some q) : ∀ {kvs : List (D × D)}, (∀ p ∈ kvs, ∃ j, kyD p.1 = some j) →
    (dPut k d kvs).map (fun p => kyD p.1) = if some q ∈ kvs.map (fun p => kyD p.1) then kvs.map (fun p => kyD p.1) else kvs.map (fun p => kyD p.1) ++ [some q]
  | [], _ => by simp [dPut, ek]
  | p :: ps, h => by
    obtain ⟨j, hj⟩ := h p List.mem_cons_self
    have ih := dPut_keys (d := d) ek (fun p hp => h p (List.mem_cons_of_mem _ hp) : ∀ p ∈ ps, ∃ j, kyD p.1 = some j)
    rw [dPut]
    by_cases c : ekD p.1 k = true
    · rw [if_pos c]
      have := (ekD_iff hj ek).mp c
      subst this
      rw [List.map_cons, List.map_cons, hj, if_pos List.mem_cons_self]
    · rw [if_neg c]
      have c' : ¬ q = j := fun z => c ((ekD_iff hj ek).mpr z.symm)
      rw [List.map_cons, List.map_cons, ih, hj]
      by_cases m : some q ∈ ps.map (fun p => kyD p.1)
      · rw [if_pos m, if_pos (List.mem_cons_of_mem _ m)]
      · rw [if_neg m, if_neg (by rw [List.mem_cons, not_or]; exact ⟨fun z => c' (by injection z), m⟩)]
        rfl
theorem dPut_mem {k d : D} : ∀ {kvs : List (D × D)} {p : D × D}, p ∈ dPut k d kvs → p.1 = k ∨ ∃ p' ∈ kvs, p'.1 = p.1
  | [], p, h => by
    simp [dPut] at h; subst h; exact .inl rfl
  | p0 :: ps, p, h => by
    rw [dPut] at h
    split at h
    · rcases List.mem_cons.mp h with h | h
      · subst h; exact .inr ⟨p0, List.mem_cons_self, rfl⟩
      · exact .inr ⟨p, List.mem_cons_of_mem _ h, rfl⟩
    · rcases List.mem_cons.mp h with h | h
      · subst h; exact .inr ⟨p, List.mem_cons_self, rfl⟩
      · rcases dPut_mem h with z | ⟨p', m, e⟩
        · exact .inl z
        · exact .inr ⟨p', List.mem_cons_of_mem _ m, e⟩
theorem dPut_len {k d : D} : ∀ {kvs : List (D × D)}, (dPut k d kvs).length ≤ kvs.length + 1
  | [] => by simp [dPut]
  | p :: ps => by
    rw [dPut]
    split
    · simp
    · have := dPut_len (k := k) (d := d) (kvs := ps)
      simp; omega
theorem KsOk.put {k d : D} (ko : KsOk kvs) (ok : kOk k kvs = true) : KsOk (dPut k d kvs) := by
  obtain ⟨q, e, hq, c⟩ := kOk_cases ko ok
  refine ⟨?_, fun p hp => ?_, ?_⟩
  · rw [dPut_keys e (fun p hp => let ⟨j, h, _⟩ := ko.2.1 p hp; ⟨j, h⟩)]
    split
    · exact ko.1
    · rename_i m
      rw [List.nodup_append]
      exact ⟨ko.1, by simp, fun x hx z hz => by simp at hz; subst hz; exact fun w => m (w ▸ hx)⟩
  · rcases dPut_mem hp with z | ⟨p', m, z⟩
    · rw [z]; exact ⟨q, e, hq⟩
    · rw [← z]; exact ko.2.1 p' m
  · rcases c with ⟨c1, c2⟩ | ⟨c1, c2⟩
    · exact .inl fun p hp => by
        rcases dPut_mem hp with z | ⟨p', m, z⟩
        · rw [z]; exact c1
        · rw [← z]; exact c2 p' m
    · exact .inr fun p hp => by
        rcases dPut_mem hp with z | ⟨p', m, z⟩
        · rw [z]; exact c1
        · rw [← z]; exact c2 p' m
theorem KsOk.nil : KsOk [] := ⟨List.nodup_nil, fun _ h => (List.not_mem_nil h).elim, .inl fun _ h => (List.not_mem_nil h).elim⟩
/-- the dict at n is set -/
theorem dic_put {E : En} {ad : List Addr} {H : Hp} {hp : Hd} {n : Nat} {a : Addr} {vs ws : List (V × Int × V)} {kvs : List (D × D)} (hr : HR E ad H hp) (ha : ad[n]? = some a) (h : H a = some (DcO a vs)) (z : kvs.length ≤ sizeLine) (sy : (a == sysModules) = false) (pr : PRs E ad H kvs ws) (ko : KsOk kvs) :
    Ex E H (upd H a (DcO a ws)) ∧ HR E ad (upd H a (DcO a ws)) (hp.set n (.dic kvs)) := by
  have x : Ex E H (upd H a (DcO a ws)) := .mut h True.intro
  exact ⟨x, hr.set ha h True.intro ⟨_, upd_same, ws, rfl, z, sy, pr.mono x (List.prefix_refl _), ko⟩⟩
/-- what is stored at a key -/
def putH (n : Nat) (k d : D) (hp : Hd) : Option Hd := match hp.get n with
  | some (.dic kvs) => if kOk k kvs = true ∧ kvs.length < big then some (hp.set n (.dic (dPut k d kvs))) else none
  | _ => none
section
variable {hp2 : Hd} {v : V} {r : Value}
theorem put_raw {P : (Unit → Shared → Prop) → Prop} (hu : A.units + 64 < cLine) (I : Inv X pins σ H s) (hr : HR (en X) ad H hp) (ha : ad[n]? = some a) (e : putH n k d hp = some hp2) (rk : RD (en X) ad H k y) (ry : RelV y u) (rd : RD (en X) ad H d v) (rv : RelV v r)
    (pT : ∀ xs q b (Q : Unit → Shared → Prop), u = .ref b → (nestedKind X.prog X.w).room A.in1 → (nestedKind X.prog X.w).is s.heap q b → s.heap.DictOfH (nestedKind X.prog X.w) a xs → xs.length ≤ sizeLine → (∀ h' t, h'.DictOfH (nestedKind X.prog X.w) a (storedH xs q b r) → Heap.SameBut a s.heap h' → Q () { s with heap := h', toks := t }) → P Q)
    (pF : ∀ xs q (Q : Unit → Shared → Prop), (mixKind X.prog X.w).is q u = true → s.heap.DictOf (mixKind X.prog X.w) a xs → xs.length ≤ sizeLine → (∀ h' t, h'.DictOf (mixKind X.prog X.w) a (stored xs q r) → Heap.SameBut a s.heap h' → Q () { s with heap := h', toks := t }) → P Q) :
    P (fun _ s' => ∃ H', Inv X pins σ H' s' ∧ Ex (en X) H H' ∧ HR (en X) ad H' hp2) := by
  unfold putH at e
  split at e
  · rename_i kvs eg
    split at e
    · rename_i hc
      obtain ⟨ok, hz⟩ := hc
      cases e
      obtain ⟨uo, ea, vs, rfl, hz2, sy, pr, ko⟩ := hr.at_ ha eg
      have fin : ∀ {s' : Shared} {ws}, Inv X pins σ (upd H a (DcO a ws)) s' → PRs (en X) ad H (dPut k d kvs) ws → ∃ H', Inv X pins σ H' s' ∧ Ex (en X) H H' ∧ HR (en X) ad H' (hp.set n (.dic (dPut k d kvs))) := fun {s' ws} I' pr' => by
        obtain ⟨x1, r1⟩ := dic_put hr ha ea (Nat.le_trans dPut_len (big_ok hz)) sy pr' (ko.put ok)
        exact ⟨_, I', x1, r1⟩
      rcases dview I (.inl ea) pr ko ok rk ry with ⟨xs, q, b, h1, h2, rfl, h4, h5, h6, h7⟩ | ⟨xs, q, h1, h2, h4, h5, h6⟩
      · refine pT xs q b _ rfl (room8 hu) h6 h4 (by rw [← Paired.length h5]; exact hz2) fun h' t dd hs => ?_
        obtain ⟨_, _, _, _, _, _, _, _, nd⟩ := id h4
        obtain ⟨ws, dc, pr'⟩ := dcp_T (E := en X) dd (TX.put h2 h1 h7 rd rv h5 nd)
        exact fin (d_write I (by rw [ea]; exact True.intro) hs (let ⟨o, _, _, e, _⟩ := dc; ⟨o, e⟩) (ext_ok dc)) pr'
      · refine pF xs q _ h6 h4 (by rw [← Paired.length h5]; exact hz2) fun h' t dd hs => ?_
        obtain ⟨_, _, _, _, _, _, _, _, nd⟩ := id h4
        obtain ⟨ws, dc, pr'⟩ := dcp_F (E := en X) dd (FX.put h2 rd rv h5 nd)
        exact fin (d_write I (by rw [ea]; exact True.intro) hs (let ⟨o, _, _, e, _⟩ := dc; ⟨o, e⟩) (ext_ok dc)) pr'
    · cases e
  · cases e
theorem put_set (hu : A.units + 64 < cLine) (I : Inv X pins σ H s) (hr : HR (en X) ad H hp) (ha : ad[n]? = some a) (e : putH n k d hp = some hp2) (rk : RD (en X) ad H k y) (ry : RelV y u) (rd : RD (en X) ad H d v) (rv : RelV v r) :
    wpAny (model X.prog X.w) A (setItem (.ref a) u r) (fun _ s' => ∃ H', Inv X pins σ H' s' ∧ Ex (en X) H H' ∧ HR (en X) ad H' hp2) E s :=
  put_raw (P := fun Q => wpAny (model X.prog X.w) A (setItem (.ref a) u r) Q E s) hu I hr ha e rk ry rd rv
    (fun xs q b Q eu ro hi hd hz hQ => by subst eu; exact wpAny_setItem_heap (hsz := hz) ro hi hd fun h' a b => hQ h' _ a b)
    (fun xs q Q hi hd hz hQ => wpAny_setItem_pairs (hsz := hz) hi hd fun h' a b => hQ h' _ a b)
theorem put_dset (hu : A.units + 64 < cLine) (I : Inv X pins σ H s) (hr : HR (en X) ad H hp) (ha : ad[n]? = some a) (e : putH n k d hp = some hp2) (rk : RD (en X) ad H k y) (ry : RelV y u) (rd : RD (en X) ad H d v) (rv : RelV v r) :
    wpAny (model X.prog X.w) A (dictSet a u r) (fun _ s' => ∃ H', Inv X pins σ H' s' ∧ Ex (en X) H H' ∧ HR (en X) ad H' hp2) E s :=
  put_raw (P := fun Q => wpAny (model X.prog X.w) A (dictSet a u r) Q E s) hu I hr ha e rk ry rd rv
    (fun xs q b Q eu ro hi hd hz hQ => by
      subst eu
      have ro' : (nestedKind X.prog X.w).room A := by
        have ro : A.in1.units + 8 < cLine := ro
        show A.units + 8 < cLine
        rw [Around.in1_units] at ro; omega
      exact wpAny_dictSet_heap (hsz := hz) ro' hi hd fun h' a b => hQ h' _ a b)
    (fun xs q Q hi hd hz hQ => wpAny_dictSet_pairs (hsz := hz) hi hd fun h' a b => hQ h' _ a b)
end
end

section
variable {X : Cx} {pos : Pos}
/-- a[b]: tuples, lists, dicts -/
def ixA : D → D → Hd → Option (D × Hd) := fun o k hp => match o with
  | .ref n => (match dicOf hp n with
    | some kvs => if kOk k kvs = true then (dAt k kvs).map fun d => (d, hp) else none
    | none => atD o k hp)
  | _ => atD o k hp
theorem ix_A (hu : X.A.units + 64 < cLine) : IxR X (rB (en X) ixA) := by
  intro value slice pins s σ H x y v u Q I rx ry ⟨ad, hp, d1, d2, d, hp', hr, k1, k2, e, q⟩ hs
  have old : atD d1 d2 hp = some (d, hp') → wpAny (model X.prog X.w) X.A (subscriptTail value slice v u) (EP X pins σ Q) X.xe s := fun e =>
    ix_D value slice pins s σ H x y v u Q I rx ry ⟨ad, hp, d1, d2, d, hp', hr, k1, k2, e, q⟩ hs
  unfold ixA at e
  split at e
  · rename_i n
    split at e
    · rename_i kvs ed
      split at e
      · rename_i ok
        obtain ⟨d', e1, e2⟩ := Option.map_eq_some_iff.mp e
        cases e2
        obtain ⟨a, rfl, ha⟩ := k1.r
        cases (show v = Value.ref a from rx)
        obtain ⟨vs, hq, z, sy, pr, ko⟩ := hr.dicR ed ha
        have dv := dview I hq pr ko ok k2 ry
        exact tail_any dv.typ slot_dict_getitem.lookup (dv.get hu I e1 fun w v s' I' rd rv => ⟨v, H, I', rv, q.here hr rd⟩) hs
      · cases e
    · exact old e
  · exact old e
/-- a in b: lists, tuples, dicts -/
def inA (f : Bool → Bool) : D → D → Hd → Option (D × Hd) := fun k o hp => match o with
  | .ref n => (match dicOf hp n with
    | some kvs => if kOk k kvs = true then some (.bl (f (dAt k kvs).isSome), hp) else none
    | none => inC f k o hp)
  | _ => inC f k o hp
theorem op_inA (hu : X.A.units + 65 < cLine) : OpR X (compareOp .In) (rB (en X) (inA id)) := by
  intro pins s σ H x y v u Q I rx ry ⟨ad, hp, d1, d2, d, hp', hr, k1, k2, e, q⟩
  have old : inC id d1 d2 hp = some (d, hp') → wpAny (model X.prog X.w) X.A (compareOp .In v u) (EP X pins σ Q) X.xe s := fun e =>
    op_inS hu pins s σ H x y v u Q I rx ry ⟨ad, hp, d1, d2, d, hp', hr, k1, k2, e, q⟩
  unfold inA at e
  split at e
  · rename_i n
    split at e
    · rename_i kvs ed
      split at e
      · rename_i ok
        cases e
        obtain ⟨a, rfl, ha⟩ := k2.r
        cases (show u = Value.ref a from ry)
        obtain ⟨vs, hq, z, sy, pr, ko⟩ := hr.dicR ed ha
        have dv := dview I hq pr ko ok k1 rx
        exact dv.in_ (by omega) sy I fun s' I' => ⟨.bl _, H, I', rfl, q.here hr (rdB _)⟩
      · cases e
    · exact old e
  · exact old e
theorem op_notInA (hu : X.A.units + 65 < cLine) : OpR X (compareOp .NotIn) (rB (en X) (inA not)) := by
  intro pins s σ H x y v u Q I rx ry ⟨ad, hp, d1, d2, d, hp', hr, k1, k2, e, q⟩
  have old : inC not d1 d2 hp = some (d, hp') → wpAny (model X.prog X.w) X.A (compareOp .NotIn v u) (EP X pins σ Q) X.xe s := fun e =>
    op_notInS hu pins s σ H x y v u Q I rx ry ⟨ad, hp, d1, d2, d, hp', hr, k1, k2, e, q⟩
  unfold inA at e
  split at e
  · rename_i n
    split at e
    · rename_i kvs ed
      split at e
      · rename_i ok
        cases e
        obtain ⟨a, rfl, ha⟩ := k2.r
        cases (show u = Value.ref a from ry)
        obtain ⟨vs, hq, z, sy, pr, ko⟩ := hr.dicR ed ha
        have dv := dview I hq pr ko ok k1 rx
        exact dv.notIn (by omega) sy I fun s' I' => ⟨.bl _, H, I', rfl, q.here hr (rdB _)⟩
      · cases e
    · exact old e
  · exact old e
/-- o[i] = v, of dicts -/
def gSubD (mo mi : M D) : G := fun v ρ hp => match mo ρ hp with
  | some (.ref n, h1) => (match mi ρ h1 with
    | some (k, h2) => (match putH n k v h2 with
      | some h3 => some (ρ, h3)
      | none => none)
    | none => none)
  | _ => none
theorem lg_sub {o i : Expr} {mo mi : M D} (hu : X.A.units + 64 < cLine) (ho : PE X o (rE (en X) mo)) (hi : PE X i (rE (en X) mi))
    (ha : ∀ v, assign (.Subscript o i pos) X.env v = (do
      let ov ← holding [v] (eval o X.env)
      let iv ← holding [v, ov] (eval i X.env)
      standAt pos
      holding [v, ov, iv] (setItem ov iv v)
      release [v, ov, iv] []) := by intro _; rfl) : PG X (.Subscript o i pos) (rG (en X) (gSubD mo mi)) := by
  refine PG.mono (pg_sub (t := fun ov iv v H Q => ∃ ad hp n k d hp2 a, HR (en X) ad H hp ∧ ov = .ref a ∧ ad[n]? = some a ∧ RD (en X) ad H k iv ∧ RD (en X) ad H d v ∧ putH n k d hp = some hp2 ∧ ∀ H', Ex (en X) H H' → HR (en X) ad H' hp2 → Q H') ho hi ?_ ha) ?_
  · intro pins s σ H o i v ov iv u Q I ro ri rv ⟨ad, hp, n, k, d, hp2, a, hr, eo, ha, rk, rd, e, q⟩
    subst eo
    cases (show ov = Value.ref a from ro)
    exact thn (put_set hu I hr ha e rk ri rd rv) fun _ s' ⟨H', I', x', r'⟩ => ⟨H', I', q H' x' r'⟩
  · intro v σ H Q ⟨ρ, hp, ad, d, ρ', hp', st, k, e, q⟩
    unfold gSubD at e
    split at e
    · rename_i n h1 e1
      split at e
      · rename_i kk h2 e2
        split at e
        · rename_i h3 e3
          cases e
          refine ⟨ρ, hp, ad, .ref n, h1, st, e1, fun o H1 ad1 x1 p1 r1 k1 => ⟨ρ, h1, ad1, kk, h2, st.next x1 p1 r1, e2, fun i H2 ad2 x2 p2 r2 k2 => ?_⟩⟩
          obtain ⟨a, rfl, ha⟩ := (k1.mono x2 p2).r
          refine ⟨ad2, h2, n, kk, d, hp', a, r2, rfl, ha, k2, k.mono (x1.trans x2) (p1.trans p2), e3, fun H3 x3 r3 => ?_⟩
          exact q σ H3 ad2 ((x1.trans x2).trans x3) (p1.trans p2) ((st.next (x1.trans x2) (p1.trans p2) r2).next x3 (List.prefix_refl _) r3)
        · cases e
      · cases e
    · cases e
/-- {} -/
def mDic0 : M D := fun _ hp => some (.ref hp.n, hp.push (.dic []))
theorem dic_new {E : En} {ad : List Addr} {H : Hp} {hp : Hd} {p : Addr} (hr : HR E ad H hp) (n : H p = none) (sy : (p == sysModules) = false) : Ex E H (upd H p (DcO p [])) ∧ HR E (ad ++ [p]) (upd H p (DcO p [])) (hp.push (.dic [])) :=
  ⟨.new n, hr.push n ⟨_, upd_same, [], rfl, Nat.zero_le _, sy, rfl, KsOk.nil⟩⟩
theorem dc_empty {P : Program} {w : World} {H : Hp} (h : Heap) : ObjOk P w H (h.push { cls := .type "dict", data := .dict #[] }) h.objs.size (DcO h.objs.size []) :=
  ⟨⟨_, #[], 0, Heap.get?_push_size _ rfl, ⟨rfl, rfl, rfl⟩, rfl, .nil⟩, ⟨_, Heap.get?_push_size _ rfl⟩, fun h1 h2 ⟨o, es, ep, e, r⟩ k => ⟨o, es, ep, k _ e, r⟩⟩
theorem le_dic0 : PE X (.Dict [] [] pos) (rE (en X) mDic0) := ⟨fun pins s σ H Q I ⟨ρ, hp, ad, d, hp', st, e, q⟩ => by
  cases e
  have hn : H s.heap.objs.size = none := I.hok.fresh (Nat.le_refl _)
  have sy : (s.heap.objs.size == sysModules) = false := beq_eq_false_iff_ne.mpr (Ne.symm (Nat.ne_of_lt I.big))
  obtain ⟨x1, r1⟩ := dic_new st.h hn sy
  refine wpAny_Dict_empty ⟨.ref s.heap.objs.size, _, I.laid (a := s.heap.objs.size) (o := DcO s.heap.objs.size []) (t' := s.toks) (fun _ _ q => Heap.get?_push_of_some _ q) (Nat.le_refl _) (dc_empty s.heap), rfl, ?_⟩
  refine q _ _ (ad ++ [s.heap.objs.size]) x1 (List.prefix_append _ _) r1 ?_
  rw [RD]
  exact ⟨_, rfl, by rw [← st.h.len]; simp⟩⟩
end
end DL
namespace DL
open PySem PySem.Spec PyProof.Rows L2
section
variable {X : Cx}
theorem PRs.len {E : En} {ad : List Addr} {H : Hp} : ∀ {kvs : List (D × D)} {vs : List (V × Int × V)}, PRs E ad H kvs vs → kvs.length = vs.length
  | [], _, h => by cases h; rfl
  | p :: ps, _, h => by
    obtain ⟨a, b, c, rfl, _, _, _, _, h⟩ := h
    rw [List.length_cons, List.length_cons, PRs.len h]
/-- d.get(k, x) -/
def getM : Mt
  | .ref n, [k, x], hp => (match dicOf hp n with
    | some kvs => if kOk k kvs = true then some ((dAt k kvs).getD x, hp) else none
    | none => none)
  | _, _, _ => none
theorem mt_getM (hu : X.A.units + 64 < cLine) : MtR X "dict.get" (rMt (en X) getM) := by
  intro pins s σ H x xs v us Q I rx rv ⟨ad, hp, o, ds, d, hp', hr, k1, k2, e, q⟩
  unfold getM at e
  split at e
  · rename_i n k x0
    split at e
    · rename_i kvs ed
      split at e
      · rename_i ok
        cases e
        obtain ⟨v1, v2, rfl, r1, r2⟩ := k2.two
        obtain ⟨a, rfl, ha⟩ := k1.r
        cases (show v = Value.ref a from rx)
        cases rv with
        | cons q1 rv =>
          cases rv with
          | cons q2 rv =>
            cases rv
            obtain ⟨vs, hq, z, sy, pr, ko⟩ := hr.dicR ed ha
            exact (dview I hq pr ko ok r1 q1).getOr hu sy I r2 q2 fun w v s' I' rd rv => ⟨v, H, I', rv, q.here hr rd⟩
      · cases e
    · cases e
  · cases e
/-- d.clear() -/
def clrDM : Mt
  | .ref n, [], hp => (match hp.get n with
    | some (.dic _) => some (.non, hp.set n (.dic []))
    | _ => none)
  | _, _, _ => none
theorem mt_clrDM : MtR X "dict.clear" (rMt (en X) clrDM) := by
  intro pins s σ H x xs v us Q I rx rv ⟨ad, hp, o, ds, d, hp', hr, k1, k2, e, q⟩
  unfold clrDM at e
  split at e
  · rename_i n
    split at e
    · rename_i kvs eg
      cases e
      obtain ⟨a, rfl, ha⟩ := k1.r
      cases (show v = Value.ref a from rx)
      rw [RDs] at k2
      subst k2
      cases rv
      obtain ⟨uo, ea, vs, rfl, hz2, sy, pr, ko⟩ := hr.at_ ha eg
      have dr := dic_raw I (.inl ea)
      obtain ⟨es, ep, hraw, hsz⟩ := dr.raw
      have hl : vs.length ≤ sizeLine := by rw [← pr.len]; exact hz2
      refine call_meetsIn PySem.F.slot_dict_clear (let ⟨o, _, _, e, c, _⟩ := dr; ⟨o, e, c.1⟩) PySem.F.entry_dict_clear (PySem.F.args_dict_clear_1 _) (meets_dict_clear_raw a) ⟨es, ep, hraw, by rw [hsz]; exact hl, fun h' hr' hs' => ?_⟩
      obtain ⟨o, ho, hc, hdat⟩ := hr'
      have dc : DcP a [] h' := ⟨o, #[], _, ho, hc, hdat, .nil⟩
      obtain ⟨x1, r1⟩ := dic_put hr ha ea (Nat.zero_le _) sy (ws := []) (kvs := []) rfl KsOk.nil
      exact ⟨.non, _, d_write (t' := s.toks) I (by rw [ea]; exact True.intro) hs' ⟨o, ho⟩ (ext_ok dc), rfl, q .non _ ad x1 (List.prefix_refl _) r1 (by rw [RD])⟩
    · cases e
  · cases e
/-- d.setdefault(k, x) -/
def setdM : Mt
  | .ref n, [k, x], hp => (match hp.get n with
    | some (.dic kvs) => if kOk k kvs = true ∧ kvs.length < big then (match dAt k kvs with
        | some d => some (d, hp)
        | none => some (x, hp.set n (.dic (dPut k x kvs)))) else none
    | _ => none)
  | _, _, _ => none
theorem mt_setdM (hu : X.A.units + 64 < cLine) : MtR X "dict.setdefault" (rMt (en X) setdM) := by
  intro pins s σ H x xs v us Q I rx rv ⟨ad, hp, o, ds, d, hp', hr, k1, k2, e, q⟩
  unfold setdM at e
  split at e
  · rename_i n k x0
    split at e
    · rename_i kvs eg
      split at e
      · rename_i hc
        obtain ⟨ok, hz⟩ := hc
        obtain ⟨v1, v2, rfl, r1, r2⟩ := k2.two
        obtain ⟨a, rfl, ha⟩ := k1.r
        cases (show v = Value.ref a from rx)
        cases rv with
        | cons q1 rv =>
          cases rv with
          | cons q2 rv =>
            cases rv
            obtain ⟨uo, ea, vs, rfl, hz2, sy, pr, ko⟩ := hr.at_ ha eg
            have fin : dAt k kvs = none → ∀ {s' : Shared} {ws}, Inv X pins σ (upd H a (DcO a ws)) s' → PRs (en X) ad H (dPut k x0 kvs) ws → Q v2 (upd H a (DcO a ws)) := fun en {s' ws} I' pr' => by
              rw [en] at e
              cases e
              obtain ⟨x1, hr1⟩ := dic_put hr ha ea (Nat.le_trans dPut_len (big_ok hz)) sy pr' (ko.put ok)
              exact q _ _ ad x1 (List.prefix_refl _) hr1 (r2.mono x1 (List.prefix_refl _))
            have fin2 : ∀ d0, dAt k kvs = some d0 → ∀ v0, RD (en X) ad H d0 v0 → Q v0 H := fun d0 en v0 rd => by
              rw [en] at e
              cases e
              exact q.here hr rd
            rcases dview I (.inl ea) pr ko ok r1 q1 with ⟨xs, qk, b, h1, h2, rfl, h4, h5, h6, h7⟩ | ⟨xs, qk, h1, h2, h4, h5, h6⟩
            · have tv := TX.val h2 h5
              refine call_setdefault_heap (hsz := by rw [← Paired.length h5]; exact hz2) (room8 hu) h6 sy h4 (fun p hp => ?_) fun hn h' dd hs => ?_
              · cases z : dAt k kvs with
                | none => rw [z] at tv; rw [tv] at hp; cases hp
                | some d0 =>
                  rw [z] at tv
                  obtain ⟨p', v0, g1, g2, g3⟩ := tv
                  rw [hp] at g1; cases g1
                  exact ⟨v0, H, I.tok _, g3, fin2 d0 z v0 g2⟩
              · cases z : dAt k kvs with
                | none =>
                  obtain ⟨_, _, _, _, _, _, _, _, nd⟩ := id h4
                  obtain ⟨ws, dc, pr'⟩ := dcp_T (E := en X) dd (TX.put h2 h1 h7 r2 q2 h5 nd)
                  have I' := d_write (t' := s.toks + (nestedKind X.prog X.w).draws qk) I (by rw [ea]; exact True.intro) hs (let ⟨o, _, _, e, _⟩ := dc; ⟨o, e⟩) (ext_ok dc)
                  exact ⟨v2, _, I', q2, fin z I' pr'⟩
                | some d0 => rw [z] at tv; obtain ⟨p', v0, g1, _⟩ := tv; rw [hn] at g1; cases g1
            · have tv := FX.val h2 h5
              refine call_meetsIn PySem.F.slot_dict_setdefault h4.typeIs PySem.F.entry_dict_setdefault (PySem.F.args_dict_setdefault_3 _ _ _) (kt_meets_setdefault (mixKind X.prog X.w) a h6 sy _) ⟨xs, h4, by rw [← Paired.length h5]; exact hz2, fun p hp => ?_, fun hn h' dd hs => ?_⟩
              · cases z : dAt k kvs with
                | none => rw [z] at tv; rw [tv] at hp; cases hp
                | some d0 =>
                  rw [z] at tv
                  obtain ⟨p', v0, g1, g2, g3⟩ := tv
                  rw [hp] at g1; cases g1
                  exact ⟨v0, H, I.tok _, g3, fin2 d0 z v0 g2⟩
              · cases z : dAt k kvs with
                | none =>
                  obtain ⟨_, _, _, _, _, _, _, _, nd⟩ := id h4
                  obtain ⟨ws, dc, pr'⟩ := dcp_F (E := en X) dd (FX.put h2 r2 q2 h5 nd)
                  have I' := d_write (t' := s.toks + 1) I (by rw [ea]; exact True.intro) hs (let ⟨o, _, _, e, _⟩ := dc; ⟨o, e⟩) (ext_ok dc)
                  exact ⟨v2, _, I', q2, fin z I' pr'⟩
                | some d0 => rw [z] at tv; obtain ⟨p', v0, g1, _⟩ := tv; rw [hn] at g1; cases g1
      · cases e
    · cases e
  · cases e

def RPs (E : En) (ad : List Addr) (H : Hp) : List (D × D) → List (V × V) → Prop := Paired fun p q => RD E ad H p.1 q.1 ∧ RD E ad H p.2 q.2
theorem RPs.mono {E : En} {ad ad' : List Addr} {H H' : Hp} {ps : List (D × D)} {qs : List (V × V)} (h : RPs E ad H ps qs) (x : Ex E H H') (p : ad <+: ad') : RPs E ad' H' ps qs := Paired.mapP h fun _ _ z => ⟨z.1.mono x p, z.2.mono x p⟩
def PostP (E : En) (ad : List Addr) (H : Hp) (ps : List (D × D)) (hp' : Hd) (Q : List (V × V) → Hp → Prop) : Prop := ∀ vs H' ad', Ex E H H' → ad <+: ad' → HR E ad' H' hp' → RPs E ad' H' ps vs → Q vs H'
structure LP (X : Cx) (pos : Pos) (keys : List (Option Expr)) (values : List Expr) (m : M (List (D × D))) : Prop where
  run : ∀ (pins : List (Addr × Obj)) (s : Shared) (σ : L2.St) (H : Hp) (Q : List (V × V) → Hp → Prop) ρ hp ad ps hp', Inv X pins σ H s → St0 (en X) ρ hp ad σ H → m ρ hp = some (ps, hp') → PostP (en X) ad H ps hp' Q →
    wpAny (model X.prog X.w) X.A (evalPairs (pairTrees keys values X.env pos)) (fun vs s' => ∃ ps H', Inv X pins σ H' s' ∧ VV ps vs ∧ Q ps H') X.xe s
def mPcons (mk mv : M D) (r : M (List (D × D))) : M (List (D × D)) := bnd mk fun k => bnd mv fun v => bnd r fun ps => pur ((k, v) :: ps)
theorem lp_nil {pos : Pos} : LP X pos [] [] (pur []) := ⟨fun pins s σ H Q ρ hp ad ps hp' I st e q => by
  cases e
  exact pairTrees_nil_walk ⟨[], H, I, .nil, q [] H ad .refl (List.prefix_refl _) st.h .nil⟩⟩
theorem lp_cons {pos : Pos} {k v : Expr} {ks : List (Option Expr)} {vs : List Expr} {mk mv : M D} {r : M (List (D × D))} (hk : PE X k (rE (en X) mk)) (hv : PE X v (rE (en X) mv)) (hr : LP X pos ks vs r) :
    LP X pos (some k :: ks) (v :: vs) (mPcons mk mv r) := ⟨fun pins s σ H Q ρ hp ad ps hp' I st e q => by
  obtain ⟨k1, h1, e1, e2⟩ := bnd_inv e
  obtain ⟨v1, h2, e3, e4⟩ := bnd_inv e2
  obtain ⟨ps1, h3, e5, e6⟩ := bnd_inv e4
  cases e6
  refine pairTrees_cons_walk (thn (hk.run pins s σ H (fun x H1 => ∃ ad1, Ex (en X) H H1 ∧ ad <+: ad1 ∧ HR (en X) ad1 H1 h1 ∧ RD (en X) ad1 H1 k1 x) I ⟨ρ, hp, ad, k1, h1, st, e1, fun v H' ad' x p r k => ⟨ad', x, p, r, k⟩⟩) fun u s1 ⟨x, H1, I1, rx, ad1, x1, p1, hr1, kk⟩ => ?_)
  refine thn (hv.run pins s1 σ H1 (fun x H2 => ∃ ad2, Ex (en X) H1 H2 ∧ ad1 <+: ad2 ∧ HR (en X) ad2 H2 h2 ∧ RD (en X) ad2 H2 v1 x) I1 ⟨ρ, h1, ad1, v1, h2, st.next x1 p1 hr1, e3, fun v H' ad' x p r k => ⟨ad', x, p, r, k⟩⟩) fun w2 s2 ⟨y, H2, I2, ry, ad2, x2, p2, hr2, kv⟩ => ?_
  exact thn (hr.run pins s2 σ H2 (fun ps H3 => Q ((x, y) :: ps) H3) ρ h2 ad2 ps1 _ I2 (st.next (x1.trans x2) (p1.trans p2) hr2) e5 fun vs H3 ad3 x3 p3 r3 k3 => q _ H3 ad3 ((x1.trans x2).trans x3) ((p1.trans p2).trans p3) r3 (.cons ⟨(kk.mono x2 p2).mono x3 p3, kv.mono x3 p3⟩ k3))
    fun ws s3 ⟨ps, H3, I3, rel, q3⟩ => ⟨(x, y) :: ps, H3, I3, .cons ⟨rx, ry⟩ rel, q3⟩⟩
def putsH (n : Nat) : List (D × D) → Hd → Option Hd
  | [], hp => some hp
  | p :: ps, hp => (match putH n p.1 p.2 hp with
    | some h1 => putsH n ps h1
    | none => none)
theorem store_all {pins : List (Addr × Obj)} {σ : L2.St} {E : Value → Shared → Prop} {ad : List Addr} {n : Nat} {a : Addr} (hu : X.A.units + 64 < cLine) (ha : ad[n]? = some a) : ∀ (ps : List (D × D)) (qs : List (V × V)) (us : List (Value × Value)) (H : Hp) (s : Shared) (hp hp' : Hd), Inv X pins σ H s → HR (en X) ad H hp → RPs (en X) ad H ps qs → VV qs us → putsH n ps hp = some hp' →
    wpAny (model X.prog X.w) X.A (forIn us PUnit.unit fun (x : Value × Value) (_ : PUnit) => (do dictSet a x.1 x.2; pure (ForInStep.yield PUnit.unit) : Sem (ForInStep PUnit))) (fun _ s' => ∃ H', Inv X pins σ H' s' ∧ Ex (en X) H H' ∧ HR (en X) ad H' hp') E s
  | [], _, _, H, s, hp, hp', I, hr, .nil, .nil, e => by
    cases e
    rw [List.forIn_nil]
    exact wpAny_pure ⟨H, I, .refl, hr⟩
  | p :: ps, _, _, H, s, hp, hp', I, hr, .cons h1 h2, .cons g1 g2, e => by
    rw [putsH] at e
    split at e
    · rename_i hm e1
      rw [List.forIn_cons]
      refine wpAny_bind (wpAny_bind (thnF (put_dset hu I hr ha e1 h1.1 g1.1 h1.2 g1.2) fun _ s1 ⟨H1, I1, x1, r1⟩ => wpAny_pure ?_))
      exact thnF (store_all hu ha ps _ _ H1 s1 hm hp' I1 r1 (RPs.mono h2 x1 (List.prefix_refl _)) g2 e) fun _ s2 ⟨H2, I2, x2, r2⟩ => ⟨H2, I2, x1.trans x2, r2⟩
    · cases e
def mDisp (m : M (List (D × D))) : M D := fun ρ hp => match m ρ (hp.push (.dic [])) with
  | some (ps, h1) => (match putsH hp.n ps h1 with
    | some h2 => some (.ref hp.n, h2)
    | none => none)
  | none => none
theorem le_disp {pos : Pos} {keys : List (Option Expr)} {values : List Expr} {m : M (List (D × D))} (hu : X.A.units + 64 < cLine) (h : LP X pos keys values m) (hall : keys.all (·.isSome) = true := by rfl) (hl : keys.length = values.length := by rfl) (h0 : (keys.length == 0) = false := by rfl)
    (h15 : decide (keys.length ≤ 15) = true := by rfl) : PE X (.Dict keys values pos) (rE (en X) (mDisp m)) := by
  refine ⟨fun pins s σ H Q I ⟨ρ, hp, ad, d, hp', st, e, q⟩ => ?_⟩
  unfold mDisp at e
  split at e
  · rename_i ps h1 e1
    split at e
    · rename_i h2 e2
      cases e
      have hn : H s.heap.objs.size = none := I.hok.fresh (Nat.le_refl _)
      have sy : (s.heap.objs.size == sysModules) = false := beq_eq_false_iff_ne.mpr (Ne.symm (Nat.ne_of_lt I.big))
      obtain ⟨x1, r1⟩ := dic_new st.h hn sy
      have I1 := I.laid (a := s.heap.objs.size) (o := DcO s.heap.objs.size []) (h' := s.heap.push { cls := .type "dict", data := .dict #[] }) (t' := s.toks) (fun _ _ q => Heap.get?_push_of_some _ q) (Nat.le_refl _) (dc_empty s.heap)
      have ha : (ad ++ [s.heap.objs.size])[hp.n]? = some s.heap.objs.size := by rw [← st.h.len]; simp
      have hlen := pairTrees_length keys values X.env pos hall hl
      have h15' : (pairTrees keys values X.env pos).length ≤ 15 := by rw [hlen]; simpa using h15
      rw [arm_eval_Dict, zip_pairTrees keys values X.env pos hall hl, dictDisplay_pairs _ (fun z => by rw [z] at hlen; simp [← hlen] at h0) (by omega)]
      refine wpAny_bind (wpAny_standAt (wpAny_bind ?_))
      unfold subDict
      refine wpAny_bind (wpAny_alloc (wpAny_bind (wpAny_holding ?_)))
      rw [if_pos h15']
      refine wpAny_bind (thn (h.run pins _ σ _ (fun qs H2 => ∃ ad2, Ex (en X) (upd H s.heap.objs.size (DcO s.heap.objs.size [])) H2 ∧ (ad ++ [s.heap.objs.size]) <+: ad2 ∧ HR (en X) ad2 H2 h1 ∧ RPs (en X) ad2 H2 ps qs) ρ _ _ ps h1 I1 (st.next x1 (List.prefix_append _ _) r1) e1 fun vs H' ad' x p r k => ⟨ad', x, p, r, k⟩) fun us s2 ⟨qs, H2, I2, rel, ad2, x2, p2, r2, k2⟩ => ?_)
      obtain ⟨t, rfl⟩ := p2
      have ha2 : (ad ++ [s.heap.objs.size] ++ t)[hp.n]? = some s.heap.objs.size := by
        rw [List.getElem?_append_left (by rw [← st.h.len]; simp)]; exact ha
      refine wpAny_holding (wpAny_bind (thn (store_all hu ha2 ps qs us H2 s2 h1 _ I2 r2 k2 rel e2) fun _ s3 ⟨H3, I3, x3, r3⟩ => wpAny_pure (wpAny_pure (wpAny_pure ?_))))
      refine ⟨.ref s.heap.objs.size, H3, I3, rfl, q _ H3 _ ((x1.trans x2).trans x3) (by rw [List.append_assoc]; exact List.prefix_append _ _) r3 ?_⟩
      rw [RD]
      exact ⟨_, rfl, ha2⟩
    · cases e
  · cases e
end
end DL
namespace DL
open PySem PySem.Spec PyProof.Rows L2
section
variable {X : Cx}
/-- {k: v for target in iter if ..}: D the new dict -/
def tDx (X : Cx) (wi : TI) (g : TG) (tt : TT) (tk tv : TE) (vs : List Nat) : TE := fun σ H Q =>
  wi σ H fun J H1 => ∀ D, H1 D = none → (D == sysModules) = false → ∃ W : Nat → Nat → Hp → Prop, (∃ m, W 0 m (upd H1 D (DcO D []))) ∧
    ∀ i m Hi, W i m Hi → (J.stop i Hi ∧ Q (.ref D) Hi) ∨ (J.go i Hi ∧ ∃ Nx : Hp → Prop, (∀ H', Nx H' → ∃ m', m' < m ∧ W (i + 1) m' H') ∧
      ∀ x H', J.yld i Hi x H' → g x (wipe σ vs) H' fun σ2 H2 => wipe σ2 vs = wipe σ vs ∧ tt σ2 H2 fun b H3 => if b = true then
        tk σ2 H3 fun y H4 => tv σ2 H4 fun z H5 => ∃ ad hp n k d hq, HR (en X) ad H5 hp ∧ ad[n]? = some D ∧ RD (en X) ad H5 k y ∧ RD (en X) ad H5 d z ∧ putH n k d hp = some hq ∧ ∀ H6, Ex (en X) H5 H6 → HR (en X) ad H6 hq → Nx H6
      else Nx H3)
theorem dcx_core {pn : List (Addr × Obj)} {s : Shared} {σ : L2.St} {H : Hp} {Q : VK} {kx vx tg iter : Expr} {ifs : List Expr} {scope : Scope} {own : List (Str × Nat)} {pos pos' : Pos} {wi : TI} {g : TG} {tt : TT} {tk tv : TE} {use : Option (Value → Sem Unit)} {Qf : Value → Shared → Prop}
    (hu : X.A.units + 64 < cLine) (hc : X.calm = true) (hN : X.N.Nodup) (I : Inv X pn σ H s) (hi : PI X tg iter wi) (ok : BlkOk X.N X.env.scope scope own)
    (hg : ∀ (s : Shared) (H : Hp) (C : Addr) (cl : List (Str × Addr)) (fq : List Addr), PG (X.blk s H scope (compEnvC scope cl C X.env) fq) tg g) (ht : ∀ (s : Shared) (H : Hp) (C : Addr) (cl : List (Str × Addr)) (fq : List Addr), PTs (X.blk s H scope (compEnvC scope cl C X.env) fq) ifs tt)
    (hk : ∀ (s : Shared) (H : Hp) (C : Addr) (cl : List (Str × Addr)) (fq : List Addr), PE (X.blk s H scope (compEnvC scope cl C X.env) fq) kx tk)
    (he : ∀ (s : Shared) (H : Hp) (C : Addr) (cl : List (Str × Addr)) (fq : List Addr), PE (X.blk s H scope (compEnvC scope cl C X.env) fq) vx tv) (hs : ∀ x, foldedSetIterable iter X.env x = pure x)
    (h : tDx X wi g tt tk tv (own.map (·.2)) σ H Q)
    (hRR : ∀ D C s' m H', Inv X pn σ H' s' → Q (.ref D) H' → s'.heap.Ns C m → FpOk X pn H' C → compPost (model X.prog X.w) X.A X.xe use Qf (.ref D) C (.ok .next) s') :
    wpAny (model X.prog X.w) X.A (comprehension (.DictComp kx vx [⟨tg, iter, ifs, 0⟩] scope pos) scope X.env pos' newDict false (eval iter X.env) use) Qf X.xe s := by
  have hfr : ∀ y ∈ scope.names, y.2 = .free → ∃ c, X.env.cells.lookup y.1 = some c := fun y hy e => by
    rcases ok.free y hy e with k | k
    · exact I.ok.has _ (.inl k)
    · exact I.ok.has _ (.inr k)
  refine wpAny_comprehension_free (use := use) rfl hs (closure_ok hfr) ok.kind (fun y hy e => by rw [ok.uniq y hy, e])
    (thn (hi.run pn s σ H _ I h) fun xv t1 hx => thn hx fun itv t2 h2 => ?_)
  obtain ⟨iz, fq, tn, J, G2, e, J2, T, st2, u2, q⟩ := h2
  subst e
  refine wpAny_newObj_type (newEnv_comp ?_)
  generalize hDd : t2.heap.objs.size = D
  have hDm : G2 D = none := J2.hok.fresh (Nat.le_of_eq hDd)
  obtain ⟨Wf, ⟨m0, w0⟩, trn⟩ := q D hDm (by rw [← hDd]; exact beq_eq_false_iff_ne.mpr (Ne.symm (Nat.ne_of_lt J2.big)))
  -- the new list
  generalize ht3 : ({ t2 with heap := t2.heap.push { cls := .type "dict", data := .dict #[] } } : Shared) = t3
  have J3 : Inv X pn σ (upd G2 D (DcO D [])) t3 := by
    rw [← ht3]
    refine J2.laid (t' := t2.toks) (fun b o e => Heap.get?_push_of_some _ e) (Nat.le_of_eq hDd) ?_
    rw [← hDd]
    exact dc_empty t2.heap
  have h3 : t3.heap = t2.heap.push { cls := .type "dict", data := .dict #[] } := by rw [← ht3]
  have sz : ∀ b ∈ fq, b < t2.heap.objs.size := fun b hb => by
    obtain ⟨o, e, _⟩ := T.obj _ _ st2 b hb
    exact Heap.lt_size e
  have u3 : ∀ b ∈ fq, FpOk X pn (upd G2 D (DcO D [])) b ∧ b < t3.heap.objs.size := fun b hb => by
    have hlt := sz b hb
    refine ⟨⟨?_, (u2 b hb).2⟩, by rw [h3, Heap.size_push]; exact Nat.lt_succ_of_lt hlt⟩
    rw [upd_ne (by rw [← hDd]; exact Nat.ne_of_lt hlt)]
    exact (u2 b hb).1
  have st3 : tn 0 t3.heap := T.keep _ _ _ st2 fun b _ o e => by rw [h3]; exact Heap.get?_push_of_some _ e
  have J4 := block_start J3 ok hN u3
  have pg := hg t3 (upd G2 D (DcO D [])) t3.heap.objs.size (cellsFrom (t3.heap.objs.size + 1) scope.names (cloFrom X.env.cells scope.names [])) fq
  have pt := ht t3 (upd G2 D (DcO D [])) t3.heap.objs.size (cellsFrom (t3.heap.objs.size + 1) scope.names (cloFrom X.env.cells scope.names [])) fq
  have pk := hk t3 (upd G2 D (DcO D [])) t3.heap.objs.size (cellsFrom (t3.heap.objs.size + 1) scope.names (cloFrom X.env.cells scope.names [])) fq
  have pe := he t3 (upd G2 D (DcO D [])) t3.heap.objs.size (cellsFrom (t3.heap.objs.size + 1) scope.names (cloFrom X.env.cells scope.names [])) fq
  show codeAny _ _ (.compStart (.DictComp kx vx [⟨tg, iter, ifs, 0⟩] scope pos) 0 (.ref iz) (.ref D) (compEnvC scope (cellsFrom (t3.heap.objs.size + 1) scope.names (cloFrom X.env.cells scope.names [])) t3.heap.objs.size X.env)) (compPost (model X.prog X.w) X.A X.xe use Qf (.ref D) t3.heap.objs.size) { t3 with heap := pushCells (t3.heap.push { cls := .type "dict", data := .dict #[] }) scope.names }
  have nfq : ∀ b ∈ fq, (upd G2 D (DcO D [])) b = none := fun b hb => (u3 b hb).1.1
  generalize hce : compEnvC scope (cellsFrom (t3.heap.objs.size + 1) scope.names (cloFrom X.env.cells scope.names [])) t3.heap.objs.size X.env = cv at J4 pg pt pk pe ⊢
  have cL : cv.locals = t3.heap.objs.size := by subst hce; rfl
  generalize hH3 : upd G2 D (DcO D []) = G3 at J3 J4 pg pt pk pe w0 nfq u3
  generalize ht4 : ({ t3 with heap := pushCells (t3.heap.push { cls := .type "dict", data := .dict #[] }) scope.names } : Shared) = t4 at J4 ⊢
  have st4 : tn 0 t4.heap := T.keep _ _ _ st3 fun b _ o e => by rw [← ht4]; exact pushCells_keeps _ _ _ _ (Heap.get?_push_of_some _ e)
  have sta : ∀ {σ' : L2.St} {H' : Hp} {s' : Shared}, Inv (X.blk t3 G3 scope cv fq) [] σ' H' s' → (∀ b ∈ fq, H' b = none) → ∀ b ∈ fq, FpOk (X.blk t3 G3 scope cv fq) [] H' b := fun {σ' H' s'} I' hn b hb =>
    ⟨hn b hb, (I'.ok.exf b hb).1, I'.ok.exfs b hb, .inl hb, fun x c e => (I'.ok.exf b hb).2 x c e, fun p hp => absurd (show p ∈ ([] : List (Addr × Obj)) ++ [] from hp) (by simp)⟩
  have loop : codeAny (model X.prog X.w) X.A (.compLoop (.DictComp kx vx [⟨tg, iter, ifs, 0⟩] scope pos) 0 (.ref iz) (.ref D) cv) (compPost (model X.prog X.w) X.A X.xe use Qf (.ref D) t3.heap.objs.size) t4 := by
    refine compLoop_anyD (fun n s' => ∃ i H', Inv (X.blk t3 G3 scope cv fq) [] (wipe σ (own.map (·.2))) H' s' ∧ tn i s'.heap ∧ (∀ b ∈ fq, H' b = none) ∧ Wf i n H') ?_ m0 ⟨0, G3, J4, st4, nfq, w0⟩
    rintro n t5 ⟨i, G5, J5, st5, n5, w5⟩
    rcases trn i n G5 w5 with ⟨stop, qq⟩ | ⟨go, Nz, hNz, step⟩
    · have td := T.done (X.blk t3 G3 scope cv fq) rfl rfl rfl hc i [] t5 _ G5 (fun _ _ => False) J5 (sta J5 n5) st5 stop
      refine thnF td fun r t6 ⟨hr, J6⟩ => ?_
      subst hr
      -- back in the def's context
      have J7 : Inv X pn σ G5 t6 := J3.call' (ch := fq) J6.os J6.base J6.hok J6.bare fun b hb => ⟨(u3 b hb).1.2.2.2.1, (u3 b hb).1.2.1, (u3 b hb).1.2.2.2.2.1, (u3 b hb).1.2.2.2.2.2⟩
      have nC : G5 t3.heap.objs.size = none := by
        have z : G5 cv.locals = none := J6.free
        rw [cL] at z
        exact z
      obtain ⟨m, hn, _⟩ := J6.loc
      have hn : t6.heap.Ns cv.locals m := hn
      rw [cL] at hn
      exact hRR D t3.heap.objs.size t6 m G5 J7 qq hn (J3.fpOk (Nat.le_refl _) nC)
    · have ti := T.item (X.blk t3 G3 scope cv fq) rfl rfl rfl hc i [] t5 _ G5 (fun _ _ => False) J5 (sta J5 n5) st5 go
      refine thnF ti fun r t6 ⟨u, hr, h6⟩ => ?_
      subst hr
      refine thnF h6 fun _ t7 ⟨x, G7, J7, r7, y7, st7, n7⟩ => ?_
      have J7' := J7.pinned (sta J7 n7) (T.obj _ _ st7)
      refine thnF (pg.run _ t7 _ G7 x u _ J7' r7 (step x G7 y7)) fun _ t8 ⟨σ8, G8, J8, hw8, q8⟩ => ?_
      refine thnF (pt.run _ t8 σ8 G8 _ J8 q8) fun b t9 ⟨G9, J9, q9⟩ => ?_
      -- the turn's end
      have fin : ∀ {s' : Shared} {H' : Hp}, Inv (X.blk t3 G3 scope cv fq) ([] ++ pinsAt fq t7.heap) σ8 H' s' → Nz H' → ∃ m, m < n ∧ ∃ i H', Inv (X.blk t3 G3 scope cv fq) [] (wipe σ (own.map (·.2))) H' s' ∧ tn i s'.heap ∧ (∀ b ∈ fq, H' b = none) ∧ Wf i m H' := fun {s' H'} I' nx => by
        obtain ⟨m', hm, w'⟩ := hNz H' nx
        have pin' : ∀ b ∈ fq, ∀ o, t7.heap.get? b = some o → s'.heap.get? b = some o ∧ H' b = none := fun b hb o e =>
          let z := I'.pin (b, o) (List.mem_append_right _ (List.mem_append_right _ (mem_pinsAt hb e)))
          ⟨z.1, z.2.1⟩
        have hl : (wipe σ (own.map (·.2))).length = σ8.length := by rw [← hw8, wipe_length]
        refine ⟨m', hm, i + 1, H', (I'.unpinned (pins := [])).weak hl (fun j v e => ?_), T.keep _ _ _ st7 fun b hb o e => (pin' b hb o e).1, fun b hb => ?_, w'⟩
        · rw [← hw8] at e
          exact (wipe_some e).1
        · obtain ⟨o, e, _⟩ := T.obj _ _ st7 b hb
          exact (pin' b hb o e).2
      cases b with
      | false =>
        simp only [Bool.false_eq_true, if_false] at q9 ⊢
        exact fin J9 q9
      | true =>
        simp only [if_true] at q9 ⊢
        refine thnF (pk.run _ t9 σ8 G9 _ J9 q9) fun z t10 ⟨yk, G10, J10, r10, q10⟩ => ?_
        refine thnF (pe.run _ t10 σ8 G10 _ J10 q10) fun z2 t11 ⟨yv, G11, J11, r11, ad11, hp11, n11, k11, d11, hq11, hr11, ha11, rk11, rd11, ep11, nx⟩ => ?_
        exact thnF (put_dset (X := X.blk t3 G3 scope cv fq) hu J11 hr11 ha11 ep11 rk11 r10 rd11 r11) fun _ t12 ⟨G12, J12, x12, hr12⟩ => fin J12 (nx G12 x12 hr12)
  exact codeAny_compStart_dict loop (T.self X.A 0 _ _ _ st4 loop)
def dcLoop (s : Src) (g : G) (tt : M Bool) (mk mv : M D) (ρw : Rho) (nL : Nat) : Nat → Nat → Hd → Option Hd
  | 0, _, _ => none
  | n + 1, i, hp => match nextD s i hp with
    | some (some d) => (match g d ρw hp with
      | some (ρ2, h2) => (match tt ρ2 h2 with
        | some (true, h3) => (match mk ρ2 h3 with
          | some (y, h4) => (match mv ρ2 h4 with
            | some (z, h5) => (match putH nL y z h5 with
              | some h6 => dcLoop s g tt mk mv ρw nL n (i + 1) h6
              | none => none)
            | none => none)
          | none => none)
        | some (false, h3) => dcLoop s g tt mk mv ρw nL n (i + 1) h3
        | none => none)
      | none => none)
    | some none => some hp
    | none => none
def mDc (N : Nat) (vs : List Nat) (mi : M (Src × Option Nat)) (g : G) (tt : M Bool) (mk mv : M D) : M D := fun ρ hp => match mi ρ hp with
  | some ((s, u), h) => (match dcLoop s g tt mk mv (wipeR ρ vs) h.n N 0 (h.push (.dic [])) with
    | some h' => (match unl u h' with
      | some h'' => some (.ref h.n, h'')
      | none => none)
    | none => none)
  | none => none
end
section
variable {X : Cx} {kx vx tg iter : Expr} {ifs : List Expr} {scope : Scope} {own : List (Str × Nat)} {pos : Pos} {mi : M (Src × Option Nat)} {g : G} {tt : M Bool} {mk mv : M D} {N : Nat}
theorem rE_dc {σ : L2.St} {H : Hp} {Q : VK} {vs : List Nat} (h : rE (en X) (mDc N vs mi g tt mk mv) σ H Q) :
    tDx X (rI (en X) mi) (rGc (en X) vs g) (rT (en X) tt) (rE (en X) mk) (rE (en X) mv) vs σ H (fun v H' => UL H H' (Q v)) := by
  obtain ⟨ρ, hp, ad, d, hp', st, e, q⟩ := h
  unfold mDc at e
  split at e
  case h_2 => cases e
  rename_i s u h0 e0
  split at e
  case h_2 => cases e
  rename_i h2 e2
  split at e
  case h_2 => cases e
  rename_i h3 e3
  cases e
  refine ⟨ρ, hp, ad, s, u, h0, st, e0, fun J H1 a1 x1 p1 r1 jr lc D nD sy => ?_⟩
  obtain ⟨exN, hrN⟩ := dic_new r1 nD sy
  have hD : ∀ ad', (a1 ++ [D]) <+: ad' → ad'[h0.n]? = some D := fun ad' p => by
    obtain ⟨t, rfl⟩ := p
    rw [List.getElem?_append_left (by simp [r1.len]), ← r1.len]
    simp
  refine ⟨fun i n Hi => ∃ hi ai, Ex (en X) H1 Hi ∧ (a1 ++ [D]) <+: ai ∧ HR (en X) ai Hi hi ∧ dcLoop s g tt mk mv (wipeR ρ vs) h0.n n i hi = some h2, ⟨N, _, _, exN, List.prefix_refl _, hrN, e2⟩, ?_⟩
  rintro i n Hi ⟨hi, ai, xi, pi, ri, ei⟩
  have pa : a1 <+: ai := (List.prefix_append _ _).trans pi
  obtain ⟨jgo, jstop⟩ := jr i Hi ai hi xi pa ri
  cases n with
  | zero => cases ei
  | succ n =>
    rw [dcLoop] at ei
    split at ei
    · rename_i d ed
      obtain ⟨go, yl⟩ := jgo d ed
      refine .inr ⟨go, fun H' => ∃ hj aj, Ex (en X) H1 H' ∧ (a1 ++ [D]) <+: aj ∧ HR (en X) aj H' hj ∧ dcLoop s g tt mk mv (wipeR ρ vs) h0.n n (i + 1) hj = some h2, fun H' ⟨hj, aj, xj, pj, rj, ej⟩ => ⟨n, Nat.lt_succ_self n, hj, aj, xj, pj, rj, ej⟩, fun x Hy y => ?_⟩
      obtain ⟨xy, ry, ky⟩ := yl x Hy y
      split at ei
      case h_2 => cases ei
      rename_i ρ2 hg eg
      have xall : Ex (en X) H Hy := (x1.trans xi).trans xy
      have sW : St0 (en X) (wipeR ρ vs) hi ai (wipe σ vs) Hy := ⟨(st.s.mono xall (p1.trans pa)).wipe vs, ry, by rw [wipe_length, wipeR_length]; exact st.len⟩
      refine ⟨_, hi, ai, d, ρ2, hg, sW, ky, eg, fun σ2 H2 a2 x2 p2 s2 w2 => ⟨?_, ?_⟩⟩
      · rw [w2]
        exact wipe_twice
      split at ei
      · rename_i h4 e4
        refine ⟨ρ2, hg, a2, true, h4, s2.toSt0, e4, fun H3 a3 x3 p3 r3 => iteT ?_⟩
        split at ei
        case h_2 => cases ei
        rename_i y' h5 e5
        refine ⟨ρ2, h4, a3, y', h5, s2.toSt0.next x3 p3 r3, e5, fun yv H4 a4 x4 p4 r4 k4 => ?_⟩
        split at ei
        case h_2 => cases ei
        rename_i z' h6 e6
        refine ⟨ρ2, h5, a4, z', h6, (s2.toSt0.next x3 p3 r3).next x4 p4 r4, e6, fun zv H5 a5 x5 p5 r5 k5 => ?_⟩
        split at ei
        case h_2 => cases ei
        rename_i h7 e7
        have pD : (a1 ++ [D]) <+: a5 := (((pi.trans p2).trans p3).trans p4).trans p5
        exact ⟨a5, h6, h0.n, y', z', h7, r5, hD a5 pD, k4.mono x5 p5, k5, e7, fun H6 x6 r6 => ⟨h7, a5, (((((xi.trans xy).trans x2).trans x3).trans x4).trans x5).trans x6, pD, r6, ei⟩⟩
      · rename_i h4 e4
        exact ⟨ρ2, hg, a2, false, h4, s2.toSt0, e4, fun H3 a3 x3 p3 r3 => iteF ⟨h4, a3, ((xi.trans xy).trans x2).trans x3, (pi.trans p2).trans p3, r3, ei⟩⟩
      · cases ei
    · rename_i ed
      cases ei
      refine .inl ⟨jstop ed, HR.unl (ad := a1 ++ [D]) ri (x1.trans xi) (LkC.mono lc (List.prefix_append _ _)) pi e3 fun H2 x2 r2 rd => q _ H2 ai x2 (p1.trans pa) r2 ?_⟩
      rw [RD]
      exact ⟨D, rfl, hD ai pi⟩
    · cases ei
/-- what holds in every block of a comprehension -/
abbrev Blk (X : Cx) (scope : Scope) (P : Cx → Prop) : Prop := ∀ (s : Shared) (H : Hp) (C : Addr) (cl : List (Str × Addr)) (fp : List Addr), P (X.blk s H scope (compEnvC scope cl C X.env) fp)
theorem le_dc (hu : X.A.units + 64 < cLine) (hc : X.calm = true) (hN : X.N.Nodup) (hi : PI X tg iter (rI (en X) mi)) (ok : BlkOk X.N X.env.scope scope own)
    (hg : Blk X scope fun Y => PG Y tg (rGc (en X) (own.map (·.2)) g)) (ht : Blk X scope fun Y => PTs Y ifs (rT (en X) tt)) (hk : Blk X scope fun Y => PE Y kx (rE (en X) mk)) (he : Blk X scope fun Y => PE Y vx (rE (en X) mv)) (hs : ∀ x, foldedSetIterable iter X.env x = pure x := by intro _; rfl) :
    PE X (.DictComp kx vx [⟨tg, iter, ifs, 0⟩] scope pos) (rE (en X) (mDc N (own.map (·.2)) mi g tt mk mv)) := by
  refine PE.mono (pe_unl (t := tDx X (rI (en X) mi) (rGc (en X) (own.map (·.2)) g) (rT (en X) tt) (rE (en X) mk) (rE (en X) mv) (own.map (·.2))) ⟨fun pins s σ H Q I h => ?_⟩) fun σ H Q h => rE_dc h
  rw [arm_eval_DictComp]
  refine dcx_core hu hc hN I hi ok hg ht hk he hs h fun D C s' m H' I' q hn f => ⟨m, hn, fun h2 sb => ⟨.ref D, H', ?_, rfl, q⟩⟩
  obtain ⟨z0, z1, _, z3, z4, z5⟩ := f
  exact I'.turned (t' := s'.toks) (fun b o hb e => by rw [sb.2 b hb]; exact e) z0 z1 z3 z4 z5
theorem sw_dc {y : Str} {gs : List Comprehension} {py : Pos} {l : Nat} {env : Env} (hk : env.scope.kind = .function) (hy : env.scope.names.lookup y = some .local) (hl : (py.line == pos.line) = true)
    (ha : (scope.names.any fun (n, k) => n == y && (k == .local || k == .cell)) = false) : swapsWith (.DictComp kx vx gs scope pos) (some (.Name y py)) l env = pure true := by
  have k1 : env.kindOf y = some .local := hy
  have k2 : env.blockKind = .function := by unfold Env.blockKind; rw [hk]; rfl
  unfold swapsWith
  simp only [k2, k1, ha, Expr.pos, hl]
  rfl
theorem tDx_mono {wi : TI} {gt : TG} {t1 : TT} {tk tv : TE} {vs : List Nat} {σ : L2.St} {H : Hp} {Q Q' : VK} (hw : ∀ {R R' : It → Hp → Prop}, (∀ J H, R J H → R' J H) → wi σ H R → wi σ H R') (k : ∀ v H', Q v H' → Q' v H') (h : tDx X wi gt t1 tk tv vs σ H Q) : tDx X wi gt t1 tk tv vs σ H Q' :=
  hw (fun J H1 z D n sy => by
    obtain ⟨W, w0, st⟩ := z D n sy
    exact ⟨W, w0, fun i m Hi w => (st i m Hi w).imp (fun ⟨a, b⟩ => ⟨a, k _ _ b⟩) id⟩) h
/-- name = {..} on one line -/
theorem ls_setDc {i : Nat} {y : Str} {py spos : Pos} (hu : X.A.units + 64 < cLine) (hc : X.calm = true) (hN : X.N.Nodup) (hy : X.N[i]? = some y) (hyl : X.env.scope.names.lookup y = some .local) (hsw : swapsWith (.DictComp kx vx [⟨tg, iter, ifs, 0⟩] scope pos) (some (.Name y py)) spos.line X.env = pure true)
    (hi : PI X tg iter (rI (en X) mi)) (ok : BlkOk X.N X.env.scope scope own)
    (hg : Blk X scope fun Y => PG Y tg (rGc (en X) (own.map (·.2)) g)) (ht : Blk X scope fun Y => PTs Y ifs (rT (en X) tt)) (hk : Blk X scope fun Y => PE Y kx (rE (en X) mk)) (he : Blk X scope fun Y => PE Y vx (rE (en X) mv)) (hs : ∀ x, foldedSetIterable iter X.env x = pure x := by intro _; rfl) :
    PS X (.Assign [.Name y py] (.DictComp kx vx [⟨tg, iter, ifs, 0⟩] scope pos) spos) (rS (en X) (sAsg (mDc N (own.map (·.2)) mi g tt mk mv) (gName i))) := by
  refine PS.mono (ps_unl (t := tAsg (tDx X (rI (en X) mi) (rGc (en X) (own.map (·.2)) g) (rT (en X) tt) (rE (en X) mk) (rE (en X) mv) (own.map (·.2))) (L2.gName i)) ⟨fun pins s σ H Dn I h => ?_⟩) fun Dn σ H h => ?_
  · rw [exec_Assign_Name_used _ _ _ _ hsw]
    refine wpAny_bind (wpAny_standAt (wpAny_bind ?_))
    show wpAny _ X.A (do
      let _ ← comprehension (.DictComp kx vx [⟨tg, iter, ifs, 0⟩] scope pos) scope X.env (firstIterPos [⟨tg, iter, ifs, 0⟩] pos) newDict false (eval iter X.env) (some (assign (.Name y py) X.env))) _ _ s
    have h : tDx X (rI (en X) mi) (rGc (en X) (own.map (·.2)) g) (rT (en X) tt) (rE (en X) mk) (rE (en X) mv) (own.map (·.2)) σ H (fun x H1 => L2.gName i x σ H1 Dn.nx) := h
    refine wpAny_bind (thn (dcx_core (Qf := fun _ s' => SP X pins Dn .next s') hu hc hN I hi ok hg ht hk he hs h fun L C s' m H' I' q hn f => ?_) fun _ s' hq => wpAny_pure (wpAny_pure hq))
    show wpAny _ _ (assign (.Name y py) X.env (.ref L)) _ _ _
    obtain ⟨z0, z1, _, z3, z4, z5⟩ := f
    refine wpAny_assign_Name (store_ok2 (v := .ref L) I' hN hy (.inl hyl) rfl (fun s2 I2 ⟨a, sb, ha⟩ => ⟨m, hn.sameBut sb ?_, fun h3 sb3 => ?_⟩) (.inr hyl))
    · rcases ha with z | z
      · subst z; exact z1
      · exact fun e => z4 y a z e.symm
    · exact ⟨_, H', I2.turned (t' := s2.toks) (fun b o hb e => by rw [sb3.2 b hb]; exact e) z0 z1 z3 z4 z5, q⟩
  · have h1 := rS_asg h
    have h2 : rE (en X) (mDc N (own.map (·.2)) mi g tt mk mv) σ H (fun x H1 => rG (en X) (gName i) x σ H1 Dn.nx) := h1
    obtain ⟨ρ, hp, ad, d, hp', st, e, q⟩ := h2
    exact rE_dc ⟨ρ, hp, ad, d, hp', st, e, fun v H' ad' x p r k => rG_name (q v H' ad' x p r k)⟩
/-- name = [..] on one line -/
theorem ls_setLc {i : Nat} {y : Str} {py spos : Pos} {elt : Expr} {me : M D} (hc : X.calm = true) (hN : X.N.Nodup) (hy : X.N[i]? = some y) (hyl : X.env.scope.names.lookup y = some .local) (hsw : swapsWith (.ListComp elt [⟨tg, iter, ifs, 0⟩] scope pos) (some (.Name y py)) spos.line X.env = pure true)
    (hi : PI X tg iter (rI (en X) mi)) (ok : BlkOk X.N X.env.scope scope own)
    (hg : Blk X scope fun Y => PG Y tg (rGc (en X) (own.map (·.2)) g)) (ht : Blk X scope fun Y => PTs Y ifs (rT (en X) tt)) (he : Blk X scope fun Y => PE Y elt (rE (en X) me)) (hs : ∀ x, foldedSetIterable iter X.env x = pure x := by intro _; rfl) :
    PS X (.Assign [.Name y py] (.ListComp elt [⟨tg, iter, ifs, 0⟩] scope pos) spos) (rS (en X) (sAsg (mLc N (own.map (·.2)) mi g tt me) (gName i))) :=
  PS.mono (ps_unl (ps_setLc hc hN hy hyl hsw hi ok hg ht he hs)) fun Dn σ H h => by
    have h1 := rS_asg h
    have h2 : rE (en X) (mLc N (own.map (·.2)) mi g tt me) σ H (fun x H1 => rG (en X) (gName i) x σ H1 Dn.nx) := h1
    obtain ⟨ρ, hp, ad, d, hp', st, e, q⟩ := h2
    exact rE_lc ⟨ρ, hp, ad, d, hp', st, e, fun v H' ad' x p r k => rG_name (q v H' ad' x p r k)⟩
end
end DL
namespace DL
open PySem PySem.Spec PyProof.Rows L2

mutual
def hzD : D → Option Int
  | .non => some (reduceHash 0xFCA86420)
  | .bl b => some (hashInt (if b = true then 1 else 0))
  | .int i => some (hashInt i)
  | .str _ => none
  | .tup ds => (hzsD ds).map fun hs => reduceHash (Builtin.Tuple.tupleHashOf hs)
  | .ref _ => none
  | .kl _ => none
def hzsD : List D → Option (List Int)
  | [] => some []
  | d :: ds => match hzD d, hzsD ds with
    | some h, some hs => some (h :: hs)
    | _, _ => none
end
mutual
theorem hz_ok {w : World} : ∀ {d : D} {z : Int} {k : NestedKey}, hzD d = some z → kyD d = some k → k.hash w = z
  | .non, z, k, h, e => by rw [kyD] at e; cases e; rw [hzD] at h; cases h; rw [NestedKey.hash]
  | .bl b, z, k, h, e => by rw [kyD] at e; cases e; rw [hzD] at h; cases h; rw [NestedKey.hash]
  | .int i, z, k, h, e => by rw [kyD] at e; cases e; rw [hzD] at h; cases h; rw [NestedKey.hash]
  | .str i, z, k, h, e => by rw [hzD] at h; cases h
  | .ref i, z, k, h, e => by rw [hzD] at h; cases h
  | .kl i, z, k, h, e => by rw [hzD] at h; cases h
  | .tup ds, z, k, h, e => by
    rw [kyD] at e
    obtain ⟨ks, e1, rfl⟩ := Option.map_eq_some_iff.mp e
    rw [hzD] at h
    obtain ⟨hs, e2, rfl⟩ := Option.map_eq_some_iff.mp h
    rw [NestedKey.hash, hzs_ok e2 e1]
theorem hzs_ok {w : World} : ∀ {ds : List D} {zs : List Int} {ks : List NestedKey}, hzsD ds = some zs → kysD ds = some ks → NestedKey.hashes w ks = zs
  | [], zs, ks, h, e => by rw [kysD] at e; cases e; rw [hzsD] at h; cases h; rw [NestedKey.hashes]
  | d :: ds, zs, ks, h, e => by
    rw [kysD] at e
    rw [hzsD] at h
    split at h
    · split at e
      · rename_i h1 h2 _ _ _ _ e1 e2
        cases h; cases e
        rw [NestedKey.hashes, hz_ok h1 e1, hzs_ok h2 e2]
      · cases e
    · cases h
end
def ndB : List Int → Bool
  | [] => true
  | a :: l => !(l.any fun b => decide (b = a)) && ndB l
theorem ndB_ok : ∀ {l : List Int}, ndB l = true → l.Nodup
  | [], _ => List.nodup_nil
  | a :: l, h => by
    rw [ndB, Bool.and_eq_true] at h
    rw [List.nodup_cons]
    refine ⟨fun m => ?_, ndB_ok h.2⟩
    have : (l.any fun b => decide (b = a)) = true := List.any_eq_true.mpr ⟨a, m, by simp⟩
    rw [this] at h
    cases h.1
def hzAll : List (D × D) → Option (List Int)
  | [] => some []
  | p :: ps => match hzD p.1, hzAll ps with
    | some h, some hs => some (h :: hs)
    | _, _ => none
/-- no two keys that hash alike -/
def apart (kvs : List (D × D)) : Bool := match kvs with
  | [] => true
  | p :: _ => kdD p.1 == 2 || (match hzAll kvs with
    | some hs => ndB hs
    | none => false)
theorem hzAll_ok {E : En} {ad : List Addr} {H : Hp} : ∀ {kvs : List (D × D)} {xs : List (NestedKey × Addr × Value)} {hs : List Int}, TX E ad H kvs xs → hzAll kvs = some hs → (xs.map fun x => x.1.hash E.w) = hs
  | [], _, hs, .nil, e => by cases e; rfl
  | p :: ps, _, hs, .cons h t, e => by
    rw [hzAll] at e
    split at e
    · rename_i h1 h2
      cases e
      rw [List.map_cons, hz_ok h1 h.1, hzAll_ok t h2]
    · cases e

section
variable {prog : Program} {w : World} {A : Around} {E : Value → Shared → Prop} {s : Shared}
theorem call_dict_H {o : Addr} {more : List (NestedKey × Addr × Value)} {Q : Value → Shared → Prop} (hu : A.units + 64 < cLine) (hoS : (o == sysModules) = false) (ho : s.heap.DictOfH (nestedKind prog w) o more) (hap : (∀ x ∈ more, s.TypeIs (.ref x.2.1) "tuple") ∧ (more.map fun x => x.1.hash w).Nodup) (hsz : more.length ≤ sizeLine)
    (h : ∀ h', h'.DictOfH (nestedKind prog w) s.heap.objs.size more → (∀ b u, s.heap.get? b = some u → h'.get? b = some u) → Q (.ref s.heap.objs.size) { s with heap := h' }) :
    wpAny (model prog w) A (call (.type "dict") [.ref o]) Q E s := by
  refine callType_codes (Q₁ := fun obj s₁ => obj = .ref s.heap.objs.size ∧ s₁ = { s with heap := s.heap.push { cls := .type "dict", data := .dict #[] } }) F.kt_called_dict (F.kt_typeCall_dict_1 _) F.entry_dict_init (kt_code_dict_new _ ⟨rfl, rfl⟩) ?_
  rintro obj s₁ ⟨rfl, rfl⟩
  generalize hN : s.heap.push { cls := .type "dict", data := .dict #[] } = h1
  have kp : ∀ b u, s.heap.get? b = some u → h1.get? b = some u := fun b u e => by rw [← hN]; exact Heap.get?_push_of_some _ e
  have hnew : h1.DictOfH (nestedKind prog w) s.heap.objs.size [] := by rw [← hN]; exact Heap.DictOfH.new s.heap
  have ho1 : h1.DictOfH (nestedKind prog w) o more := by
    obtain ⟨ob, es, ep, e1, e2, e3, e4, e5, e6⟩ := ho
    exact ⟨ob, es, ep, kp _ _ e1, e2, e3, e4, fun x hx => nestedKind_stays.stays (fun b ob vs n q _ => kp b ob q) (e5 x hx), e6⟩
  have nd : (more.map (·.1)).Nodup := let ⟨_, _, _, _, _, _, _, _, z⟩ := ho; z
  have ne : s.heap.objs.size ≠ o := fun z => by
    obtain ⟨_, _, _, hg, _⟩ := ho
    rw [← z] at hg
    exact Nat.lt_irrefl _ (Heap.lt_size hg)
  refine ⟨hnew.typeIs, F.args_dict_init_2 _ _, ?_⟩
  unfold Builtin.«dict.__init__»
  refine wpAny_bind ?_
  unfold Builtin.Dict.selfAndRest
  refine wpAny_bind (wpAny_notOrdered_dict hnew.typeIs (wpAny_pure ?_))
  have hap1 : (∀ x ∈ more, ({ s with heap := h1 } : Shared).TypeIs (.ref x.2.1) "tuple") ∧ (more.map fun x => (nestedKind prog w).hash x.1).Nodup := ⟨fun x hx => by obtain ⟨o, e, c⟩ := hap.1 x hx; exact ⟨o, kp _ _ e, c⟩, hap.2⟩
  have hu1 : (nestedKind prog w).room A.in1.in1 := by
    show A.in1.in1.units + 8 < cLine
    rw [Around.in1_units, Around.in1_units]; omega
  refine updateFrom_dictH (A := A.in1) .none hu1 ne hoS hnew ho1 (.inr hap1) (by simpa using hsz) fun h' hd' _ hs' => ⟨rfl, h h' ?_ fun b u e => ?_⟩
  · rw [storedAllH_nil_of_nodup more nd] at hd'
    exact hd'
  · exact (hs'.2 b (Nat.ne_of_lt (Heap.lt_size e))).trans (kp b u e)
end
section
variable {X : Cx}
/-- what a new dict is, by its heap -/
theorem dic_laid {pins : List (Addr × Obj)} {σ : L2.St} {H : Hp} {s : Shared} {ad : List Addr} {hp : Hd} {h' : Heap} {t : Nat} {vs : List (V × Int × V)} {kvs : List (D × D)} {Q : VK} (I : Inv X pins σ H s) (hr : HR (en X) ad H hp) (kp : ∀ b u, s.heap.get? b = some u → h'.get? b = some u) (dc : DcP s.heap.objs.size vs h')
    (pr : PRs (en X) ad H kvs vs) (ko : KsOk kvs) (hz : kvs.length ≤ sizeLine) (q : PostE (en X) ad H (.ref hp.n) (hp.push (.dic kvs)) Q) : EP X pins σ Q (.ref s.heap.objs.size) { s with heap := h', toks := t } := by
  have hn : H s.heap.objs.size = none := I.hok.fresh (Nat.le_refl _)
  have sy : (s.heap.objs.size == sysModules) = false := beq_eq_false_iff_ne.mpr (Ne.symm (Nat.ne_of_lt I.big))
  have x1 : Ex (en X) H (upd H s.heap.objs.size (DcO s.heap.objs.size vs)) := .new hn
  refine ⟨.ref s.heap.objs.size, _, I.laid (t' := t) kp (Nat.le_refl _) (ext_ok dc), rfl, q _ _ (ad ++ [s.heap.objs.size]) x1 (List.prefix_append _ _) (hr.push hn ⟨_, upd_same, vs, rfl, hz, sy, pr.mono x1 (List.prefix_append _ _), ko⟩) ?_⟩
  rw [RD]
  exact ⟨_, rfl, by rw [← hr.len]; simp⟩
/-- dict(d) -/
def dictF : Fn
  | [.ref n], hp => (match dicOf hp n with
    | some kvs => if apart kvs = true then some (.ref hp.n, hp.push (.dic kvs)) else none
    | none => none)
  | _, _ => none
theorem apart_T {E : En} {ad : List Addr} {H : Hp} {kvs : List (D × D)} {xs : List (NestedKey × Addr × Value)} (h : apart kvs = true) (t : ∀ p ∈ kvs, kdD p.1 = 1) (tx : TX E ad H kvs xs) : (xs.map fun x => x.1.hash E.w).Nodup := by
  cases tx with
  | nil => exact List.nodup_nil
  | cons h1 h2 =>
    rename_i p x ps xs
    unfold apart at h
    simp only [Bool.or_eq_true, beq_iff_eq] at h
    rcases h with h | h
    · rw [t p List.mem_cons_self] at h; cases h
    · split at h
      · rename_i hs e
        rw [hzAll_ok (.cons h1 h2) e]
        exact ndB_ok h
      · cases h
theorem call_dictF (hu : X.A.units + 64 < cLine) : CallR X (.type "dict") (rC (en X) dictF) := by
  intro pins s σ H xs us Q I r ⟨ad, hp, ds, d, hp', hr, k, e, q⟩
  unfold dictF at e
  split at e
  · rename_i n
    split at e
    · rename_i kvs ed
      split at e
      · rename_i ap
        cases e
        obtain ⟨v, rfl, k1⟩ := k.one
        obtain ⟨a, rfl, ha⟩ := k1.r
        obtain ⟨u, rfl, ru⟩ := r.one
        cases (show u = Value.ref a from ru)
        obtain ⟨vs, hq, z, sy, pr, ko⟩ := hr.dicR ed ha
        rcases ko.2.2 with t | t
        · obtain ⟨xs, hx, tx⟩ := dic_H I (dic_raw I hq) pr ko t
          have hty : ∀ x ∈ xs, s.TypeIs (.ref x.2.1) "tuple" := by
            obtain ⟨_, _, _, _, _, _, _, his, _⟩ := id hx
            exact fun x hm => nestedKind_stays.tuple (his x hm)
          refine call_dict_H hu sy hx ⟨hty, apart_T ap t tx⟩ (by rw [← Paired.length tx]; exact z) fun h' dd kp => ?_
          obtain ⟨ws, dc, pr'⟩ := dcp_T (E := en X) dd tx
          exact dic_laid (t := s.toks) I hr kp dc pr' ko z q
        · obtain ⟨xs, hx, fx⟩ := dic_F I (dic_raw I hq) pr ko t
          refine kt_call_dict sy hx (by rw [← Paired.length fx]; exact z) fun h' dd sb => ?_
          obtain ⟨ws, dc, pr'⟩ := dcp_F (E := en X) dd fx
          exact dic_laid (t := s.toks) I hr (fun b u e => (sb.2 b (Nat.ne_of_lt (Heap.lt_size e))).trans (Heap.get?_push_of_some _ e)) dc pr' ko z q
      · cases e
    · cases e
  · cases e

def dMrg : List (D × D) → List (D × D) → List (D × D)
  | kvs, [] => kvs
  | kvs, p :: ps => dMrg (dPut p.1 p.2 kvs) ps
def sameK (kvs more : List (D × D)) : Bool := match kvs, more with
  | p :: _, r :: _ => kdD p.1 == kdD r.1
  | _, _ => true
theorem sameK_ok {kvs more : List (D × D)} (h : sameK kvs more = true) (k1 : KsOk kvs) (k2 : KsOk more) : ((∀ p ∈ kvs, kdD p.1 = 1) ∧ ∀ p ∈ more, kdD p.1 = 1) ∨ ((∀ p ∈ kvs, kdD p.1 = 2) ∧ ∀ p ∈ more, kdD p.1 = 2) := by
  cases kvs with
  | nil => exact k2.2.2.imp (fun z => ⟨fun _ m => (List.not_mem_nil m).elim, z⟩) fun z => ⟨fun _ m => (List.not_mem_nil m).elim, z⟩
  | cons p ps =>
    cases more with
    | nil => exact k1.2.2.imp (fun z => ⟨z, fun _ m => (List.not_mem_nil m).elim⟩) fun z => ⟨z, fun _ m => (List.not_mem_nil m).elim⟩
    | cons r rs =>
      unfold sameK at h
      simp only [beq_iff_eq] at h
      rcases k1.2.2 with a | a <;> rcases k2.2.2 with b | b
      · exact .inl ⟨a, b⟩
      · have := a p List.mem_cons_self; have := b r List.mem_cons_self; omega
      · have := a p List.mem_cons_self; have := b r List.mem_cons_self; omega
      · exact .inr ⟨a, b⟩
theorem kOk_of {k : D} {kvs : List (D × D)} {q : NestedKey} {c : Nat} (e : kyD k = some q) (hq : q.depth ≤ 8) (hc : c = 1 ∨ c = 2) (hk : kdD k = c) (t : ∀ p ∈ kvs, kdD p.1 = c) : kOk k kvs = true := by
  unfold kOk
  rw [e, Bool.and_eq_true]
  refine ⟨by simpa using hq, ?_⟩
  cases kvs with
  | nil => rcases hc with rfl | rfl <;> simp [hk]
  | cons p ps => simp [t p List.mem_cons_self, hk]
theorem dPut_kd {k d : D} {c : Nat} {kvs : List (D × D)} (hk : kdD k = c) (t : ∀ p ∈ kvs, kdD p.1 = c) : ∀ p ∈ dPut k d kvs, kdD p.1 = c := fun p hp => by
  rcases dPut_mem hp with z | ⟨p', m, z⟩
  · rw [z]; exact hk
  · rw [← z]; exact t p' m
theorem mrg_T {E : En} {ad : List Addr} {H : Hp} : ∀ {more kvs : List (D × D)} {xs ys : List (NestedKey × Addr × Value)}, KsOk kvs → (∀ p ∈ kvs, kdD p.1 = 1) → (∀ p ∈ more, ∃ k, kyD p.1 = some k ∧ k.depth ≤ 8) → TX E ad H kvs xs → TX E ad H more ys → TX E ad H (dMrg kvs more) (storedAllH xs ys) ∧ KsOk (dMrg kvs more) ∧ (dMrg kvs more).length ≤ kvs.length + more.length
  | [], kvs, xs, _, ko, _, _, tx, .nil => ⟨tx, ko, by simp [dMrg]⟩
  | p :: ps, kvs, xs, _, ko, t, hm, tx, .cons (b := y) h ty => by
    rename_i ys
    obtain ⟨h1, h2, h3, v, h4, h5⟩ := h
    obtain ⟨k, e, hd⟩ := hm p List.mem_cons_self
    have ok := kOk_of e hd (.inl rfl) h2 t
    have nd : (xs.map (·.1)).Nodup := by
      have := ko.1
      rw [tx_keys tx] at this
      exact nodup_some this
    have ih := mrg_T (ko.put (d := p.2) ok) (dPut_kd h2 t) (fun r hr => hm r (List.mem_cons_of_mem _ hr)) (TX.put h1 h2 h3 h4 h5 tx nd) ty
    refine ⟨ih.1, ih.2.1, ?_⟩
    have := ih.2.2
    have l1 := dPut_len (k := p.1) (d := p.2) (kvs := kvs)
    show (dMrg (dPut p.1 p.2 kvs) ps).length ≤ _
    rw [List.length_cons]; omega
theorem mrg_F {E : En} {ad : List Addr} {H : Hp} : ∀ {more kvs : List (D × D)} {xs ys : List (L2.Key × Value)}, KsOk kvs → (∀ p ∈ kvs, kdD p.1 = 2) → (∀ p ∈ more, kdD p.1 = 2 ∧ ∃ k, kyD p.1 = some k ∧ k.depth ≤ 8) → FX E ad H kvs xs → FX E ad H more ys → FX E ad H (dMrg kvs more) (merged xs ys) ∧ KsOk (dMrg kvs more) ∧ (dMrg kvs more).length ≤ kvs.length + more.length
  | [], kvs, xs, _, ko, _, _, tx, .nil => ⟨tx, ko, by simp [dMrg]⟩
  | p :: ps, kvs, xs, _, ko, t, hm, tx, .cons (b := y) h ty => by
    rename_i ys
    obtain ⟨h1, v, h4, h5⟩ := h
    obtain ⟨h2, k, e, hd⟩ := hm p List.mem_cons_self
    have ok := kOk_of e hd (.inr rfl) h2 t
    have nd : (xs.map (·.1)).Nodup := by
      have := ko.1
      rw [fx_keys tx] at this
      exact nodup_inj this
    have ih := mrg_F (ko.put (d := p.2) ok) (dPut_kd h2 t) (fun r hr => hm r (List.mem_cons_of_mem _ hr)) (FX.put h1 h4 h5 tx nd) ty
    refine ⟨ih.1, ih.2.1, ?_⟩
    have := ih.2.2
    have l1 := dPut_len (k := p.1) (d := p.2) (kvs := kvs)
    show (dMrg (dPut p.1 p.2 kvs) ps).length ≤ _
    rw [List.length_cons]; omega
def updM : Mt
  | .ref n, [.ref m], hp => (match hp.get n with
    | some (.dic kvs) => (match dicOf hp m with
      | some more => if (n == m) = false ∧ (!kvs.isEmpty || apart more) = true ∧ sameK kvs more = true ∧ kvs.length + more.length ≤ big then some (.non, hp.set n (.dic (dMrg kvs more))) else none
      | none => none)
    | _ => none)
  | _, _, _ => none
theorem mt_updM (hu : X.A.units + 64 < cLine) : MtR X "dict.update" (rMt (en X) updM) := by
  intro pins s σ H x xs v us Q I rx rv ⟨ad, hp, o, ds, d, hp', hr, k1, k2, e, q⟩
  unfold updM at e
  split at e
  · rename_i n m
    split at e
    · rename_i kvs eg
      split at e
      · rename_i more em
        split at e
        · rename_i hc
          obtain ⟨nm, hap, sk, hz⟩ := hc
          cases e
          obtain ⟨v1, rfl, r1⟩ := k2.one
          obtain ⟨a, rfl, ha⟩ := k1.r
          obtain ⟨b, rfl, hb⟩ := r1.r
          obtain ⟨u, rfl, ru⟩ := rv.one
          cases (show u = Value.ref b from ru)
          cases (show v = Value.ref a from rx)
          have hab : a ≠ b := fun z => by
            subst z
            have := (List.getElem_inj hr.nd).mp ((List.getElem?_eq_some_iff.mp ha).2.trans (List.getElem?_eq_some_iff.mp hb).2.symm)
            simp [this] at nm
          obtain ⟨uo, ea, vs, rfl, hz2, sy, pr, ko⟩ := hr.at_ ha eg
          obtain ⟨ws, hq, z2, sy2, pr2, ko2⟩ := hr.dicR em hb
          have fin : ∀ {h' : Heap} {zs}, Heap.SameBut a s.heap h' → DcP a zs h' → PRs (en X) ad H (dMrg kvs more) zs → KsOk (dMrg kvs more) → (dMrg kvs more).length ≤ kvs.length + more.length → EP X pins σ Q .none { s with heap := h' } := fun {h' zs} sb dc pr' ko' hl => by
            obtain ⟨x1, hr1⟩ := dic_put hr ha ea (by have := big_ok hz; omega) sy pr' ko'
            exact ⟨.non, _, d_write (t' := s.toks) I (by rw [ea]; exact True.intro) sb (let ⟨o, _, _, e, _⟩ := dc; ⟨o, e⟩) (ext_ok dc), rfl, q _ _ ad x1 (List.prefix_refl _) hr1 (by rw [RD])⟩
          rcases sameK_ok sk ko ko2 with ⟨t1, t2⟩ | ⟨t1, t2⟩
          · obtain ⟨xs, hx, tx⟩ := dic_H I (dic_raw I (.inl ea)) pr ko t1
            obtain ⟨ys, hy, ty⟩ := dic_H I (dic_raw I hq) pr2 ko2 t2
            obtain ⟨g1, g2, g3⟩ := mrg_T ko t1 ko2.2.1 tx ty
            have l1 := Paired.length tx
            have l2 := Paired.length ty
            refine call_update_dictH (room8 hu) hab sy2 hx hy ?_ (by have := big_ok hz; omega) fun h' dd _ sb => ?_
            · rw [Bool.or_eq_true] at hap
              rcases hap with z | z
              · refine .inl fun y => ?_
                subst y
                cases tx
                cases z
              · refine .inr ⟨?_, apart_T (E := en X) z t2 ty⟩
                obtain ⟨_, _, _, _, _, _, _, his, _⟩ := id hy
                exact fun x hm => nestedKind_stays.tuple (his x hm)
            · obtain ⟨zs, dc, pr'⟩ := dcp_T (E := en X) dd g1
              exact fin sb dc pr' g2 g3
          · obtain ⟨xs, hx, tx⟩ := dic_F I (dic_raw I (.inl ea)) pr ko t1
            obtain ⟨ys, hy, ty⟩ := dic_F I (dic_raw I hq) pr2 ko2 t2
            obtain ⟨g1, g2, g3⟩ := mrg_F ko t1 (fun p hp => ⟨t2 p hp, ko2.2.1 p hp⟩) tx ty
            have l1 := Paired.length tx
            have l2 := Paired.length ty
            refine call_meetsIn PySem.F.slot_dict_update hx.typeIs PySem.F.entry_dict_update (PySem.F.args_dict_update_2 _ _) (meets_dict_update (mixKind X.prog X.w) a b hab sy2) ⟨xs, ys, hx, hy, by have := big_ok hz; omega, fun h' dd _ sb => ?_⟩
            obtain ⟨zs, dc, pr'⟩ := dcp_F (E := en X) dd g1
            exact fin sb dc pr' g2 g3
        · cases e
      · cases e
    · cases e
  · cases e
def keysOf (kvs : List (D × D)) : List D := kvs.map (·.1)
theorem vals_keys {E : En} {ad : List Addr} {H : Hp} : ∀ {kvs : List (D × D)} {vs : List (V × Int × V)}, PRs E ad H kvs vs → RDs E ad H (kvs.map (·.1)) (vs.map (·.1)) ∧ RDs E ad H (kvs.map (·.2)) (vs.map (·.2.2))
  | [], _, h => by cases h; exact ⟨.nil, .nil⟩
  | p :: ps, _, h => by
    obtain ⟨a, b, c, rfl, h1, _, _, h4, h⟩ := h
    obtain ⟨i1, i2⟩ := vals_keys h
    exact ⟨.cons h1 i1, .cons h4 i2⟩
/-- a new list, by its items -/
theorem lst_laid {pins : List (Addr × Obj)} {σ : L2.St} {H : Hp} {s : Shared} {ad : List Addr} {hp : Hd} {h' : Heap} {t c : Nat} {acc : Array Value} {ds : List D} {ws : List V} {Q : VK} (I : Inv X pins σ H s) (hr : HR (en X) ad H hp) (kp : ∀ b u, s.heap.get? b = some u → h'.get? b = some u)
    (hS : h'.get? s.heap.objs.size = some { cls := .type "list", dict := none, data := .seq acc c, slots := #[] }) (rv : Vals ws acc.toList) (hz : ws.length ≤ sizeLine) (rd : RDs (en X) ad H ds ws) (q : PostE (en X) ad H (.ref hp.n) (hp.push (.lst ds)) Q) : EP X pins σ Q (.ref s.heap.objs.size) { s with heap := h', toks := t } := by
  have hn : H s.heap.objs.size = none := I.hok.fresh (Nat.le_refl _)
  refine ⟨.ref s.heap.objs.size, _, I.laid (o := .lst ws) (t' := t) kp (Nat.le_refl _) ⟨hz, acc.toList, c, rv, by rw [Array.toArray_toList]; exact hS⟩, rfl, lst_new hr hn rd q⟩
theorem al (acc : Array Value) : acc.toList.length = acc.size := by simp
theorem vals_at : ∀ {ws : List V} {us : List Value}, ws.length = us.length → (∀ (j : Nat) (w : V) (u : Value), ws[j]? = some w → us[j]? = some u → RelV w u) → Vals ws us
  | [], [], _, _ => .nil
  | [], _ :: _, h, _ => by cases h
  | _ :: _, [], h, _ => by cases h
  | w :: ws, u :: us, h, f => .cons (f 0 w u rfl rfl) (vals_at (Nat.succ.inj h) fun j x y a b => f (j + 1) x y a b)
/-- list(x) of a list, a tuple, a dict -/
def listA : Fn
  | [.ref n], hp => (match dicOf hp n with
    | some kvs => some (.ref hp.n, hp.push (.lst (kvs.map (·.1))))
    | none => listF [.ref n] hp)
  | ds, hp => listF ds hp
theorem dc_entries {a : Addr} {vs : List (V × Int × V)} {h : Heap} (dc : DcP a vs h) : ∃ es ep, h.DictRaw a es ep ∧ es.size = vs.length ∧ ∀ (j : Nat) (p : V × Int × V) (hj : j < es.size), vs[j]? = some p → RelV p.1 es[j].key ∧ RelV p.2.2 es[j].val := by
  obtain ⟨o, es, ep, e, c, dt, r⟩ := dc
  refine ⟨es, ep, ⟨o, e, c, dt⟩, by have := Paired.length r; simpa using this.symm, fun j p hj hp => ?_⟩
  obtain ⟨y, hy, h1, _, h2⟩ := paired_get r hp
  have : es[j] = y := by
    rw [Array.getElem?_toList, Array.getElem?_eq_getElem hj] at hy
    exact Option.some.inj hy
  rw [this]
  exact ⟨h1, h2⟩
theorem call_listA (hc : X.calm = true) : CallR X (.type "list") (rC (en X) listA) := by
  intro pins s σ H xs us Q I r ⟨ad, hp, ds, d, hp', hr, k, e, q⟩
  unfold listA at e
  split at e
  · rename_i n
    split at e
    · rename_i kvs ed
      cases e
      obtain ⟨v, rfl, k1⟩ := k.one
      obtain ⟨a, rfl, ha⟩ := k1.r
      obtain ⟨u, rfl, ru⟩ := r.one
      cases (show u = Value.ref a from ru)
      obtain ⟨vs, hq, z, sy, pr, ko⟩ := hr.dicR ed ha
      obtain ⟨es, ep, raw, hsz, ent⟩ := dc_entries (dic_raw I hq)
      have hl := pr.len
      refine PySem.W.kdl_call (KdlSrc.rawDict (ep := ep) sy) (I.ok.hd hc) raw (by omega) fun h' tk acc c kp hS it => ?_
      refine lst_laid I hr kp hS (ws := vs.map (·.1)) (vals_at (by rw [List.length_map, al acc, it.1, hsz]) fun j w y e1 e2 => ?_) (by rw [List.length_map, ← hl]; exact z) (vals_keys pr).1 q
      rw [List.getElem?_map] at e1
      obtain ⟨p, hp, rfl⟩ := Option.map_eq_some_iff.mp e1
      obtain ⟨hi, rfl⟩ := it.2 j y (by rw [← Array.getElem?_toList]; exact e2)
      exact (ent j p hi hp).1
    · exact call_listF pins s σ H xs us Q I r ⟨ad, hp, [.ref n], d, hp', hr, k, e, q⟩
  · exact call_listF pins s σ H xs us Q I r ⟨ad, hp, ds, d, hp', hr, k, e, q⟩
/-- the view d.values(), tracked -/
def VwO (p d : Addr) : HO := .ext fun h => h.IsValuesView p d
def mLstV (m : M D) : M D := bnd m fun d => lft fun hp => match d with
  | .ref n => (match dicOf hp n with
    | some kvs => some (.ref hp.n, hp.push (.lst (kvs.map (·.2))))
    | none => none)
  | _ => none
theorem le_listV {x : Str} {p apos cpos pos : Pos} {e : Expr} {me : M D} (hc : X.calm = true) (he : PE X e (rE (en X) me)) (hg : Gl X x) (hm : X.mg x = none) (hv : bootBuiltins x = some (.type "list")) (hn : x ≠ "__name__" := by decide) (hdb : (x == ("__debug__" : Str)) = false := by decide)
    (hbase : attributeBase e "values" X.env (eval e X.env) = eval e X.env := by rfl) (hline : (apos.endLine == cpos.line) = true := by rfl)
    (hst : starEach [.Call (.Attribute e "values" apos) [] [] cpos] X.env = (false, eval (.Call (.Attribute e "values" apos) [] [] cpos) X.env) :: starEach [] X.env := by rfl) :
    PE X (.Call (.Name x p) [.Call (.Attribute e "values" apos) [] [] cpos] [] pos) (rE (en X) (mLstV me)) := by
  have h1 : PE X (.Call (.Attribute e "values" apos) [] [] cpos) (fun σ H Q => rE (en X) me σ H fun v H1 => ∃ a vs, v = .ref a ∧ Rd H1 a (DcO a vs) ∧ (a == sysModules) = false ∧ ∀ p, H1 p = none → Q (.ref p) (upd H1 p (VwO p a))) := by
    refine ⟨fun pins s σ H Q I h => ?_⟩
    refine wpAny_Call_method (T := "dict") (id := "dict.values") hbase rfl hline F.plainAttrs_dict F.slot_dict_values F.type_dict_values (thn (he.run pins s σ H _ I h) fun u s1 ⟨v, H1, I1, r1, a, vs, ev, rd, sy, q⟩ => ?_)
    subst ev
    cases (show u = Value.ref a from r1)
    obtain ⟨o, es, ep, eo, ec, dt, _⟩ := dic_raw I1 rd
    have raw : s1.heap.DictRaw a es ep := ⟨o, eo, ec, dt⟩
    refine ⟨raw.typeIs, fun b z => by cases z; exact ⟨o, eo, ec.2.1⟩, ?_⟩
    show wpAny _ _ (callWith cpos (.builtin "dict.values") [.ref a] [] []) _ X.xe s1
    refine method_meetsIn F.slot_dict_values F.entry_dict_values rfl (PySem.evalArgs_none ⟨rfl, raw.typeIs, F.args_dict_values_1 _, _, meets_dict_values_raw a sy, ⟨es, ep, raw⟩, ?_⟩)
    have hn := I1.hok.fresh (Nat.le_refl s1.heap.objs.size)
    exact ⟨.ref s1.heap.objs.size, _, I1.laid (o := VwO s1.heap.objs.size a) (t' := s1.toks) (fun _ _ q => Heap.get?_push_of_some _ q) (Nat.le_refl _) ⟨⟨_, Heap.get?_push_size _ rfl, rfl, rfl⟩, ⟨_, Heap.get?_push_size _ rfl⟩, fun h1 h2 ⟨o, e, r⟩ k => ⟨o, k _ e, r⟩⟩, rfl, q _ hn⟩
  have h2 : CallR X (.type "list") (fun xs H Q => ∃ b a vs, xs = [.ref b] ∧ H b = some (VwO b a) ∧ Rd H a (DcO a vs) ∧ vs.length ≤ sizeLine ∧ ∀ p, H p = none → Q (.ref p) (upd H p (.lst (vs.map (·.2.2))))) := by
    intro pins s σ H xs us Q I r ⟨b, a, vs, ex, hb, rd, z, q⟩
    subst ex
    obtain ⟨u, rfl, ru⟩ := r.one
    cases (show u = Value.ref b from ru)
    have vw : s.heap.IsValuesView b a := (I.hok b _ hb).1
    obtain ⟨es, ep, raw, hsz, ent⟩ := dc_entries (dic_raw I rd)
    refine PySem.W.kdl_call (KdlSrc.rawValues (es := es) (ep := ep)) (I.ok.hd hc) ⟨vw, raw⟩ (by omega) fun h' tk acc c kp hS it => ?_
    refine ⟨.ref s.heap.objs.size, _, I.laid (o := .lst (vs.map (·.2.2))) (t' := tk) kp (Nat.le_refl _) ⟨by rw [List.length_map]; exact z, acc.toList, c, vals_at (by rw [List.length_map, al acc, it.1, hsz]) fun j w y e1 e2 => ?_, by rw [Array.toArray_toList]; exact hS⟩, rfl, q _ (I.hok.fresh (Nat.le_refl _))⟩
    rw [List.getElem?_map] at e1
    obtain ⟨p, hp, rfl⟩ := Option.map_eq_some_iff.mp e1
    obtain ⟨hi, rfl⟩ := it.2 j y (by rw [← Array.getElem?_toList]; exact e2)
    exact (ent j p hi hp).2
  refine PE.mono (pe_callTy h2 hg hm hv (pa_cons h1 pa_nil hst) hn hdb hst rfl) fun σ H Q h => ?_
  obtain ⟨ρ, hp, ad, d, hp', st, e0, q⟩ := h
  obtain ⟨d1, h3, e1, e2⟩ := bnd_inv e0
  refine ⟨ρ, hp, ad, d1, h3, st, e1, fun v H1 ad1 x1 p1 r1 k1 => ?_⟩
  cases d1 with
  | ref n =>
    simp only [lft] at e2
    split at e2
    · rename_i kvs ed
      cases e2
      obtain ⟨a, rfl, ha⟩ := k1.r
      obtain ⟨vs, hq, z, sy, pr, ko⟩ := r1.dicR ed ha
      refine ⟨a, vs, rfl, hq, sy, fun b nb => ?_⟩
      have nba : a ≠ b := fun z => by
        subst z
        rcases hq with g | ⟨_, g⟩ <;> rw [nb] at g <;> cases g
      have hqb : Rd (upd H1 b (VwO b a)) a (DcO a vs) := by
        rcases hq with g | ⟨o, g⟩
        · exact .inl (by rw [upd_ne nba]; exact g)
        · exact .inr ⟨o, by rw [upd_ne nba]; exact g⟩
      refine ⟨b, a, vs, rfl, upd_same, hqb, by rw [← pr.len]; exact z, fun p np => ?_⟩
      have x2 : Ex (en X) H1 (upd H1 b (VwO b a)) := .new nb
      have r2 := r1.aside (o := VwO b a) nb
      exact lst_new r2 np ((vals_keys pr).2.mono x2 (List.prefix_refl _)) ((q.next x1 p1).next x2 (List.prefix_refl _))
    · cases e2
  | _ => cases e2
end
end DL
namespace DL
open PySem PySem.Spec PyProof.Rows L2
section
variable {X : Cx} {pins : List (Addr × Obj)} {σ : L2.St} {H : Hp} {s : Shared} {ad : List Addr} {hp : Hd} {a b : Addr} {A : Around} {E : Value → Shared → Prop}
/-- a look-up by the key and its hash -/
theorem find_D {kvs : List (D × D)} {k : D} {y : V} {u : Value} {z : NestedKey} {vs : List (V × Int × V)} (hu : A.units + 8 < cLine) (I : Inv X pins σ H s) (hs : Rd H a (DcO a vs)) (pr : PRs (en X) ad H kvs vs) (ko : KsOk kvs) (ok : kOk k kvs = true) (rk : RD (en X) ad H k y) (ry : RelV y u) (ez : kyD k = some z) :
    ∃ o es ep, s.heap.get? a = some o ∧ o.data = .dict es ep ∧ es.size = kvs.length ∧ ∀ Q : Option Nat → Shared → Prop, (dAt k kvs = none → Q none s) → (∀ (j : Nat) e d v, dAt k kvs = some d → es[j]? = some e → RD (en X) ad H d v → RelV v e.val → Q (some j) s) → wpAny (model X.prog X.w) A (dictFind a u (z.hash X.w)) Q E s := by
  rcases dview I hs pr ko ok rk ry with ⟨xs, q, c, h1, h2, rfl, h4, h5, h6, h7⟩ | ⟨xs, q, h1, h2, h4, h5, h6⟩
  · obtain ⟨o, es, ep, e1, e2, e3, e4, e5, e6⟩ := h4
    rw [h2] at ez
    cases ez
    refine ⟨o, es, ep, e1, e3, by rw [size_of_entries e4, Paired.length h5], fun Q q1 q2 => ?_⟩
    have tv := TX.val h2 h5
    refine wpAny_dictFind_heap (knd := nestedKind X.prog X.w) hu h6 e1 e3 e4 e5 e6 (fun hn => q1 ?_) fun j p hj => ?_
    · cases w : dAt k kvs with
      | none => rfl
      | some d =>
        rw [w] at tv
        obtain ⟨p, v, g, _⟩ := tv
        rw [atKey_none_of_get hn] at g
        cases g
    · have g0 := atKey_of_get e6 hj
      cases w : dAt k kvs with
      | none => rw [w] at tv; rw [tv] at g0; cases g0
      | some d =>
        rw [w] at tv
        obtain ⟨p', v, g, g1, g2⟩ := tv
        rw [g0] at g
        cases g
        exact q2 j _ d v w (by rw [entry_at e4 j, hj]; rfl) g1 g2
  · obtain ⟨o, es, ep, e1, e2, e3, e4, e5, e6⟩ := h4
    rw [fx_ky h2] at ez
    cases ez
    refine ⟨o, es, ep, e1, e3, ?_, fun Q q1 q2 => ?_⟩
    · have l1 := e5.length
      have l2 := Paired.length h5
      rw [l2, ← l1]; simp
    have tv := FX.val h2 h5
    have hf : findBy (mixKind X.prog X.w).is es q = valueAt xs q := by
      rw [← e5.find q]
      obtain ⟨l⟩ := es
      simp [findBy]
    rw [← keyH_nk]
    refine wpAny_dictFind_of (knd := mixKind X.prog X.w) h6 e1 e3 e4 ?_
    rw [findBy_of_findIdx?] at hf
    cases hj : es.findIdx? fun e => (mixKind X.prog X.w).is q e.key with
    | none =>
      rw [hj] at hf
      refine q1 ?_
      cases w : dAt k kvs with
      | none => rfl
      | some d =>
        rw [w] at tv
        obtain ⟨p, v, g, _⟩ := tv
        rw [← hf] at g
        cases g
    | some j =>
      rw [hj] at hf
      cases w : dAt k kvs with
      | none => rw [w] at tv; rw [tv] at hf; obtain ⟨hlt, _⟩ := Array.findIdx?_eq_some_iff_getElem.mp hj; simp [Array.getElem?_eq_getElem hlt] at hf
      | some d =>
        rw [w] at tv
        obtain ⟨p', v, g, g1, g2⟩ := tv
        rw [g] at hf
        obtain ⟨e, he, hv⟩ := Option.map_eq_some_iff.mp hf
        exact q2 j e d v w he g1 (by rw [hv]; exact g2)
/-- the pairs of one looked up in the other -/
def eqKV (hp : Hd) (kb : List (D × D)) : List (D × D) → Option Bool
  | [] => some true
  | p :: r => if kOk p.1 kb = true then (match dAt p.1 kb with
      | none => some false
      | some d => (match pdD hp p.2, pdD hp d with
        | some x, some y => if SeqAt.shaped x = true ∧ SeqAt.shaped y = true then (if PyData.eqv x y = true then eqKV hp kb r else some false) else none
        | _, _ => none)) else none
theorem PRs.drop {E : En} {ad : List Addr} {H : Hp} : ∀ (n : Nat) {kvs : List (D × D)} {vs : List (V × Int × V)}, PRs E ad H kvs vs → PRs E ad H (kvs.drop n) (vs.drop n)
  | 0, _, _, h => by simpa using h
  | n + 1, [], _, h => by cases h; exact rfl
  | n + 1, p :: ps, _, h => by
    obtain ⟨x, y, k, rfl, _, _, _, _, h⟩ := h
    simpa using PRs.drop n h
theorem same_D {nm : String} {ka kb : List (D × D)} {va vb : List (V × Int × V)} {r : Bool} {Q : Bool → Shared → Prop} (hu : A.in1.units + 64 < cLine) (I : Inv X pins σ H s) (hr : HR (en X) ad H hp) (sa : (a == sysModules) = false) (sb : (b == sysModules) = false) (ha : Rd H a (DcO a va)) (hb : Rd H b (DcO b vb)) (pa : PRs (en X) ad H ka va) (pb : PRs (en X) ad H kb vb) (kob : KsOk kb)
    (e : ka.length = kb.length → eqKV hp kb ka = some r) (h : Q (ka.length == kb.length && r) s) : wpAny (model X.prog X.w) A.in1 (Builtin.Dict.samePairs nm a b) Q E s := by
  obtain ⟨oa, es, ep, hoa, _, hda, hpa⟩ := dic_raw I ha
  obtain ⟨ob, es2, ep2, hob, _, hdb, hpb⟩ := dic_raw I hb
  have la : es.size = ka.length := by rw [pa.len, Paired.length hpa]; simp
  have lb : es2.size = kb.length := by rw [pb.len, Paired.length hpb]; simp
  unfold Builtin.Dict.samePairs Builtin.Dict.showsAll
  rw [if_neg (by rw [sa]; decide), if_neg (by rw [sb]; decide)]
  refine wpAny_bind (wpAny_pure (wpAny_bind (wpAny_pure (wpAny_bind (wpAny_dictEntries hoa hda ?_)))))
  dsimp only
  refine wpAny_bind (wpAny_dictEntries hob hdb ?_)
  by_cases hsz : es.size = es2.size
  case neg =>
    rw [if_pos (by simpa using hsz)]
    have bf : (ka.length == kb.length) = false := by rw [← la, ← lb]; simpa using hsz
    rw [bf, Bool.false_and] at h
    exact wpAny_bind (wpAny_rule (wpAny_pure h))
  case pos =>
    have hl : ka.length = kb.length := by rw [← la, ← lb]; exact hsz
    have h' : Q r s := by simpa [hl] using h
    rw [if_neg (by rw [hsz]; simp)]
    refine wpAny_bind (wpAny_dictEpoch hoa hda (wpAny_bind ?_))
    rw [Std.Legacy.Range.forIn_eq_forIn_range']
    simp only [Std.Legacy.Range.size, Nat.sub_zero, Nat.add_sub_cancel, Nat.div_one]
    refine wpAny_forIn_list _ (fun rest q s' => s' = s ∧ q = (none, ()) ∧ ∃ i, rest = List.range' i (es.size - i) ∧ i ≤ es.size ∧ eqKV hp kb (ka.drop i) = some r) _ ?_ ?_ _ _ ⟨rfl, rfl, 0, by simp, Nat.zero_le _, by simpa using e hl⟩
    · rintro x rest q s' ⟨rfl, rfl, i, hrg, hi, ei⟩
      have hlt : i < es.size := by
        rcases Nat.lt_or_ge i es.size with g | g
        · exact g
        · rw [Nat.sub_eq_zero_of_le g] at hrg; simp at hrg
      have e1 : es.size - i = (es.size - (i + 1)) + 1 := by omega
      rw [e1, List.range'_succ] at hrg
      injection hrg with h1 h2
      subst h1
      refine wpAny_bind (wpAny_dictEntries hoa hda ?_)
      rw [Array.getElem?_eq_getElem hlt]
      have hk : x < ka.length := by rw [← la]; exact hlt
      have hd := List.drop_eq_getElem_cons hk
      have hv : x < va.length := by rw [← pa.len]; exact hk
      have pd := pa.drop x
      rw [hd, List.drop_eq_getElem_cons hv] at pd
      obtain ⟨qv, rv, kz, eqv, k1, k2, k3, k4, _⟩ := pd
      injection eqv with eqv _
      obtain ⟨en, hen, g1, g2, g3⟩ := paired_get hpa (List.getElem?_eq_getElem hv)
      have een : en = es[x] := by
        rw [Array.getElem?_toList, Array.getElem?_eq_getElem hlt] at hen
        exact (Option.some.inj hen).symm
      rw [een] at g1 g2 g3
      rw [eqv] at g1 g2 g3
      rw [hd, eqKV] at ei
      split at ei
      case isFalse => cases ei
      rename_i ok
      obtain ⟨o3, es3, ep3, f1, f2, f3, find⟩ := find_D (A := A.in1) (E := E) (by omega) I hb pb kob ok k1 g1 k2
      rw [hob] at f1
      cases f1
      rw [hdb] at f2
      cases f2
      show wpAny _ _ (holding [es[x].key, es[x].val] _ >>= _) _ _ _
      rw [g2, k3]
      refine wpAny_bind (wpAny_holding (wpAny_bind (find _ (fun hn => ?_) fun j e2 d v hs he rd rvv => ?_)))
      · rw [hn] at ei
        cases ei
        refine wpAny_pure ?_
        show wpAny _ _ (if (!false) = true then _ else _) _ _ _
        rw [if_pos (show (!false) = true by decide)]
        exact wpAny_pure (wpAny_pure h')
      · rw [hs] at ei
        refine wpAny_bind (wpAny_dictEntries hob hdb ?_)
        rw [he]
        simp only at ei
        split at ei
        case h_2 => cases ei
        rename_i px py ex ey
        split at ei
        case isFalse => cases ei
        rename_i sh
        obtain ⟨as, r1⟩ := Dp.reads I px _ _ (pdD_ok hr ex k4) g3
        obtain ⟨bs, r2⟩ := Dp.reads I py _ _ (pdD_ok hr ey rd) rvv
        have ee := PySem.W.keq_at (A := A) r1 r2 sh.1 sh.2 hu
        refine wpAny_holding (ee _ _ _ _ ?_)
        split at ei
        · rename_i t
          rw [t]
          show wpAny _ _ (if (!true) = true then _ else _) _ _ _
          rw [if_neg (by decide)]
          refine wpAny_bind (wpAny_dictEpoch hoa hda ?_)
          rw [if_neg (by simp)]
          exact wpAny_pure ⟨rfl, rfl, x + 1, h2, hlt, ei⟩
        · rename_i t
          cases ei
          rw [Bool.eq_false_iff.mpr t]
          show wpAny _ _ (if (!false) = true then _ else _) _ _ _
          rw [if_pos (show (!false) = true by decide)]
          exact wpAny_pure (wpAny_pure h')
    · rintro q s' ⟨rfl, rfl, i, hrg, hi, ei⟩
      have hin : i = es.size := by
        rcases Nat.lt_or_ge i es.size with g | g
        · have e1 : es.size - i = (es.size - (i + 1)) + 1 := by omega
          rw [e1, List.range'_succ] at hrg; exact nomatch hrg
        · exact Nat.le_antisymm hi g
      rw [hin, la, List.drop_length] at ei
      cases ei
      exact wpAny_pure h'
end
section
variable {X : Cx}
def eqA (f : Bool → Bool) : D → D → Hd → Option (D × Hd) := fun x y hp => match x, y with
  | .ref n, .ref m => (match dicOf hp n, dicOf hp m with
    | some ka, some kb => if ka.length = kb.length then (eqKV hp kb ka).map (fun r => (.bl (f r), hp)) else some (.bl (f false), hp)
    | _, _ => eqC f x y hp)
  | _, _ => eqC f x y hp
theorem op_eqA (hu : X.A.units + 65 < cLine) : OpR X (compareOp .Eq) (rB (en X) (eqA id)) := by
  intro pins s σ H x y v u Q I rx ry ⟨ad, hp, d1, d2, d, hp', hr, k1, k2, e, q⟩
  have old : eqC id d1 d2 hp = some (d, hp') → wpAny (model X.prog X.w) X.A (compareOp .Eq v u) (EP X pins σ Q) X.xe s := fun e =>
    op_eqDD (by omega) pins s σ H x y v u Q I rx ry ⟨ad, hp, d1, d2, d, hp', hr, k1, k2, e, q⟩
  unfold eqA at e
  split at e
  · rename_i n m
    split at e
    · rename_i ka kb ea eb
      obtain ⟨a, rfl, ha⟩ := k1.r
      obtain ⟨b, rfl, hb⟩ := k2.r
      cases (show v = Value.ref a from rx)
      cases (show u = Value.ref b from ry)
      obtain ⟨va, qa, za, sa, pa, koa⟩ := hr.dicR ea ha
      obtain ⟨vb, qb, zb, sb, pb, kob⟩ := hr.dicR eb hb
      obtain ⟨oa, _, _, oa1, oa2, _⟩ := dic_raw I qa
      obtain ⟨ob, _, _, ob1, ob2, _⟩ := dic_raw I qb
      have ta : s.TypeIs (.ref a) "dict" := ⟨oa, oa1, oa2.1⟩
      have tb : s.TypeIs (.ref b) "dict" := ⟨ob, ob1, ob2.1⟩
      obtain ⟨r, er, hQ⟩ : ∃ r, (ka.length = kb.length → eqKV hp kb ka = some r) ∧ Q (.bl (ka.length == kb.length && r)) H := by
        split at e
        · rename_i hl
          obtain ⟨r, e1, e2⟩ := Option.map_eq_some_iff.mp e
          cases e2
          exact ⟨r, fun _ => e1, by simpa [hl] using q.here hr (rdB _)⟩
        · rename_i hl
          cases e
          exact ⟨true, fun z => (hl z).elim, by have : (ka.length == kb.length) = false := by simpa using hl
                                                rw [this]; exact q.here hr (rdB _)⟩
      refine wpAny_richCompare_same_room (op := .Eq) ta tb PySem.F.slot_dict_eq (wpAny_call_entry PySem.F.slot_dict_eq ta PySem.F.entry_dict_eq ?_ (PySem.F.args_dict_eq_2 _ _)) (by omega)
      show wpAny _ _ (Builtin.Dict.dictSlotArgs "__eq__" ⟨[.ref a, .ref b], []⟩ >>= _) _ _ s
      refine wpAny_bind ?_
      unfold Builtin.Dict.dictSlotArgs
      refine wpAny_bind (wpAny_notOrdered_dict ta (wpAny_pure ?_))
      refine wpAny_bind (wpAny_isInstance (T := "dict") tb PySem.F.sub_dict_dict ?_)
      simp only [Bool.not_true, Bool.false_eq_true, if_false]
      refine wpAny_bind (wpAny_pure (wpAny_bind (wpAny_pure (wpAny_bind (same_D (A := X.A) (by rw [Around.in1_units]; omega) I hr sa sb qa qb pa pb kob er (wpAny_pure ⟨_, rfl, ?_, ?_⟩))))))
      · exact fun z => nomatch z
      · refine ⟨.bl _, H, I, rfl, ?_⟩
        simpa using hQ
    · exact old e
  · exact old e
theorem op_neA (hu : X.A.units + 65 < cLine) : OpR X (compareOp .NotEq) (rB (en X) (eqA not)) := by
  intro pins s σ H x y v u Q I rx ry ⟨ad, hp, d1, d2, d, hp', hr, k1, k2, e, q⟩
  have old : eqC not d1 d2 hp = some (d, hp') → wpAny (model X.prog X.w) X.A (compareOp .NotEq v u) (EP X pins σ Q) X.xe s := fun e =>
    op_neDD (by omega) pins s σ H x y v u Q I rx ry ⟨ad, hp, d1, d2, d, hp', hr, k1, k2, e, q⟩
  unfold eqA at e
  split at e
  · rename_i n m
    split at e
    · rename_i ka kb ea eb
      obtain ⟨a, rfl, ha⟩ := k1.r
      obtain ⟨b, rfl, hb⟩ := k2.r
      cases (show v = Value.ref a from rx)
      cases (show u = Value.ref b from ry)
      obtain ⟨va, qa, za, sa, pa, koa⟩ := hr.dicR ea ha
      obtain ⟨vb, qb, zb, sb, pb, kob⟩ := hr.dicR eb hb
      obtain ⟨oa, _, _, oa1, oa2, _⟩ := dic_raw I qa
      obtain ⟨ob, _, _, ob1, ob2, _⟩ := dic_raw I qb
      have ta : s.TypeIs (.ref a) "dict" := ⟨oa, oa1, oa2.1⟩
      have tb : s.TypeIs (.ref b) "dict" := ⟨ob, ob1, ob2.1⟩
      obtain ⟨r, er, hQ⟩ : ∃ r, (ka.length = kb.length → eqKV hp kb ka = some r) ∧ Q (.bl (!(ka.length == kb.length && r))) H := by
        split at e
        · rename_i hl
          obtain ⟨r, e1, e2⟩ := Option.map_eq_some_iff.mp e
          cases e2
          exact ⟨r, fun _ => e1, by simpa [hl] using q.here hr (rdB _)⟩
        · rename_i hl
          cases e
          exact ⟨true, fun z => (hl z).elim, by have : (ka.length == kb.length) = false := by simpa using hl
                                                rw [this]; exact q.here hr (rdB _)⟩
      refine wpAny_richCompare_same_room (op := .NotEq) ta tb PySem.F.slot_dict_ne (wpAny_call_entry PySem.F.slot_dict_ne ta PySem.F.entry_dict_ne ?_ (PySem.F.args_dict_ne_2 _ _)) (by omega)
      show wpAny _ _ (Builtin.Dict.dictSlotArgs "__ne__" ⟨[.ref a, .ref b], []⟩ >>= _) _ _ s
      refine wpAny_bind ?_
      unfold Builtin.Dict.dictSlotArgs
      refine wpAny_bind (wpAny_notOrdered_dict ta (wpAny_pure ?_))
      refine wpAny_bind (wpAny_isInstance (T := "dict") tb PySem.F.sub_dict_dict ?_)
      simp only [Bool.not_true, Bool.false_eq_true, if_false]
      refine wpAny_bind (wpAny_pure (wpAny_bind (wpAny_pure (wpAny_bind (same_D (A := X.A) (by rw [Around.in1_units]; omega) I hr sa sb qa qb pa pb kob er (wpAny_pure ⟨_, rfl, ?_, ?_⟩))))))
      · exact fun z => nomatch z
      · refine ⟨.bl _, H, I, rfl, ?_⟩
        simpa using hQ
    · exact old e
  · exact old e
end
end DL
namespace DL
open PySem PySem.Spec PyProof.Rows L2
open PySem.W (dataLe dataLt alike AllAlike Sortable EachIs)

section
variable {α : Type}
def insB (le : α → α → Bool) (a : α) : List α → List α
  | [] => [a]
  | b :: l => if le a b = true then a :: b :: l else b :: insB le a l
def isort (le : α → α → Bool) : List α → List α
  | [] => []
  | a :: l => insB le a (isort le l)
theorem insB_split {le : α → α → Bool} {a : α} : ∀ {l₁ l₂ : List α}, (∀ b ∈ l₁, (!le a b) = true) → (∀ b ∈ l₂, le a b = true) → insB le a (l₁ ++ l₂) = l₁ ++ a :: l₂
  | [], [], _, _ => rfl
  | [], b :: l, _, h => by
    show (if le a b = true then a :: b :: l else b :: insB le a l) = a :: b :: l
    rw [if_pos (h b List.mem_cons_self)]
  | b :: l, l₂, h, k => by
    show (if le a b = true then a :: b :: (l ++ l₂) else b :: insB le a (l ++ l₂)) = b :: (l ++ a :: l₂)
    have hb := h b List.mem_cons_self
    rw [if_neg (by cases q : le a b with
                   | true => rw [q] at hb; cases hb
                   | false => decide), insB_split (fun c hc => h c (List.mem_cons_of_mem _ hc)) k]
theorem isort_eq {le : α → α → Bool} (tr : ∀ a b c, le a b = true → le b c = true → le a c = true) (to : ∀ a b, (le a b || le b a) = true) : ∀ l : List α, l.mergeSort le = isort le l
  | [] => by simp [isort]
  | a :: l => by
    obtain ⟨l₁, l₂, e1, e2, h⟩ := List.mergeSort_cons tr to a l
    have sd := List.pairwise_mergeSort tr to (a :: l)
    rw [e1] at sd
    have h2 : ∀ b ∈ l₂, le a b = true := (List.pairwise_cons.mp (List.pairwise_append.mp sd).2.1).1
    rw [e1, isort, ← isort_eq tr to l, e2, insB_split h h2]
theorem isort_len {le : α → α → Bool} : ∀ l : List α, (isort le l).length = l.length
  | [] => rfl
  | a :: l => by
    have go : ∀ m : List α, (insB le a m).length = m.length + 1 := fun m => by
      induction m with
      | nil => rfl
      | cons b m ih =>
        rw [insB]
        split
        · rfl
        · rw [List.length_cons, ih, List.length_cons]
    rw [isort, go, isort_len l, List.length_cons]
end
def leP (a b : D × PyData) : Bool := !dataLt b.2 a.2
theorem leP_eq : (leP : D × PyData → D × PyData → Bool) = dataLe false (fun b : D × PyData => b.2) := rfl
def pairD (hp : Hd) : List D → Option (List (D × PyData))
  | [] => some []
  | d :: ds => match pdD hp d, pairD hp ds with
    | some p, some ps => some ((d, p) :: ps)
    | _, _ => none
def alB (l : List (D × PyData)) : Bool := l.all fun x => l.all fun y => alike x.2 y.2
def isTupB : PyData → Bool
  | .tuple (_ :: _) => true
  | _ => false
def isFltB : PyData → Bool
  | .none => false
  | .tuple _ => false
  | _ => true
def srtB (l : List (D × PyData)) : Bool := l.all (fun x => isTupB x.2) || l.all (fun x => isFltB x.2)
def sortD (hp : Hd) (ds : List D) : Option (List D) := match pairD hp ds with
  | some ps => if alB ps = true ∧ srtB ps = true ∧ (ps.all fun x => decide (x.2.depth ≤ 60)) = true then some ((isort leP ps).map (·.1)) else none
  | none => none
theorem alB_ok {l : List (D × PyData)} (h : alB l = true) : AllAlike (l.map (·.2)) := fun d hd d' hd' => by
  obtain ⟨x, hx, rfl⟩ := List.mem_map.mp hd
  obtain ⟨y, hy, rfl⟩ := List.mem_map.mp hd'
  exact List.all_eq_true.mp (List.all_eq_true.mp h x hx) y hy
theorem srtB_ok {l : List (D × PyData)} (h : srtB l = true) : Sortable (l.map (·.2)) := by
  unfold srtB at h
  rw [Bool.or_eq_true] at h
  refine h.imp (fun z d hd => ?_) fun z d hd => ?_
  · obtain ⟨x, hx, rfl⟩ := List.mem_map.mp hd
    have := List.all_eq_true.mp z x hx
    unfold isTupB at this
    split at this
    · rename_i a b e; exact ⟨a, b, e⟩
    · cases this
  · obtain ⟨x, hx, rfl⟩ := List.mem_map.mp hd
    have := List.all_eq_true.mp z x hx
    refine ⟨fun e => ?_, fun xs e => ?_⟩
    · rw [e] at this; cases this
    · rw [e] at this; cases this
section
variable {X : Cx} {pins : List (Addr × Obj)} {σ : L2.St} {H : Hp} {s : Shared} {ad : List Addr} {hp : Hd}
mutual
theorem reads_lt {h : Heap} : ∀ {v : Value} {d : PyData} {as : List Addr}, Reads h v d as → ∀ a ∈ as, a < h.objs.size
  | _, _, _, .none, a, m => (List.not_mem_nil m).elim
  | _, _, _, .bool b, a, m => (List.not_mem_nil m).elim
  | _, _, _, .int i t, a, m => (List.not_mem_nil m).elim
  | _, _, _, .str x t, a, m => (List.not_mem_nil m).elim
  | _, _, _, .list h1 h2 h3 h4, a, m => by
    rcases List.mem_cons.mp m with z | z
    · rw [z]; exact Heap.lt_size h1
    · exact readsAll_lt h4 a z
  | _, _, _, .tuple h1 h2 h3 h4, a, m => readsAll_lt h4 a m
  | _, _, _, .dict h1 h2 h3 h4 h5, a, m => by
    rcases List.mem_append.mp m with z | z
    · rcases List.mem_cons.mp z with z | z
      · rw [z]; exact Heap.lt_size h1
      · exact readsAll_lt h4 a z
    · exact readsAll_lt h5 a z
theorem readsAll_lt {h : Heap} : ∀ {v : List Value} {d : List PyData} {as : List Addr}, ReadsAll h v d as → ∀ a ∈ as, a < h.objs.size
  | _, _, _, .nil, a, m => (List.not_mem_nil m).elim
  | _, _, _, .cons h1 h2, a, m => by
    rcases List.mem_append.mp m with z | z
    · exact reads_lt h1 a z
    · exact readsAll_lt h2 a z
end
/-- what the items are -/
def RIt (E : En) (ad : List Addr) (H : Hp) (v : Value) (b : D × PyData) : Prop := ∃ x, RD E ad H b.1 x ∧ RelV x v
theorem each_of (I : Inv X pins σ H s) (hr : HR (en X) ad H hp) : ∀ {ds : List D} {ws : List V} {us : List Value} {ps : List (D × PyData)}, RDs (en X) ad H ds ws → Vals ws us → pairD hp ds = some ps →
    EachIs (RIt (en X) ad H) us ps ∧ EachIs (fun v (b : D × PyData) => ∃ as, Reads s.heap v b.2 as) us ps ∧ ps.map (·.1) = ds
  | [], ws, us, ps, r, rv, e => by
    rw [RDs] at r; subst r; cases rv; cases e
    exact ⟨.nil, .nil, rfl⟩
  | d :: ds, ws, us, ps, r, rv, e => by
    rw [RDs] at r
    obtain ⟨w, rs, rfl, r1, r2⟩ := r
    cases rv with
    | cons v1 v2 =>
      rw [pairD] at e
      split at e
      · rename_i p qs e1 e2
        cases e
        obtain ⟨i1, i2, i3⟩ := each_of I hr r2 v2 e2
        exact ⟨.cons ⟨w, r1, v1⟩ i1, .cons (Dp.reads I p _ _ (pdD_ok hr e1 r1) v1) i2, by rw [List.map_cons, i3]⟩
      · cases e
theorem of_each {E : En} : ∀ {us : List Value} {ps : List (D × PyData)}, EachIs (RIt E ad H) us ps → ∃ ws, Vals ws us ∧ RDs E ad H (ps.map (·.1)) ws
  | [], _, .nil => ⟨[], .nil, .nil⟩
  | _ :: _, _, .cons ⟨x, h1, h2⟩ t => by
    obtain ⟨ws, a, b⟩ := of_each t
    exact ⟨x :: ws, .cons h2 a, .cons h1 b⟩
theorem srt_eq (ps : List (D × PyData)) : ps.mergeSort (dataLe false fun b : D × PyData => b.2) = isort leP ps := by
  have T := PySem.W.sortLe_total (PyProof.Rows.listOrd PyProof.Rows.itemOrd) false fun b : D × PyData => PySem.W.keyToks b.2
  rw [← leP_eq]
  refine isort_eq ?_ ?_ ps
  · exact T.trans
  · exact fun a b => by
      rw [Bool.or_eq_true]
      exact T.total a b
theorem each_out {E : En} {us : List Value} {ps : List (D × PyData)} (h : EachIs (RIt E ad H) us (ps.mergeSort (dataLe false fun b : D × PyData => b.2))) : ∃ ws, Vals ws us ∧ RDs E ad H ((isort leP ps).map (·.1)) ws := by
  rw [srt_eq] at h
  exact of_each h
theorem each_mono {α β : Type} {R R' : α → β → Prop} (k : ∀ a b, R a b → R' a b) {as : List α} {bs : List β} (h : EachIs R as bs) : EachIs R' as bs := h.mono k
/-- sorted(x) of a list, a dict -/
def itsOf (hp : Hd) (n : Nat) : Option (List D) := match lstOf hp n with
  | some ds => some ds
  | none => (match dicOf hp n with
    | some kvs => some (kvs.map (·.1))
    | none => none)
def sortF : Fn
  | [.ref n], hp => (match itsOf hp n with
    | some ds => if ds.length ≤ big then (match sortD hp ds with
      | some out => some (.ref hp.n, hp.push (.lst out))
      | none => none) else none
    | none => none)
  | _, _ => none
theorem call_sortF (hc : X.calm = true) (hu : X.A.units + 64 < cLine) : CallR X (.builtin "sorted") (rC (en X) sortF) := by
  intro pins s σ H xs us Q I r ⟨ad, hp, ds, d, hp', hr, k, e, q⟩
  unfold sortF at e
  split at e
  case h_2 => cases e
  rename_i n
  split at e
  case h_2 => cases e
  rename_i items ei
  split at e
  case isFalse => cases e
  rename_i hz
  unfold sortD at e
  split at e
  case h_2 => cases e
  rename_i out eo
  split at eo
  case h_2 => cases eo
  rename_i ps ep
  split at eo
  case isFalse => cases eo
  rename_i hok
  obtain ⟨h1, h2, h3⟩ := hok
  cases eo
  cases e
  obtain ⟨v, rfl, k1⟩ := k.one
  obtain ⟨a, rfl, ha⟩ := k1.r
  obtain ⟨u, rfl, ru⟩ := r.one
  cases (show u = Value.ref a from ru)
  have hdep : ∀ c : Nat, c ≤ 3 → ∀ b, b ∈ ps → X.A.units + c + (b : D × PyData).2.depth < cLine := fun c hc b hb => by
    have := List.all_eq_true.mp h3 b hb
    simp at this
    omega
  have hpl : ∀ {ds : List D} {ps : List (D × PyData)}, pairD hp ds = some ps → ps.length = ds.length := fun {ds} => by
    induction ds with
    | nil => intro ps e; cases e; rfl
    | cons d ds ih =>
      intro ps e
      rw [pairD] at e
      split at e
      · rename_i e1 e2; cases e; rw [List.length_cons, List.length_cons, ih e2]
      · cases e
  have hpz : ps.length ≤ sizeLine := by rw [hpl ep]; exact big_ok hz
  have fin : ∀ {s : Shared} {h' : Heap} {A : Addr} {c t : Nat} {o : List Value}, Inv X pins σ H s → (∀ b u, s.heap.get? b = some u → h'.get? b = some u) → s.heap.objs.size ≤ A → h'.get? A = some (seqObj "list" o.toArray c) → EachIs (RIt (en X) ad H) o (ps.mergeSort (dataLe false fun b : D × PyData => b.2)) → EP X pins σ Q (.ref A) { s with heap := h', toks := t } := fun {s h' A c t o} I kp hA hg he => by
    obtain ⟨ws, rv, rd⟩ := each_out he
    have hl : ws.length ≤ sizeLine := by rw [← rd.length, List.length_map, isort_len]; exact hpz
    exact ⟨.ref A, _, I.laid (o := .lst ws) (t' := t) kp hA ⟨hl, o, c, rv, hg⟩, rfl, lst_new hr (I.hok.fresh hA) rd q⟩
  unfold itsOf at ei
  split at ei
  · rename_i ds hls
    cases ei
    obtain ⟨ws, hq, rd⟩ := hr.lstR hls ha
    obtain ⟨its, rv, pl, _⟩ := I.list hq
    obtain ⟨g1, g2, _⟩ := each_of I hr rd rv ep
    refine PySem.W.sorted_data (bs := ps) (enc := fun b : D × PyData => b.2) pl.isList g1 g2 (alB_ok h1) (srtB_ok h2) hpz (hdep 2 (by omega)) fun o ol he => ?_
    obtain ⟨c, hg⟩ := sortedAll_at s.heap its o.toArray
    exact fin (t := s.toks) I (fun b u e => sortedAll_old e) (Nat.le_succ _) hg he
  · split at ei
    case h_2 => cases ei
    rename_i kvs ed
    cases ei
    obtain ⟨vs, hq, z, sy, pr, ko⟩ := hr.dicR ed ha
    obtain ⟨es, ep2, raw, hsz, ent⟩ := dc_entries (dic_raw I hq)
    have hl := pr.len
    refine PySem.Calls.call_function_entry kind_sorted plain_sorted entry_sorted (args_sorted1 _) ?_
    unfold Builtin.«sorted»
    refine wpAny_bind (m := checkCount "sorted" 1 1 _) (wpAny_pure ?_)
    refine wpAny_bind (PySem.W.kdu_collect (A := X.A.in1) (KdlSrc.rawDict (ep := ep2) sy) (I.ok.hd hc) raw (by omega) fun h' tk acc kp it => ?_)
    have rv : Vals (vs.map (·.1)) acc.toList := vals_at (by rw [List.length_map, al acc, it.1, hsz]) fun j w y e1 e2 => by
      rw [List.getElem?_map] at e1
      obtain ⟨p, hp, rfl⟩ := Option.map_eq_some_iff.mp e1
      obtain ⟨hi, rfl⟩ := it.2 j y (by rw [← Array.getElem?_toList]; exact e2)
      exact (ent j p hi hp).1
    have hacc : acc.toList.length ≤ sizeLine := by rw [al acc, it.1, hsz, ← hl]; exact z
    refine wpAny_bind (wpAny_newList ?_ hacc)
    have gS := each_of (I.kept (h' := h') (t' := tk) kp) hr (vals_keys pr).1 rv ep
    have er : EachIs (fun v (b : D × PyData) => ∃ as, Reads (h'.push { cls := .type "list", data := .seq acc.toList.toArray }) v b.2 as ∧ h'.objs.size ∉ as) acc.toList ps := each_mono (fun v b ⟨as, z⟩ => ⟨as, PyProof.Rows.Reads.keeps (fun _ _ q => Heap.get?_push_of_some _ q) z, fun m => Nat.lt_irrefl _ (reads_lt z _ m)⟩) gS.2.1
    refine wpAny_bind (wpAny_holding (PySem.W.list_sort_data (s := { s with heap := h'.push { cls := .type "list", data := .seq acc.toList.toArray }, toks := tk }) (A := X.A.in1) (n := 0) (bs := ps) (enc := fun b : D × PyData => b.2) (Heap.get?_push_size _ rfl) gS.1 er (alB_ok h1) (srtB_ok h2) hpz (fun b hb => by rw [Around.in1_units]; exact hdep 2 (by omega) b hb) fun o ol he => wpAny_pure ⟨_, rfl, ?_⟩))
    obtain ⟨c, hg⟩ := sortedHeap_at (h := h'.push { cls := .type "list", data := .seq acc.toList.toArray }) (a := h'.objs.size) (vs := acc.toList) (n := 0) (out := o.toArray) (Heap.get?_push_size _ rfl)
    refine fin (s := { s with heap := h', toks := tk }) (t := tk) (I.kept kp) (fun b u e => ?_) (Nat.le_refl _) hg he
    have hlt := Heap.lt_size e
    rw [sortedHeap_old (Nat.ne_of_lt hlt) (by rw [Heap.size_push]; exact Nat.lt_succ_of_lt hlt)]
    exact Heap.get?_push_of_some _ e
end
end DL
namespace DL
open PySem PySem.Spec PyProof.Rows L2

def putFD (f : Str) (d : D) : List (Str × D) → List (Str × D)
  | [] => [(f, d)]
  | (g, x) :: r => if g = f then (g, d) :: r else (g, x) :: putFD f d r
theorem lookup_putFD (f g : Str) (d : D) : ∀ fs : List (Str × D), (putFD f d fs).lookup g = if g = f then some d else fs.lookup g
  | [] => by
    by_cases h : g = f
    · subst h; simp [putFD, List.lookup]
    · have : (g == f) = false := by simpa using h
      simp [putFD, List.lookup, h, this]
  | (k, x) :: r => by
    have ih := lookup_putFD f g d r
    rw [putFD]
    by_cases hk : k = f
    · rw [if_pos hk]
      subst hk
      by_cases h : g = k
      · subst h; simp [List.lookup]
      · have : (g == k) = false := by simpa using h
        simp [List.lookup, h, this]
    · rw [if_neg hk]
      by_cases h : g = k
      · subst h
        have : ¬ g = f := hk
        simp [List.lookup, this]
      · have hb : (g == k) = false := by simpa using h
        simp only [List.lookup, hb]
        exact ih
theorem length_putFD (f : Str) (d : D) (v : V) : ∀ {fs : List (Str × D)} {gs : List (Str × V)}, gs.length = fs.length → ((fs.lookup f).isSome = (gs.lookup f).isSome) → (putF f v gs).length = (putFD f d fs).length := by
  have go : ∀ (gs : List (Str × V)), (putF f v gs).length = gs.length + (if (gs.lookup f).isSome = true then 0 else 1) := fun gs => by
    induction gs with
    | nil => rfl
    | cons p r ih =>
      obtain ⟨k, x⟩ := p
      by_cases hk : k = f
      · subst hk
        simp [putF, List.lookup]
      · have hb : (f == k) = false := by simpa using fun z => hk z.symm
        simp only [putF, if_neg hk, List.length_cons, List.lookup, hb, ih]
        omega
  have go2 : ∀ (fs : List (Str × D)), (putFD f d fs).length = fs.length + (if (fs.lookup f).isSome = true then 0 else 1) := fun fs => by
    induction fs with
    | nil => rfl
    | cons p r ih =>
      obtain ⟨k, x⟩ := p
      by_cases hk : k = f
      · subst hk
        simp [putFD, List.lookup]
      · have hb : (f == k) = false := by simpa using fun z => hk z.symm
        simp only [putFD, if_neg hk, List.length_cons, List.lookup, hb, ih]
        omega
  intro fs gs h1 h2
  rw [go, go2, h1, h2]
section
variable {E : En} {ad : List Addr} {H : Hp} {hp : Hd} {a b C dx : Addr} {n : Nat}
theorem OR.nsd {o : O} {w : HO} {c : Addr} (h : OR E ad H a o) (sd : Sd c w) : H a ≠ some w := fun e => by
  have go : ∀ {o u}, HI E ad H a o u → H a = some u → False := fun {o u} hi e' => by
    rw [e] at e'
    cases e'
    exact sd.stays hi.mut
  cases o with
  | lk o =>
    obtain ⟨ob, u, e', _⟩ := h
    rw [e] at e'
    cases e'
    rcases sd with z | z <;> cases z
  | lst _ => obtain ⟨u, e', hi⟩ := h; exact go hi e'
  | dic _ => obtain ⟨u, e', hi⟩ := h; exact go hi e'
  | ins _ _ => obtain ⟨u, e', hi⟩ := h; exact go hi e'
  | slt _ _ => obtain ⟨u, e', hi⟩ := h; exact go hi e'
/-- a slot is set -/
theorem HR.slot {c f : Str} {fs : List (Str × D)} {d : D} {v : V} {vs : List (Option V)} {u : HO} {i : Nat} {p : Addr} (hr : HR E ad H hp) (ha : ad[n]? = some a) (hu : H a = some u) (hm : E.mg c = some (.ref C)) (hs : (u = .ins C dx [] ∧ vs = [] ∧ H dx = some (.own a)) ∨ (u = SlX.SlO a C dx vs ∧ H dx = some (.xd [])))
    (hf : ∀ f d, fs.lookup f = some d → ∃ i p v, SlX.Slot1 E.K C f p i ∧ vs[i]? = some (some v) ∧ RD E ad H d v) (k : SlX.Slot1 E.K C f p i) (ot : ∀ g d j q, fs.lookup g = some d → SlX.Slot1 E.K C g q j → g ≠ f → j ≠ i) (rd : RD E ad H d v) :
    Ex E H (SlX.slH H a C dx (SlX.putS i v vs)) ∧ HR E ad (SlX.slH H a C dx (SlX.putS i v vs)) (hp.set n (.slt c (putFD f d fs))) := by
  have sdx : ∃ w, Sd a w ∧ H dx = some w := by
    rcases hs with ⟨_, _, z⟩ | ⟨_, z⟩
    · exact ⟨_, .inl rfl, z⟩
    · exact ⟨_, .inr rfl, z⟩
  obtain ⟨w, sw, hw⟩ := sdx
  have mu : Mut (some u) := by rcases hs with ⟨rfl, _⟩ | ⟨rfl, _⟩ <;> exact True.intro
  have nad : dx ≠ a := fun z => by
    subst z
    rw [hu] at hw
    cases hw
    exact sw.stays mu
  have off : ∀ b o, H b = some o → b ≠ a → b ≠ dx → SlX.slH H a C dx (SlX.putS i v vs) b = some o := fun b o e h1 h2 => by rw [SlX.slH_ne h1 h2]; exact e
  have nt : ∀ b o, H b = some o → ¬ Mut (some o) → (∀ y, o ≠ .own y) → o ≠ .xd [] → b ≠ a ∧ b ≠ dx := fun b o e h1 h2 h3 => by
    refine ⟨fun z => ?_, fun z => ?_⟩
    · subst z; rw [hu] at e; cases e; exact h1 mu
    · subst z; rw [hw] at e; cases e
      rcases sw with y | y
      · exact h2 _ y
      · exact h3 y
  have x : Ex E H (SlX.slH H a C dx (SlX.putS i v vs)) := by
    refine ⟨fun b xs q => ?_, fun b o y e => ?_⟩
    · rcases q with (q | ⟨o, q⟩) | q
      · obtain ⟨n1, n2⟩ := nt b _ q (fun z => z) (fun _ z => nomatch z) (fun z => nomatch z)
        exact .inl (.inl (off b _ q n1 n2))
      · obtain ⟨n1, n2⟩ := nt b _ q (fun z => z) (fun _ z => nomatch z) (fun z => nomatch z)
        exact .inl (.inr ⟨o, off b _ q n1 n2⟩)
      · exact .inr q
    · obtain ⟨n1, n2⟩ := nt b _ e (fun z => z) (fun _ z => nomatch z) (fun z => nomatch z)
      exact off b _ e n1 n2
  have tb : TabsX E ad (SlX.slH H a C dx (SlX.putS i v vs)) := hr.tab.keep (fun b m => .inl m) (fun b ps e => by
    obtain ⟨n1, n2⟩ := nt b _ e (fun z => z) (fun _ z => nomatch z) (fun z => nomatch z)
    exact off b _ e n1 n2) fun b φ e nm => by
    refine off b _ e (fun z => nm (by rw [z]; exact List.mem_of_getElem? ha)) fun z => ?_
    subst z
    rw [hw] at e
    cases e
    exact sw.stays True.intro
  refine ⟨x, hr.len, hr.nd, fun j b ej => ?_, tb⟩
  by_cases hj : j = n
  · subst hj
    rw [ha] at ej
    cases ej
    refine ⟨_, Hd.get_set_same _ _ _, SlX.SlO a C dx (SlX.putS i v vs), upd_same, C, dx, _, hm, .inr ⟨rfl, ?_⟩, fun g d' l => ?_⟩
    · show upd (upd H dx (.xd [])) a _ dx = _
      rw [upd_ne nad, upd_same]
    · rw [lookup_putFD] at l
      by_cases hg : g = f
      · rw [if_pos hg] at l
        cases l
        subst hg
        exact ⟨i, p, v, k, SlX.putS_get i v vs, rd.mono x (List.prefix_refl _)⟩
      · rw [if_neg hg] at l
        obtain ⟨i', p', v', k', l', r'⟩ := hf g d' l
        exact ⟨i', p', v', k', (SlX.putS_ne (ot g d' i' p' l k' hg)).mpr l', r'.mono x (List.prefix_refl _)⟩
  · obtain ⟨o', e1, r1⟩ := hr.ob j b ej
    have ne : b ≠ a := fun z => by
      subst z
      exact hj ((List.getElem_inj hr.nd).mp ((List.getElem?_eq_some_iff.mp ej).2.trans (List.getElem?_eq_some_iff.mp ha).2.symm))
    have nd : b ≠ dx := fun z => by subst z; exact r1.nsd sw hw
    refine ⟨o', by rw [Hd.get_set_ne _ _ hj]; exact e1, r1.mono x (List.prefix_refl _) (SlX.slH_ne ne nd) fun c' o2 sd e2 => ?_⟩
    by_cases z : c' = dx
    · subst z
      rw [hw] at e2
      cases e2
      show upd (upd H c' (.xd [])) a _ c' = _
      rw [upd_ne nad, upd_same]
      rcases sd with y | y
      · rcases sw with y2 | y2
        · rw [y] at y2; injection y2 with y2; exact (ne y2).elim
        · rw [y2]
      · rw [y]
    · refine off c' o2 e2 (fun y => ?_) z
      subst y
      rw [hu] at e2
      cases e2
      exact sd.stays mu
end
section
variable {X : Cx} {e o value : Expr} {f : Str} {pos pos' : Pos} {me mo mv : M D}
def FldS (X : Cx) (f c : Str) : Prop := ∃ C p i, X.mg c = some (.ref C) ∧ SlX.SCls X.K C ∧ SlX.Slot1 X.K C f p i
def FldD (X : Cx) (f c : Str) : Prop := ∃ C, X.mg c = some (.ref C) ∧ Cls X.K C ∧ NoAttr X.K C f
def attrD (cs ds : List Str) (f : Str) : D → Hd → Option (D × Hd)
  | .ref n, hp => (match hp.get n with
    | some (.slt c fs) => if cs.contains c = true then (fs.lookup f).map fun d => (d, hp) else none
    | some (.ins c fs) => if ds.contains c = true then (fs.lookup f).map fun d => (d, hp) else none
    | _ => none)
  | _, _ => none
theorem slot_only {K : PySem.W.Frag} {C p p' : Addr} {i i' : Nat} (h : SlX.Slot1 K C f p i) (h' : SlX.Slot1 K C f p' i') : i = i' := by
  have e := h.at_.symm.trans h'.at_
  cases e
  have e2 := h.ix.symm.trans h'.ix
  cases e2
  rfl
theorem slt_H {ad : List Addr} {H : Hp} {a C dx : Addr} {vs : List (Option V)} {u : HO} (hu : H a = some u) (hs : (u = .ins C dx [] ∧ vs = [] ∧ H dx = some (.own a)) ∨ (u = SlX.SlO a C dx vs ∧ H dx = some (.xd []))) : SlX.Slt H a C dx vs := by
  rcases hs with ⟨rfl, rfl, _⟩ | ⟨rfl, h⟩
  · exact .inl ⟨hu, rfl⟩
  · exact .inr ⟨hu, h⟩
theorem le_attr {cs ds : List Str} (hcs : ∀ c ∈ cs, FldS X f c) (hds : ∀ c ∈ ds, FldD X f c) (he : PE X e (rE (en X) me)) (hb : attributeBase e f X.env (eval e X.env) = eval e X.env := by rfl) : PE X (.Attribute e f pos) (rE (en X) (mU (attrD cs ds f) me)) := by
  refine ⟨fun pins s σ H Q I h => ?_⟩
  obtain ⟨ρ, hp, ad, d, hp', st, e0, q⟩ := h
  obtain ⟨d1, h1, e1, e2⟩ := bnd_inv e0
  refine attr_of hb (thn (he.run pins s σ H (fun x H1 => ∃ ad1, Ex (en X) H H1 ∧ ad <+: ad1 ∧ HR (en X) ad1 H1 h1 ∧ RD (en X) ad1 H1 d1 x) I ⟨ρ, hp, ad, d1, h1, st, e1, fun v H' ad' x p r k => ⟨ad', x, p, r, k⟩⟩) fun u s1 ⟨x, H1, I1, r1, ad1, x1, p1, hr1, k1⟩ => ?_)
  simp only [lft, attrD] at e2
  split at e2
  case h_2 => cases e2
  rename_i n
  obtain ⟨a, rfl, ha⟩ := k1.r
  cases (show u = Value.ref a from r1)
  split at e2
  · rename_i c fs eg
    split at e2
    case isFalse => cases e2
    rename_i hc
    obtain ⟨dv, el, ee⟩ := Option.map_eq_some_iff.mp e2
    cases ee
    obtain ⟨C, p, i, g1, g2, g3⟩ := hcs c (by simpa using hc)
    obtain ⟨uo, eu, C', dx, vs, h3, h4, h5⟩ := hr1.at_ ha eg
    have := g1.symm.trans h3
    cases this
    obtain ⟨i', p', v, k', l, rd⟩ := h5 f _ el
    have ei := slot_only g3 k'
    subst ei
    exact SlX.getslot_ok I1 (slt_H (ad := ad1) eu h4) g2 g3 l fun u' s2 I2 ru => ⟨v, H1, I2, ru, (q.next x1 p1).here hr1 rd⟩
  · rename_i c fs eg
    split at e2
    case isFalse => cases e2
    rename_i hc
    obtain ⟨dv, el, ee⟩ := Option.map_eq_some_iff.mp e2
    cases ee
    obtain ⟨C, g1, g2, g3⟩ := hds c (by simpa using hc)
    obtain ⟨uo, eu, C', dx, gs, h3, rfl, hl, h5⟩ := hr1.at_ ha eg
    have := g1.symm.trans h3
    cases this
    have hf := h5 f
    rw [el] at hf
    obtain ⟨v, lv, rd⟩ := hf
    exact getattr_ok I1 eu g2 g3 lv fun u' s2 I2 ru => ⟨v, H1, I2, ru, (q.next x1 p1).here hr1 rd⟩
  · cases e2
/-- o.f = value, a slot | an attribute -/
def setD (c f : Str) (fl : List Str) (d : D) : D → Hd → Option Hd
  | .ref n, hp => (match hp.get n with
    | some (.slt c' fs) => if c' = c ∧ (fs.all fun p => fl.contains p.1) = true then some (hp.set n (.slt c (putFD f d fs))) else none
    | _ => none)
  | _, _ => none
def setI (c f : Str) (d : D) : D → Hd → Option Hd
  | .ref n, hp => (match hp.get n with
    | some (.ins c' fs) => if c' = c ∧ fs.length < 900 then some (hp.set n (.ins c (putFD f d fs))) else none
    | _ => none)
  | _, _ => none
def sAtt (st : D → D → Hd → Option Hd) (mo mv : M D) : S := fun ρ hp => match mv ρ hp with
  | some (d, h1) => (match mo ρ h1 with
    | some (o, h2) => (match st d o h2 with
      | some h3 => some (.nx, ρ, h3)
      | none => none)
    | none => none)
  | none => none
theorem mem_lookup {fs : List (Str × D)} {g : Str} {d : D} : fs.lookup g = some d → ∃ p ∈ fs, p.1 = g := by
  induction fs with
  | nil => intro h; cases h
  | cons p r ih =>
    intro h
    rw [List.lookup] at h
    split at h
    · rename_i e; exact ⟨p, List.mem_cons_self, by simpa using (beq_iff_eq.mp e).symm⟩
    · obtain ⟨p', m, e⟩ := ih h
      exact ⟨p', List.mem_cons_of_mem _ m, e⟩
theorem ls_slot {c : Str} {fl : List Str} (hc : ∃ C p i, X.mg c = some (.ref C) ∧ SlX.SCls X.K C ∧ SlX.Slot1 X.K C f p i ∧ ∀ g ∈ fl, g ≠ f → ∃ q j, SlX.Slot1 X.K C g q j ∧ j ≠ i) (ho : PE X o (rE (en X) mo)) (hv : PE X value (rE (en X) mv)) (hs : swapsWith value (some (.Attribute o f pos')) pos.line X.env = pure false := by rfl) :
    PS X (.Assign [.Attribute o f pos'] value pos) (rS (en X) (sAtt (setD c f fl) mo mv)) := by
  refine PS.mono (SlX.ps_sl ho hv hs) fun Dn σ H h => ?_
  obtain ⟨ρ, hp, ad, fl', ρ', hp', st, e, q⟩ := h
  unfold sAtt at e
  split at e
  case h_2 => cases e
  rename_i d h1 e1
  split at e
  case h_2 => cases e
  rename_i od h2 e2
  split at e
  case h_2 => cases e
  rename_i h3 e3
  cases e
  refine ⟨ρ, hp, ad, d, h1, st, e1, fun y H1 ad1 x1 p1 r1 k1 => ⟨ρ, h1, ad1, od, h2, st.next x1 p1 r1, e2, fun x H2 ad2 x2 p2 r2 k2 => ?_⟩⟩
  unfold setD at e3
  split at e3
  case h_2 => cases e3
  rename_i n
  split at e3
  case h_2 => cases e3
  rename_i c' fs eg
  split at e3
  case isFalse => cases e3
  rename_i hcc
  obtain ⟨rfl, hall⟩ := hcc
  cases e3
  obtain ⟨a, rfl, ha⟩ := k2.r
  obtain ⟨C, p, i, g1, g2, g3, g4⟩ := hc
  obtain ⟨uo, eu, C', dx, vs, h4, h5, h6⟩ := r2.at_ ha eg
  have := g1.symm.trans h4
  cases this
  obtain ⟨x3, r3⟩ := HR.slot (f := f) (d := d) (v := y) (p := p) (i := i) (c := c') r2 ha eu h4 h5 h6 g3 (fun g d' j q l kj hg => by
    obtain ⟨pp, mm, ee⟩ := mem_lookup l
    have := List.all_eq_true.mp hall pp mm
    rw [ee] at this
    obtain ⟨q', j', kj', hne⟩ := g4 g (by simpa using this) hg
    rw [slot_only kj kj']
    exact hne) (k1.mono x2 p2)
  exact ⟨a, C, dx, p, vs, i, rfl, slt_H (ad := ad2) eu h5, g2, g3, q σ _ ad2 ((x1.trans x2).trans x3) (p1.trans p2) ((st.next (x1.trans x2) (p1.trans p2) r2).next x3 (List.prefix_refl _) r3)⟩
theorem ls_fld {c : Str} (hc : FldD X f c) (ho : PE X o (rE (en X) mo)) (hv : PE X value (rE (en X) mv)) (hs : swapsWith value (some (.Attribute o f pos')) pos.line X.env = pure false := by rfl) :
    PS X (.Assign [.Attribute o f pos'] value pos) (rS (en X) (sAtt (setI c f) mo mv)) := by
  refine PS.mono (ps_fld ho hv hs) fun Dn σ H h => ?_
  obtain ⟨ρ, hp, ad, fl', ρ', hp', st, e, q⟩ := h
  unfold sAtt at e
  split at e
  case h_2 => cases e
  rename_i d h1 e1
  split at e
  case h_2 => cases e
  rename_i od h2 e2
  split at e
  case h_2 => cases e
  rename_i h3 e3
  cases e
  refine ⟨ρ, hp, ad, d, h1, st, e1, fun y H1 ad1 x1 p1 r1 k1 => ⟨ρ, h1, ad1, od, h2, st.next x1 p1 r1, e2, fun x H2 ad2 x2 p2 r2 k2 => ?_⟩⟩
  unfold setI at e3
  split at e3
  case h_2 => cases e3
  rename_i n
  split at e3
  case h_2 => cases e3
  rename_i c' fs eg
  split at e3
  case isFalse => cases e3
  rename_i hcc
  obtain ⟨rfl, hlen⟩ := hcc
  cases e3
  obtain ⟨a, rfl, ha⟩ := k2.r
  obtain ⟨C, g1, g2, g3⟩ := hc
  obtain ⟨uo, eu, C', dx, gs, h4, rfl, hl, h6⟩ := r2.at_ ha eg
  have := g1.symm.trans h4
  cases this
  have x3 : Ex (en X) H2 (upd H2 a (.ins C dx (putF f y gs))) := .mut eu True.intro
  have lk : (fs.lookup f).isSome = (gs.lookup f).isSome := by
    have := h6 f
    cases z : fs.lookup f with
    | none => rw [z] at this; rw [this]; rfl
    | some d' => rw [z] at this; obtain ⟨v, e, _⟩ := this; rw [e]; rfl
  have r3 : HR (en X) ad2 (upd H2 a (.ins C dx (putF f y gs))) (h2.set n (.ins c' (putFD f d fs))) := by
    refine r2.set ha eu True.intro ⟨_, upd_same, C, dx, _, h4, rfl, length_putFD f d y hl lk, fun g => ?_⟩
    rw [lookup_putFD, lookup_putF]
    by_cases hg : g = f
    · rw [if_pos hg, if_pos hg]
      exact ⟨y, rfl, (k1.mono x2 p2).mono x3 (List.prefix_refl _)⟩
    · rw [if_neg hg, if_neg hg]
      have := h6 g
      cases z : fs.lookup g with
      | none => rw [z] at this; exact this
      | some d' => rw [z] at this; obtain ⟨v, e, rd⟩ := this; exact ⟨v, e, rd.mono x3 (List.prefix_refl _)⟩
  exact ⟨a, C, dx, gs, rfl, eu, g2, g3, by omega, q σ _ ad2 ((x1.trans x2).trans x3) (p1.trans p2) ((st.next (x1.trans x2) (p1.trans p2) r2).next x3 (List.prefix_refl _) r3)⟩
end
theorem fnR_of {P : Program} {w : World} {K : PySem.W.Frag} {mg : Str → Option Value} {base : Heap} {CX : CXT} {k : Nat} {f : Addr} {fd : FuncData} {ps : List Str} {sp : Sp} (F : FnOk P w K mg base CX k f fd ps sp) (hb : Binds K fd ps []) : FnR P w K mg base CX k f sp :=
  fun A outer s H us vs Q E hr e0 r hs => by
    have hl : (us ++ []).length = ps.length := by rw [List.append_nil, ← r.length]; exact F.len _ _ _ _ hs
    have hB := hb s us (fun a o e => (e0.bs a o (e0.mod.kin a o e)).1) hl
    rw [List.append_nil] at hB
    exact F.run A outer s H ⟨us, []⟩ us vs Q E hr e0 hB r hs
section
variable {X : Cx} {k : Nat} {C f : Addr} {fd : FuncData} {ps : List Str} {F : List D → Hd → Option (D × Hd)} {x m : Str} {p pos apos : Pos} {e o : Expr} {es : List Expr} {ms : M (List D)} {mo : M D}
def mMake (sl : Bool) (c : Str) (F : List D → Hd → Option (D × Hd)) (ms : M (List D)) : M D := bnd ms fun ds => lft fun hp =>
  match F (.ref hp.n :: ds) (hp.push (if sl = true then .slt c [] else .ins c [])) with
  | some (.non, h) => some (.ref hp.n, h)
  | _ => none
theorem make_st {sl : Bool} {ds : List D} {vs : List V} {H : Hp} {Q : VK} {ad : List Addr} {hp h : Hd} (hm : X.mg x = some (.ref C)) (hr : HR (en X) ad H hp) (k : RDs (en X) ad H ds vs) (e : F (.ref hp.n :: ds) (hp.push (if sl = true then .slt x [] else .ins x [])) = some (.non, h)) (q : PostE (en X) ad H (.ref hp.n) h Q) :
    ∀ a dx, H a = none → H dx = none → dx ≠ a → spM X.prog X.w X.K X.mg F (.ref a :: (vs ++ [])) (upd (upd H dx (.own a)) a (.ins C dx [])) (fun v H2 => v = .non ∧ Q (.ref a) H2) E0 := by
  intro a dx na nd ne
  have x1 : Ex (en X) H (upd H dx (.own a)) := .new nd
  have r1 := hr.aside (o := .own a) nd
  have na1 : upd H dx (.own a) a = none := by rw [upd_ne (Ne.symm ne)]; exact na
  have x2 : Ex (en X) (upd H dx (.own a)) (upd (upd H dx (.own a)) a (.ins C dx [])) := .new na1
  have hdx : upd (upd H dx (.own a)) a (.ins C dx []) dx = some (.own a) := by rw [upd_ne ne, upd_same]
  have r2 : HR (en X) (ad ++ [a]) (upd (upd H dx (.own a)) a (.ins C dx [])) (hp.push (if sl = true then .slt x [] else .ins x [])) := by
    refine r1.push na1 ?_
    cases sl with
    | true => exact ⟨_, upd_same, C, dx, [], hm, .inl ⟨rfl, rfl, hdx⟩, fun f d l => by cases l⟩
    | false => exact ⟨_, upd_same, C, dx, [], hm, rfl, rfl, fun f => rfl⟩
  have ra : ∀ ad' H', (ad ++ [a]) <+: ad' → RD (en X) ad' H' (.ref hp.n) (.ref a) := fun ad' H' pr => by
    rw [RD]
    obtain ⟨t, rfl⟩ := pr
    refine ⟨a, rfl, ?_⟩
    rw [List.getElem?_append_left (by rw [← hr.len]; simp), ← hr.len]
    simp
  rw [List.append_nil]
  refine ⟨ad ++ [a], _, .ref hp.n :: ds, .non, h, r2, .cons (ra _ _ (List.prefix_refl _)) (k.mono (x1.trans x2) (List.prefix_append _ _)), e, fun v H3 ad3 x3 p3 r3 k3 => ⟨k3.n, q _ H3 ad3 ((x1.trans x2).trans x3) ((List.prefix_append _ _).trans p3) r3 (ra ad3 H3 p3)⟩⟩
theorem le_make {sl : Bool} (M : Mk X.K C f) (G : FnOk X.prog X.w X.K X.mg X.base CX0 k f fd ps (spM X.prog X.w X.K X.mg F)) (hr : Room (k + 1) X.A) (hg : Gl X x) (hm : X.mg x = some (.ref C)) (hb : Binds X.K fd ps []) (ha : PA X (e :: es) (rA (en X) ms)) (hdb : (x == ("__debug__" : Str)) = false := by decide)
    (he : starEach (e :: es) X.env = (false, eval e X.env) :: starEach es X.env := by rfl) (hpl : (backTo pos (starEach es X.env)).any (·.1) = false := by rfl) : PE X (.Call (.Name x p) (e :: es) [] pos) (rE (en X) (mMake sl x F ms)) := by
  refine PE.mono (pe_make M G hr hg hm hb .nil pass0 ha hdb he hpl) fun σ H Q h => ?_
  obtain ⟨ρ, hp, ad, d, hp', st, e, q⟩ := h
  obtain ⟨ds, h1, e1, e2⟩ := bnd_inv e
  simp only [lft] at e2
  split at e2
  case h_2 => cases e2
  rename_i h2 e3
  cases e2
  exact ⟨ρ, hp, ad, ds, h1, st, e1, fun vs H1 ad1 x1 p1 r1 k1 => make_st hm r1 k1 e3 (q.next x1 p1)⟩
def mMS (c : Str) (F : List D → Hd → Option (D × Hd)) (mo : M D) (ms : M (List D)) : M D := bnd mo fun o ρ hp => match o with
  | .ref n => (match hp.get n with
    | some (.slt c' _) => if c' = c then bnd ms (fun ds => lft (F (.ref n :: ds))) ρ hp else none
    | _ => none)
  | _ => none
def mMI (c m : Str) (F : List D → Hd → Option (D × Hd)) (mo : M D) (ms : M (List D)) : M D := bnd mo fun o ρ hp => match o with
  | .ref n => (match hp.get n with
    | some (.ins c' fs) => if c' = c ∧ (fs.lookup m).isNone = true then bnd ms (fun ds => lft (F (.ref n :: ds))) ρ hp else none
    | _ => none)
  | _ => none
theorem rE_mMS {c : Str} {σ : L2.St} {H : Hp} {Q : VK} (hc : X.mg c = some (.ref C)) (h : rE (en X) (mMS c F mo ms) σ H Q) : SlX.tMethSl C (spM X.prog X.w X.K X.mg F) E0 (rE (en X) mo) (rA (en X) ms) σ H Q := by
  obtain ⟨ρ, hp, ad, d, hp', st, e, q⟩ := h
  obtain ⟨o1, h1, e1, e2⟩ := bnd_inv e
  refine ⟨ρ, hp, ad, o1, h1, st, e1, fun v H1 ad1 x1 p1 r1 k1 => ?_⟩
  split at e2
  case h_2 => cases e2
  rename_i n
  split at e2
  case h_2 => cases e2
  rename_i c' fs eg
  split at e2
  case isFalse => cases e2
  rename_i ec
  subst ec
  obtain ⟨ds, h2, e3, e4⟩ := bnd_inv e2
  obtain ⟨a, rfl, ha⟩ := k1.r
  obtain ⟨uo, eu, C', dx, vs, h4, h5, h6⟩ := r1.at_ ha eg
  have := hc.symm.trans h4
  cases this
  refine ⟨a, dx, vs, rfl, slt_H (ad := ad1) eu h5, ρ, h1, ad1, ds, h2, st.next x1 p1 r1, e3, fun ws H2 ad2 x2 p2 r2 k2 => ?_⟩
  exact ⟨ad2, h2, .ref n :: ds, d, hp', r2, .cons (k1.mono x2 p2) k2, e4, q.next (x1.trans x2) (p1.trans p2)⟩
theorem rE_mMI {c : Str} {σ : L2.St} {H : Hp} {Q : VK} (hc : X.mg c = some (.ref C)) (h : rE (en X) (mMI c m F mo ms) σ H Q) : tMeth C m (spM X.prog X.w X.K X.mg F) [] E0 (rE (en X) mo) (rA (en X) ms) σ H Q := by
  obtain ⟨ρ, hp, ad, d, hp', st, e, q⟩ := h
  obtain ⟨o1, h1, e1, e2⟩ := bnd_inv e
  refine ⟨ρ, hp, ad, o1, h1, st, e1, fun v H1 ad1 x1 p1 r1 k1 => ?_⟩
  split at e2
  case h_2 => cases e2
  rename_i n
  split at e2
  case h_2 => cases e2
  rename_i c' fs eg
  split at e2
  case isFalse => cases e2
  rename_i ec
  obtain ⟨rfl, en⟩ := ec
  obtain ⟨ds, h2, e3, e4⟩ := bnd_inv e2
  obtain ⟨a, rfl, ha⟩ := k1.r
  obtain ⟨uo, eu, C', dx, gs, h4, rfl, hl, h6⟩ := r1.at_ ha eg
  have := hc.symm.trans h4
  cases this
  have hn : gs.lookup m = none := by
    have := h6 m
    rw [Option.isNone_iff_eq_none.mp en] at this
    exact this
  refine ⟨a, dx, gs, rfl, eu, hn, ρ, h1, ad1, ds, h2, st.next x1 p1 r1, e3, fun ws H2 ad2 x2 p2 r2 k2 => ?_⟩
  show spM X.prog X.w X.K X.mg F (V.ref a :: (ws ++ [])) H2 Q E0
  rw [List.append_nil]
  exact ⟨ad2, h2, .ref n :: ds, d, hp', r2, .cons (k1.mono x2 p2) k2, e4, q.next (x1.trans x2) (p1.trans p2)⟩
theorem rA_nil {σ : L2.St} {H : Hp} {Q : List V → Hp → Prop} (h : rA (en X) (pur []) σ H Q) : tNil σ H Q := by
  obtain ⟨ρ, hp, ad, ds, hp', st, e, q⟩ := h
  cases e
  exact q [] H ad .refl (List.prefix_refl _) st.h .nil
theorem le_methS {c : Str} {pl : Sem Bool} (ho : PE X o (rE (en X) mo)) (hc : X.mg c = some (.ref C)) (cl : SlX.SCls X.K C) (hm : Meth X.K C m f) (G : FnR X.prog X.w X.K X.mg X.base CX0 k f (spM X.prog X.w X.K X.mg F)) (hr : Room k X.A) (ha : PA X (e :: es) (rA (en X) ms))
    (hst : starEach (e :: es) X.env = (false, eval e X.env) :: starEach es X.env := by rfl) (hpl : (backTo pos (starEach es X.env)).any (·.1) = false := by rfl)
    (ht : eval (.Call (.Attribute o m apos) (e :: es) [] pos) X.env = (do
      let ov ← eval o X.env
      standAt apos.atName
      let (f, first) ← holding [ov] (getMethod ov m pl)
      callWith pos f first (backTo pos (starEach (e :: es) X.env)) (backToKw pos (keywordEach [] X.env))) := by rfl) :
    PE X (.Call (.Attribute o m apos) (e :: es) [] pos) (rE (en X) (mMS c F mo ms)) :=
  PE.mono (SlX.pe_methSl ho cl hm G hr pass0 ha hst hpl ht) fun σ H Q h => rE_mMS hc h
theorem le_methS0 {c : Str} {pl : Sem Bool} (ho : PE X o (rE (en X) mo)) (hc : X.mg c = some (.ref C)) (cl : SlX.SCls X.K C) (hm : Meth X.K C m f) (G : FnR X.prog X.w X.K X.mg X.base CX0 k f (spM X.prog X.w X.K X.mg F)) (hr : Room k X.A)
    (ht : eval (.Call (.Attribute o m apos) [] [] pos) X.env = (do
      let ov ← eval o X.env
      standAt apos.atName
      let (f, first) ← holding [ov] (getMethod ov m pl)
      callWith pos f first (backTo pos (starEach [] X.env)) (backToKw pos (keywordEach [] X.env))) := by rfl) :
    PE X (.Call (.Attribute o m apos) [] [] pos) (rE (en X) (mMS c F mo (pur []))) :=
  PE.mono (SlX.pe_methSl0 ho cl hm G hr pass0 ht) fun σ H Q h => by
    obtain ⟨ρ, hp, ad, d, hp', st, e, q⟩ := rE_mMS hc h
    refine ⟨ρ, hp, ad, d, hp', st, e, fun v H' ad' x p r k => ?_⟩
    obtain ⟨a, dx, vs, ev, sl, t⟩ := q v H' ad' x p r k
    exact ⟨a, dx, vs, ev, sl, rA_nil t⟩
theorem le_methI {c : Str} {pl : Sem Bool} (ho : PE X o (rE (en X) mo)) (hc : X.mg c = some (.ref C)) (cl : Cls X.K C) (hm : Meth X.K C m f) (G : FnOk X.prog X.w X.K X.mg X.base CX0 k f fd ps (spM X.prog X.w X.K X.mg F)) (hr : Room k X.A) (hb : Binds X.K fd ps []) (ha : PA X (e :: es) (rA (en X) ms))
    (hst : starEach (e :: es) X.env = (false, eval e X.env) :: starEach es X.env := by rfl) (hpl : (backTo pos (starEach es X.env)).any (·.1) = false := by rfl)
    (ht : eval (.Call (.Attribute o m apos) (e :: es) [] pos) X.env = (do
      let ov ← eval o X.env
      standAt apos.atName
      let (f, first) ← holding [ov] (getMethod ov m pl)
      callWith pos f first (backTo pos (starEach (e :: es) X.env)) (backToKw pos (keywordEach [] X.env))) := by rfl) :
    PE X (.Call (.Attribute o m apos) (e :: es) [] pos) (rE (en X) (mMI c m F mo ms)) :=
  PE.mono (pe_meth ho cl hm G hr hb .nil pass0 ha hst hpl ht) fun σ H Q h => rE_mMI hc h
theorem le_methI0 {c : Str} {pl : Sem Bool} (ho : PE X o (rE (en X) mo)) (hc : X.mg c = some (.ref C)) (cl : Cls X.K C) (hm : Meth X.K C m f) (G : FnOk X.prog X.w X.K X.mg X.base CX0 k f fd ps (spM X.prog X.w X.K X.mg F)) (hr : Room k X.A) (hb : Binds X.K fd ps [])
    (ht : eval (.Call (.Attribute o m apos) [] [] pos) X.env = (do
      let ov ← eval o X.env
      standAt apos.atName
      let (f, first) ← holding [ov] (getMethod ov m pl)
      callWith pos f first (backTo pos (starEach [] X.env)) (backToKw pos (keywordEach [] X.env))) := by rfl) :
    PE X (.Call (.Attribute o m apos) [] [] pos) (rE (en X) (mMI c m F mo (pur []))) :=
  PE.mono (pe_meth0 ho cl hm G hr hb .nil pass0 ht) fun σ H Q h => by
    obtain ⟨ρ, hp, ad, d, hp', st, e, q⟩ := rE_mMI hc h
    refine ⟨ρ, hp, ad, d, hp', st, e, fun v H' ad' x p r k => ?_⟩
    obtain ⟨a, dx, gs, ev, ea, hn, t⟩ := q v H' ad' x p r k
    exact ⟨a, dx, gs, ev, ea, hn, rA_nil t⟩
end
end DL
namespace DL
open PySem PySem.Spec PyProof.Rows L2

/-- a type: a built-in one, an own one -/
inductive TyK where
  | b (T : String)
  | o (c : Str)
def tyD (hp : Hd) : D → Option TyK
  | .non => some (.b "NoneType")
  | .bl _ => some (.b "bool")
  | .int _ => some (.b "int")
  | .str _ => some (.b "str")
  | .tup _ => some (.b "tuple")
  | .kl _ => some (.b "list")
  | .ref n => match hp.get n with
    | some (.lst _) => some (.b "list")
    | some (.lk (.lst _)) => some (.b "list")
    | some (.dic _) => some (.b "dict")
    | some (.lk (.dic _)) => some (.b "dict")
    | some (.slt c _) => some (.o c)
    | some (.ins c _) => some (.o c)
    | _ => none
/-- what an own class must have -/
def OwnT (K : PySem.W.Frag) (C : Addr) : Prop := SlX.SIsi K C ∧ ((SlX.SCls K C) ∧ (Cls K C))
def OwnS (K : PySem.W.Frag) (C : Addr) : Prop := SlX.SIsi K C ∧ SlX.SCls K C
def OwnI (K : PySem.W.Frag) (C : Addr) : Prop := SlX.SIsi K C ∧ Cls K C
section
variable {X : Cx} {pins : List (Addr × Obj)} {σ : L2.St} {H : Hp} {s : Shared} {ad : List Addr} {hp : Hd}
/-- the answers, by the value's type -/
structure Ans (X : Cx) (us : List Value) (tb : List (String × Bool)) (to : List (Str × Bool)) : Prop where
  b : ∀ p ∈ tb, PySem.W.kitAny X.K (.type p.1) us = some p.2
  o : ∀ p ∈ to, ∃ C, X.mg p.1 = some (.ref C) ∧ (OwnS X.K C ∨ OwnI X.K C) ∧ PySem.W.kitAny X.K (.ref C) us = some p.2
def lookB (T : String) : List (String × Bool) → Option Bool
  | [] => none
  | p :: r => if p.1 = T then some p.2 else lookB T r
def lookO (c : Str) : List (Str × Bool) → Option Bool
  | [] => none
  | p :: r => if p.1 = c then some p.2 else lookO c r
theorem lookB_mem {T : String} {b : Bool} : ∀ {l : List (String × Bool)}, lookB T l = some b → (T, b) ∈ l
  | [], h => by cases h
  | p :: r, h => by
    rw [lookB] at h
    split at h
    · rename_i e; cases h; subst e; exact List.mem_cons_self
    · exact List.mem_cons_of_mem _ (lookB_mem h)
theorem lookO_mem {T : Str} {b : Bool} : ∀ {l : List (Str × Bool)}, lookO T l = some b → (T, b) ∈ l
  | [], h => by cases h
  | p :: r, h => by
    rw [lookO] at h
    split at h
    · rename_i e; cases h; subst e; exact List.mem_cons_self
    · exact List.mem_cons_of_mem _ (lookO_mem h)
def isiA (tb : List (String × Bool)) (to : List (Str × Bool)) (d : D) (hp : Hd) : Option (D × Hd) := match tyD hp d with
  | some (.b T) => (lookB T tb).map fun b => (.bl b, hp)
  | some (.o c) => (lookO c to).map fun b => (.bl b, hp)
  | none => none
theorem slt_kit {K : PySem.W.Frag} {x D : Addr} {ox od : Obj} (h : OwnS K D) : PySem.W.KitX K (.ref x) (.ref D) (fun h => PySem.W.InstAt h x ox D (some od)) := OwX.kitx_slt h.2.ic (h.2.get _) h.1.ca h.1.cn h.1.ct h.1.cm
/-- what the kit's rules ask -/
theorem kit_D {us : List Value} {tb : List (String × Bool)} {to : List (Str × Bool)} {d d' : D} {hp' : Hd} {x : V} {u : Value} (an : Ans X us tb to) (I : Inv X pins σ H s) (hr : HR (en X) ad H hp) (k : RD (en X) ad H d x) (rx : RelV x u) (e : isiA tb to d hp = some (d', hp')) :
    ∃ t b P, d' = .bl b ∧ hp' = hp ∧ PySem.W.KitX X.K u t P ∧ P s.heap ∧ u ≠ .builtin "__main__.__loader__#opaque" ∧ PySem.W.kitAny X.K t us = some b := by
  have fin : ∀ {T : String} {t : Value}, tyD hp d = some (.b T) → (∃ P, PySem.W.KitX X.K u (.type T) P ∧ P s.heap ∧ u ≠ .builtin "__main__.__loader__#opaque") → ∃ t b P, d' = .bl b ∧ hp' = hp ∧ PySem.W.KitX X.K u t P ∧ P s.heap ∧ u ≠ .builtin "__main__.__loader__#opaque" ∧ PySem.W.kitAny X.K t us = some b := fun {T t} e1 ⟨P, h1, h2, h3⟩ => by
    unfold isiA at e
    rw [e1] at e
    obtain ⟨b, e2, e3⟩ := Option.map_eq_some_iff.mp e
    cases e3
    exact ⟨_, b, P, rfl, rfl, h1, h2, h3, an.b _ (lookB_mem e2)⟩
  cases d with
  | non => rw [k.n] at rx; cases (show u = Value.none from rx); exact fin (t := .none) rfl ⟨_, PySem.W.kitx_none, True.intro, fun z => nomatch z⟩
  | bl y => rw [k.b] at rx; cases (show u = Value.bool y from rx); exact fin (t := .none) rfl ⟨_, PySem.W.kitx_bool, True.intro, fun z => nomatch z⟩
  | int i => rw [k.i] at rx; obtain ⟨t, q⟩ := (show ∃ t, u = Value.int i t from rx); cases q; exact fin (t := .none) rfl ⟨_, PySem.W.kitx_int, True.intro, fun z => nomatch z⟩
  | str y => rw [k.x] at rx; obtain ⟨t, q⟩ := (show ∃ t, u = Value.str y t from rx); cases q; exact fin (t := .none) rfl ⟨_, PySem.W.kitx_str, True.intro, fun z => nomatch z⟩
  | tup ds =>
    obtain ⟨a, vs, rfl, hs, _⟩ := k.t
    cases (show u = Value.ref a from rx)
    obtain ⟨its, rv, ⟨o, ho, hc, n, hd⟩, _⟩ := I.tuple hs
    exact fin (t := .none) rfl ⟨_, PySem.W.kitx_tuple, ⟨o, ho, hc⟩, fun z => nomatch z⟩
  | kl ns =>
    rw [RD] at k
    obtain ⟨a, rfl, h⟩ := k
    cases (show u = Value.ref a from rx)
    obtain ⟨its, _, pl, _⟩ := I.list h.l
    obtain ⟨o, n, e, c, hd, _⟩ := pl
    exact fin (t := .none) rfl ⟨_, PySem.W.kitx_list, ⟨o, e, c⟩, fun z => nomatch z⟩
  | ref n =>
    obtain ⟨a, rfl, ha⟩ := k.r
    cases (show u = Value.ref a from rx)
    have hl : ∀ ds, lstOf hp n = some ds → ∃ P, PySem.W.KitX X.K (.ref a) (.type "list") P ∧ P s.heap ∧ Value.ref a ≠ .builtin "__main__.__loader__#opaque" := fun ds z => by
      obtain ⟨vs, hs, _⟩ := hr.lstR z ha
      obtain ⟨its, _, pl, _⟩ := I.list hs
      obtain ⟨o, n, e, c, hd, _⟩ := pl
      exact ⟨_, PySem.W.kitx_list, ⟨o, e, c⟩, fun z => nomatch z⟩
    have hd : ∀ ds, dicOf hp n = some ds → ∃ P, PySem.W.KitX X.K (.ref a) (.type "dict") P ∧ P s.heap ∧ Value.ref a ≠ .builtin "__main__.__loader__#opaque" := fun ds z => by
      obtain ⟨vs, hs, _⟩ := hr.dicR z ha
      obtain ⟨o, es, ep, e, c, _⟩ := dic_raw I hs
      exact ⟨_, PySem.W.kitx_dict, ⟨o, e, c.1⟩, fun z => nomatch z⟩
    cases eg : hp.get n with
    | none => simp only [isiA, tyD, eg] at e; cases e
    | some ob =>
      have own : ∀ c, tyD hp (.ref n) = some (.o c) → (∀ C, X.mg c = some (.ref C) → (OwnS X.K C ∨ OwnI X.K C) → ∃ P, PySem.W.KitX X.K (.ref a) (.ref C) P ∧ P s.heap ∧ Value.ref a ≠ .builtin "__main__.__loader__#opaque") → ∃ t b P, d' = .bl b ∧ hp' = hp ∧ PySem.W.KitX X.K (.ref a) t P ∧ P s.heap ∧ Value.ref a ≠ .builtin "__main__.__loader__#opaque" ∧ PySem.W.kitAny X.K t us = some b := fun c e1 hC => by
        unfold isiA at e
        rw [e1] at e
        obtain ⟨b, e2, e3⟩ := Option.map_eq_some_iff.mp e
        cases e3
        obtain ⟨C, g1, g2, g3⟩ := an.o _ (lookO_mem e2)
        obtain ⟨P, h1, h2, h3⟩ := hC C g1 g2
        exact ⟨_, b, P, rfl, rfl, h1, h2, h3, g3⟩
      cases ob with
      | lst ds => exact fin (t := .none) (by simp only [tyD, eg]) (hl ds (by simp only [lstOf, eg]))
      | dic ds => exact fin (t := .none) (by simp only [tyD, eg]) (hd ds (by simp only [dicOf, eg]))
      | slt c fs =>
        refine own c (by simp only [tyD, eg]) fun C g1 g2 => ?_
        obtain ⟨uo, eu, C', dx, vs, h4, h5, _⟩ := hr.at_ ha eg
        have := g1.symm.trans h4
        cases this
        obtain ⟨sl, od, _, J, _⟩ := SlX.slt_inst I (slt_H (ad := ad) eu h5)
        rcases g2 with g2 | g2
        · exact ⟨_, slt_kit g2, J, fun z => nomatch z⟩
        · exact ⟨_, PySem.W.kitx_own (g2.2.get _) g2.2.hd g2.1.ca g2.1.cn g2.1.ct g2.1.cm, J, fun z => nomatch z⟩
      | ins c fs =>
        refine own c (by simp only [tyD, eg]) fun C g1 g2 => ?_
        obtain ⟨uo, eu, C', dx, gs, h4, rfl, _⟩ := hr.at_ ha eg
        have := g1.symm.trans h4
        cases this
        obtain ⟨mA, O, _⟩ := ins_get I.hok eu
        obtain ⟨od, J, _⟩ := O.look
        rcases g2 with g2 | g2
        · exact ⟨_, slt_kit g2, J, fun z => nomatch z⟩
        · exact ⟨_, PySem.W.kitx_own (g2.2.get _) g2.2.hd g2.1.ca g2.1.cn g2.1.ct g2.1.cm, J, fun z => nomatch z⟩
      | lk ob =>
        cases ob with
        | lst ds => exact fin (t := .none) (by simp only [tyD, eg]) (hl ds (by simp only [lstOf, eg]))
        | dic ds => exact fin (t := .none) (by simp only [tyD, eg]) (hd ds (by simp only [dicOf, eg]))
        | _ => simp only [isiA, tyD, eg] at e; cases e
/-- isinstance(e, c): c a name of a class -/
theorem le_isi {x : Str} {p pos : Pos} {e ce : Expr} {me : M D} {c : V} {uc : Value} {tb : List (String × Bool)} {to : List (Str × Bool)} (he : PE X e (rE (en X) me)) (hce : PE X ce (tC c)) (hcv : ClsV c uc) (an : Ans X [uc] tb to) (hg : Gl X x) (hm : X.mg x = none) (hv : bootBuiltins x = some (.builtin "isinstance")) (hn : x ≠ "__name__" := by decide) (hdb : (x == ("__debug__" : Str)) = false := by decide)
    (hst1 : starEach [ce] X.env = (false, eval ce X.env) :: starEach [] X.env := by rfl) (hst : starEach [e, ce] X.env = (false, eval e X.env) :: starEach [ce] X.env := by rfl) (hpl : (backTo pos (starEach [ce] X.env)).any (·.1) = false := by rfl) :
    PE X (.Call (.Name x p) [e, ce] [] pos) (rE (en X) (mU (isiA tb to) me)) := by
  have hC : CallR X (.builtin "isinstance") (fun xs H Q => ∃ ad hp d d' hp' v, HR (en X) ad H hp ∧ RD (en X) ad H d v ∧ xs = [v, c] ∧ isiA tb to d hp = some (d', hp') ∧ PostE (en X) ad H d' hp' Q) := by
    intro pins s σ H xs us Q I r ⟨ad, hp, d, d', hp', v, hr, k, ex, e, q⟩
    subst ex
    obtain ⟨u1, u2, rfl, r1, r2⟩ := r.two
    cases hcv.eq r2
    obtain ⟨t, b, P, rfl, rfl, Z, pz, hx, ek⟩ := kit_D an I hr k r1 e
    have e1 : PySem.W.kitOne X.K t uc = some b := by
      unfold PySem.W.kitAny at ek
      cases z : PySem.W.kitOne X.K t uc with
      | none => rw [z] at ek; cases ek
      | some y => rw [z] at ek; cases y <;> exact ek
    exact PySem.W.kia_one Z I.kIn pz e1 hx fun tk => ⟨.bl b, H, I.tok tk, rfl, q.here hr (rdB _)⟩
  refine PE.mono (pe_callB hC hg hm hv (pa_cons he (pa_cons hce pa_nil hst1) hst) hn hdb hst hpl) fun σ H Q h => ?_
  obtain ⟨ρ, hp, ad, d, hp', st, e0, q⟩ := h
  obtain ⟨d1, h1, e1, e2⟩ := bnd_inv e0
  exact ⟨ρ, hp, ad, d1, h1, st, e1, fun v H1 ad1 x1 p1 r1 k1 => ⟨ad1, h1, d1, d, hp', v, r1, k1, rfl, e2, q.next x1 p1⟩⟩
/-- isinstance(e, (c1, c2)): names of built-in types -/
theorem le_isi2 {x : Str} {p pos tpos : Pos} {kt : Nat} {e c1 c2 : Expr} {me : M D} {v1 v2 : V} {u1 u2 : Value} {tb : List (String × Bool)} {to : List (Str × Bool)} (he : PE X e (rE (en X) me)) (h1 : PE X c1 (tC v1)) (h2 : PE X c2 (tC v2)) (k1 : ClsV v1 u1) (k2 : ClsV v2 u2) (an : Ans X [u1, u2] tb to) (hg : Gl X x) (hm : X.mg x = none) (hv : bootBuiltins x = some (.builtin "isinstance")) (hn : x ≠ "__name__" := by decide) (hdb : (x == ("__debug__" : Str)) = false := by decide)
    (ha1 : starEach [c2] X.env = (false, eval c2 X.env) :: starEach [] X.env := by rfl) (ha2 : starEach [c1, c2] X.env = (false, eval c1 X.env) :: starEach [c2] X.env := by rfl)
    (hst1 : starEach [.Tuple [c1, c2] kt tpos] X.env = (false, eval (.Tuple [c1, c2] kt tpos) X.env) :: starEach [] X.env := by rfl) (hst : starEach [e, .Tuple [c1, c2] kt tpos] X.env = (false, eval e X.env) :: starEach [.Tuple [c1, c2] kt tpos] X.env := by rfl) (hpl : (backTo pos (starEach [.Tuple [c1, c2] kt tpos] X.env)).any (·.1) = false := by rfl) :
    PE X (.Call (.Name x p) [e, .Tuple [c1, c2] kt tpos] [] pos) (rE (en X) (mU (isiA tb to) me)) := by
  have hC : CallR X (.builtin "isinstance") (fun xs H Q => ∃ ad hp d d' hp' v tp, HR (en X) ad H hp ∧ RD (en X) ad H d v ∧ xs = [v, .ref tp] ∧ H tp = some (.tup [v1, v2]) ∧ isiA tb to d hp = some (d', hp') ∧ PostE (en X) ad H d' hp' Q) := by
    intro pins s σ H xs us Q I r ⟨ad, hp, d, d', hp', v, tp, hr, k, ex, hT, e, q⟩
    subst ex
    obtain ⟨w1, w2, rfl, r1, r2⟩ := r.two
    cases (show w2 = Value.ref tp from r2)
    obtain ⟨t, b, P, rfl, rfl, Z, pz, hx, ek⟩ := kit_D an I hr k r1 e
    obtain ⟨_, its, rv, o, g1, g2, n, g3⟩ := (show ObjOk X.prog X.w H s.heap tp (.tup [v1, v2]) from I.hok tp _ hT)
    have e3 := ClsV.all (.cons k1 (.cons k2 .nil)) rv
    subst e3
    obtain ⟨oc, od, dt, sl⟩ := o
    simp only at g2 g3
    subst g2 g3
    exact PySem.W.kia_tup Z I.kIn pz g1 ek hx fun tk => ⟨.bl b, H, I.tok tk, rfl, q.here hr (rdB _)⟩
  refine PE.mono (pe_callB hC hg hm hv (pa_cons he (pa_cons (pe_tup (pa_cons h1 (pa_cons h2 pa_nil ha1) ha2)) pa_nil hst1) hst) hn hdb hst hpl) fun σ H Q h => ?_
  obtain ⟨ρ, hp, ad, d, hp', st, e0, q⟩ := h
  obtain ⟨d1, hh, e1, e2⟩ := bnd_inv e0
  refine ⟨ρ, hp, ad, d1, hh, st, e1, fun v H1 ad1 x1 p1 r1 kk => ?_⟩
  refine ⟨(by rw [sizeLine_eq]; show 2 ≤ _; omega), fun tp nt => ?_⟩
  have x2 : Ex (en X) H1 (upd H1 tp (.tup [v1, v2])) := .new nt
  exact ⟨ad1, hh, d1, d, hp', v, tp, r1.aside nt, kk.mono x2 (List.prefix_refl _), rfl, upd_same, e2, (q.next x1 p1).next x2 (List.prefix_refl _)⟩
end
end DL
namespace DL
open PySem PySem.Spec PyProof.Rows L2

structure Cl where
  mi : M (Src × Option Nat)
  g : G
  tt : M Bool
  vs : List Nat
def lc2Loop (s : Src) (g : G) (tt : M Bool) (c1 : Cl) (me : M D) (ρw : Rho) (nL N1 : Nat) : Nat → Nat → Hd → Option Hd
  | 0, _, _ => none
  | n + 1, i, hp => match nextD s i hp with
    | some (some d) => (match g d ρw hp with
      | some (ρ2, h2) => (match tt ρ2 h2 with
        | some (true, h3) => (match c1.mi ρ2 h3 with
          | some ((s1, none), h4) => (match lcLoop s1 c1.g c1.tt me (wipeR ρ2 c1.vs) nL N1 0 h4 with
            | some h5 => lc2Loop s g tt c1 me ρw nL N1 n (i + 1) h5
            | none => none)
          | _ => none)
        | some (false, h3) => lc2Loop s g tt c1 me ρw nL N1 n (i + 1) h3
        | none => none)
      | none => none)
    | some none => some hp
    | none => none
def mLc2 (N N1 : Nat) (vs : List Nat) (mi : M (Src × Option Nat)) (g : G) (tt : M Bool) (c1 : Cl) (me : M D) : M D := fun ρ hp => match mi ρ hp with
  | some ((s, u), h) => (match lc2Loop s g tt c1 me (wipeR ρ vs) h.n N1 N 0 (h.push (.lst [])) with
    | some h' => (match unl u h' with
      | some h'' => some (.ref h.n, h'')
      | none => none)
    | none => none)
  | none => none
section
variable {X : Cx} {elt tg iter tg1 iter1 : Expr} {ifs ifs1 : List Expr} {scope : Scope} {own : List (Str × Nat)} {pos : Pos} {mi : M (Src × Option Nat)} {g : G} {tt : M Bool} {c1 : Cl} {me : M D} {N N1 : Nat}
theorem rE_lc2 {σ : L2.St} {H : Hp} {Q : VK} {vs : List Nat} (h : rE (en X) (mLc2 N N1 vs mi g tt c1 me) σ H Q) :
    tLc2 (rI (en X) mi) (rGc (en X) vs g) (rT (en X) tt) (rI (en X) c1.mi) (rGc (en X) c1.vs c1.g) (rT (en X) c1.tt) (rE (en X) me) vs c1.vs σ H (fun v H' => UL H H' (Q v)) := by
  obtain ⟨ρ, hp, ad, d, hp', st, e, q⟩ := h
  unfold mLc2 at e
  split at e
  case h_2 => cases e
  rename_i s u h0 e0
  split at e
  case h_2 => cases e
  rename_i h2 e2
  split at e
  case h_2 => cases e
  rename_i h3 e3
  cases e
  refine ⟨ρ, hp, ad, s, u, h0, st, e0, fun J H1 a1 x1 p1 r1 jr lc D nD => ?_⟩
  have exN : Ex (en X) H1 (upd H1 D (.lst [])) := .new nD
  have hrN : HR (en X) (a1 ++ [D]) (upd H1 D (.lst [])) (h0.push (.lst [])) := r1.push nD ⟨_, upd_same, [], rfl, .nil⟩
  have hD : ∀ ad', (a1 ++ [D]) <+: ad' → ad'[h0.n]? = some D := fun ad' p => by
    obtain ⟨t, rfl⟩ := p
    rw [List.getElem?_append_left (by simp [r1.len]), ← r1.len]
    simp
  refine ⟨fun i n Hi => ∃ hi ai, Ex (en X) H1 Hi ∧ (a1 ++ [D]) <+: ai ∧ HR (en X) ai Hi hi ∧ lc2Loop s g tt c1 me (wipeR ρ vs) h0.n N1 n i hi = some h2, ⟨N, _, _, exN, List.prefix_refl _, hrN, e2⟩, ?_⟩
  rintro i n Hi ⟨hi, ai, xi, pi, ri, ei⟩
  have pa : a1 <+: ai := (List.prefix_append _ _).trans pi
  obtain ⟨jgo, jstop⟩ := jr i Hi ai hi xi pa ri
  cases n with
  | zero => cases ei
  | succ n =>
    rw [lc2Loop] at ei
    split at ei
    · rename_i d ed
      obtain ⟨go, yl⟩ := jgo d ed
      refine .inr ⟨go, fun H' => ∃ hj aj, Ex (en X) H1 H' ∧ (a1 ++ [D]) <+: aj ∧ HR (en X) aj H' hj ∧ lc2Loop s g tt c1 me (wipeR ρ vs) h0.n N1 n (i + 1) hj = some h2, fun H' ⟨hj, aj, xj, pj, rj, ej⟩ => ⟨n, Nat.lt_succ_self n, hj, aj, xj, pj, rj, ej⟩, fun x Hy y => ?_⟩
      obtain ⟨xy, ry, ky⟩ := yl x Hy y
      split at ei
      case h_2 => cases ei
      rename_i ρ2 hg eg
      have xall : Ex (en X) H Hy := (x1.trans xi).trans xy
      have sW : St0 (en X) (wipeR ρ vs) hi ai (wipe σ vs) Hy := ⟨(st.s.mono xall (p1.trans pa)).wipe vs, ry, by rw [wipe_length, wipeR_length]; exact st.len⟩
      refine ⟨_, hi, ai, d, ρ2, hg, sW, ky, eg, fun σ2 H2 a2 x2 p2 s2 w2 => ⟨?_, ?_⟩⟩
      · rw [w2]
        exact wipe_twice
      split at ei
      · rename_i h4 e4
        refine ⟨ρ2, hg, a2, true, h4, s2.toSt0, e4, fun H3 a3 x3 p3 r3 => iteT ?_⟩
        split at ei
        case h_2 => cases ei
        rename_i sI h5 e5
        refine ⟨ρ2, h4, a3, sI, none, h5, s2.toSt0.next x3 p3 r3, e5, fun J1 H4 a4 x4 p4 r4 jr4 lc4 => ?_⟩
        split at ei
        case h_2 => cases ei
        rename_i h6 e6
        have pD4 : (a1 ++ [D]) <+: a4 := ((pi.trans p2).trans p3).trans p4
        have x14 : Ex (en X) H1 H4 := (((xi.trans xy).trans x2).trans x3).trans x4
        refine ⟨fun j k Hj => ∃ hj aj, Ex (en X) H4 Hj ∧ a4 <+: aj ∧ HR (en X) aj Hj hj ∧ lcLoop sI c1.g c1.tt me (wipeR ρ2 c1.vs) h0.n k j hj = some h6, ⟨N1, _, _, .refl, List.prefix_refl _, r4, e6⟩, ?_⟩
        rintro j k Hj ⟨hj, aj, xj, pj, rj, ej⟩
        obtain ⟨jgo4, jstop4⟩ := jr4 j Hj aj hj xj pj rj
        cases k with
        | zero => cases ej
        | succ k =>
          rw [lcLoop] at ej
          split at ej
          · rename_i d' ed'
            obtain ⟨go', yl'⟩ := jgo4 d' ed'
            refine .inr ⟨go', fun H' => ∃ hk ak, Ex (en X) H4 H' ∧ a4 <+: ak ∧ HR (en X) ak H' hk ∧ lcLoop sI c1.g c1.tt me (wipeR ρ2 c1.vs) h0.n k (j + 1) hk = some h6, fun H' ⟨hk, ak, xk, pk, rk, ek⟩ => ⟨k, Nat.lt_succ_self k, hk, ak, xk, pk, rk, ek⟩, fun x' Hz z => ?_⟩
            obtain ⟨xz, rz, kz⟩ := yl' x' Hz z
            split at ej
            case h_2 => cases ej
            rename_i ρ3 hg3 eg3
            have sW3 : St0 (en X) (wipeR ρ2 c1.vs) hj aj (wipe σ2 c1.vs) Hz := ⟨(s2.s.mono (((x3.trans x4).trans xj).trans xz) ((p3.trans p4).trans pj)).wipe c1.vs, rz, by rw [wipe_length, wipeR_length]; exact s2.len⟩
            refine ⟨_, hj, aj, d', ρ3, hg3, sW3, kz, eg3, fun σ3 H5 a5 x5 p5 s5 w5 => ⟨?_, ?_⟩⟩
            · rw [w5]
              exact wipe_twice
            split at ej
            · rename_i h7 e7
              refine ⟨ρ3, hg3, a5, true, h7, s5.toSt0, e7, fun H6 a6 x6 p6 r6 => iteT ?_⟩
              split at ej
              case h_2 => cases ej
              rename_i y' h8 e8
              refine ⟨ρ3, h7, a6, y', h8, s5.toSt0.next x6 p6 r6, e8, fun yv H7 a7 x7 p7 r7 k7 => ?_⟩
              split at ej
              case h_2 => cases ej
              rename_i acc eacc
              split at ej
              case isFalse => cases ej
              rename_i hz
              have p47 : a4 <+: a7 := ((pj.trans p5).trans p6).trans p7
              have pD : (a1 ++ [D]) <+: a7 := pD4.trans p47
              obtain ⟨av, hav, rav⟩ := r7.lst eacc (hD a7 pD)
              have x8 : Ex (en X) H7 (upd H7 D (.lst (av ++ [yv]))) := .mut hav True.intro
              refine ⟨av, hav, by rw [← rav.length]; exact big_lt hz, _, a7, ((((xj.trans xz).trans x5).trans x6).trans x7).trans x8, p47, r7.set (b := .lst (acc ++ [y'])) (hD a7 pD) hav True.intro ⟨_, upd_same, _, rfl, (rav.append (.cons k7 .nil)).mono x8 (List.prefix_refl _)⟩, ej⟩
            · rename_i h7 e7
              exact ⟨ρ3, hg3, a5, false, h7, s5.toSt0, e7, fun H6 a6 x6 p6 r6 => iteF ⟨h7, a6, ((xj.trans xz).trans x5).trans x6, (pj.trans p5).trans p6, r6, ej⟩⟩
            · cases ej
          · rename_i ed'
            cases ej
            exact .inl ⟨jstop4 ed', _, aj, x14.trans xj, pD4.trans pj, rj, ei⟩
          · cases ej
      · rename_i h4 e4
        exact ⟨ρ2, hg, a2, false, h4, s2.toSt0, e4, fun H3 a3 x3 p3 r3 => iteF ⟨h4, a3, ((xi.trans xy).trans x2).trans x3, (pi.trans p2).trans p3, r3, ei⟩⟩
      · cases ei
    · rename_i ed
      cases ei
      refine .inl ⟨jstop ed, HR.unl (ad := a1 ++ [D]) ri (x1.trans xi) (LkC.mono lc (List.prefix_append _ _)) pi e3 fun H2 x2 r2 rd => q _ H2 ai x2 (p1.trans pa) r2 ?_⟩
      rw [RD]
      exact ⟨D, rfl, hD ai pi⟩
    · cases ei
theorem le_lc2 (hc : X.calm = true) (hN : X.N.Nodup) (hi : PI X tg iter (rI (en X) mi)) (ok : BlkOk X.N X.env.scope scope own) (hv : ∀ i ∈ c1.vs, i ∈ own.map (·.2))
    (hg : Blk X scope fun Y => PG Y tg (rGc (en X) (own.map (·.2)) g)) (ht : Blk X scope fun Y => PTs Y ifs (rT (en X) tt)) (hi1 : Blk X scope fun Y => PI Y tg1 iter1 (rI (en X) c1.mi)) (hg1 : Blk X scope fun Y => PG Y tg1 (rGc (en X) c1.vs c1.g)) (ht1 : Blk X scope fun Y => PTs Y ifs1 (rT (en X) c1.tt))
    (he : Blk X scope fun Y => PE Y elt (rE (en X) me)) (hs : ∀ x, foldedSetIterable iter X.env x = pure x := by intro _; rfl) (hs1 : ∀ env x, foldedSetIterable iter1 env x = pure x := by intro _ _; rfl) :
    PE X (.ListComp elt [⟨tg, iter, ifs, 0⟩, ⟨tg1, iter1, ifs1, 0⟩] scope pos) (rE (en X) (mLc2 N N1 (own.map (·.2)) mi g tt c1 me)) :=
  PE.mono (pe_unl (pe_lc2 hc hN hi ok hv hg ht hi1 hg1 ht1 he hs hs1)) fun σ H Q h => rE_lc2 h
/-- three names at once -/
def sPar3 (i j l : Nat) (ms : M (List D)) : S := fun ρ hp => match ms ρ hp with
  | some ([a, b, c], h) => if i < ρ.length ∧ j < ρ.length ∧ l < ρ.length then some (.nx, ((ρ.set i (some a)).set j (some b)).set l (some c), h) else none
  | _ => none
theorem ls_par3 {i j l : Nat} {x y z : Str} {a b c : Expr} {ms : M (List D)} {px py pz pt : Pos} {kt k2 pt2} (hc : X.calm = true) (hN : X.N.Nodup) (hi : X.N[i]? = some x) (hj : X.N[j]? = some y) (hl : X.N[l]? = some z) (hij : i ≠ j) (hil : i ≠ l) (hjl : j ≠ l)
    (hx : X.env.scope.names.lookup x = some .local) (hy : X.env.scope.names.lookup y = some .local) (hz : X.env.scope.names.lookup z = some .local) (ha : PA X [a, b, c] (rA (en X) ms))
    (hw : swappedStores [.Tuple [.Name x px, .Name y py, .Name z pz] kt pt] (.Tuple [a, b, c] k2 pt2) X.env = pure (some [x, y, z])) (hs : swapsWithSole [.Tuple [.Name x px, .Name y py, .Name z pz] kt pt] (.Tuple [a, b, c] k2 pt2) pos.line X.env = pure false := by rfl) :
    PS X (.Assign [.Tuple [.Name x px, .Name y py, .Name z pz] kt pt] (.Tuple [a, b, c] k2 pt2) pos) (rS (en X) (sPar3 i j l ms)) :=
  PS.mono (ps_par3 hc hN hi hj hl hij hil hjl hx hy hz ha hw hs) fun Dn σ H h => by
    obtain ⟨ρ, hp, ad, fl, ρ', hp', st, e, q⟩ := h
    unfold sPar3 at e
    split at e
    case h_2 => cases e
    rename_i d1 d2 d3 h1 e1
    split at e
    case isFalse => cases e
    rename_i hb
    cases e
    refine ⟨ρ, hp, ad, _, _, st, e1, fun vs H1 ad1 x1 p1 r1 k1 => ?_⟩
    rw [RDs] at k1
    obtain ⟨v1, rest, rfl, kd1, k2⟩ := k1
    obtain ⟨v2, v3, rfl, kd2, kd3⟩ := k2.two
    refine ⟨v1, v2, v3, rfl, q _ H1 ad1 x1 p1 ?_⟩
    exact (((st.next x1 p1 r1).set hb.1 kd1).set (by simpa using hb.2.1) kd2).set (by simpa using hb.2.2) kd3
end
end DL
namespace DL
open PySem PySem.Spec PyProof.Rows L2
open PySem.W (dataLe dataLt alike AllAlike Sortable EachIs)
section
variable {X : Cx} {e : Expr} {es : List Expr} {p : Pos} {me : M D} {ms : M (List D)}
/-- *e, .. of a tuple or a list -/
def mStar (m : M D) (r : M (List D)) : M (List D) := bnd m fun d ρ hp => match seqOf hp d with
  | some ds => bnd r (fun xs => pur (ds ++ xs)) ρ hp
  | none => none
theorem la_star (he : PE X e (rE (en X) me)) (hr : PA X es (rA (en X) ms)) (hs : starEach (.Starred e p :: es) X.env = (true, eval e X.env) :: starEach es X.env := by rfl) : PA X (.Starred e p :: es) (rA (en X) (mStar me ms)) :=
  PA.mono (StX.pa_star he hr hs) fun σ H Q h => by
    obtain ⟨ρ, hp, ad, ds, hp', st, e, q⟩ := h
    obtain ⟨d, h1, e1, e2⟩ := bnd_inv e
    split at e2
    case h_2 => cases e2
    rename_i items es
    obtain ⟨rs, h2, e3, e4⟩ := bnd_inv e2
    cases e4
    refine ⟨ρ, hp, ad, d, h1, st, e1, fun v H1 ad1 x1 p1 r1 k1 => ?_⟩
    obtain ⟨a, vs, ev, hq, kr⟩ := seqOf_ok r1 es k1
    exact ⟨a, vs, ev, hq.symm, ρ, h1, ad1, rs, _, st.next x1 p1 r1, e3, fun ws H2 ad2 x2 p2 r2 k2 => q _ H2 ad2 (x1.trans x2) (p1.trans p2) r2 ((kr.mono x2 p2).append k2)⟩
end
mutual
def nrD : D → Bool
  | .ref _ => false
  | .kl _ => false
  | .tup ds => nrsD ds
  | _ => true
def nrsD : List D → Bool
  | [] => true
  | d :: ds => nrD d && nrsD ds
end
mutual
theorem pd_inj {f : Nat → Option PyData} : ∀ {d d' : D} {p : PyData}, nrD d = true → nrD d' = true → pdW f d = some p → pdW f d' = some p → d = d'
  | .ref _, _, _, h, _, _, _ => by rw [nrD] at h; cases h
  | .kl _, _, _, h, _, _, _ => by rw [nrD] at h; cases h
  | .non, d', p, _, h', e, e' => by
    rw [pdW] at e; cases e
    cases d' with
    | non => rfl
    | ref _ => rw [nrD] at h'; cases h'
    | kl _ => rw [nrD] at h'; cases h'
    | tup ds => rw [pdW] at e'; obtain ⟨_, _, z⟩ := Option.map_eq_some_iff.mp e'; cases z
    | _ => rw [pdW] at e'; cases e'
  | .bl b, d', p, _, h', e, e' => by
    rw [pdW] at e; cases e
    cases d' with
    | bl _ => rw [pdW] at e'; cases e'; rfl
    | ref _ => rw [nrD] at h'; cases h'
    | kl _ => rw [nrD] at h'; cases h'
    | tup ds => rw [pdW] at e'; obtain ⟨_, _, z⟩ := Option.map_eq_some_iff.mp e'; cases z
    | _ => rw [pdW] at e'; cases e'
  | .int b, d', p, _, h', e, e' => by
    rw [pdW] at e; cases e
    cases d' with
    | int _ => rw [pdW] at e'; cases e'; rfl
    | ref _ => rw [nrD] at h'; cases h'
    | kl _ => rw [nrD] at h'; cases h'
    | tup ds => rw [pdW] at e'; obtain ⟨_, _, z⟩ := Option.map_eq_some_iff.mp e'; cases z
    | _ => rw [pdW] at e'; cases e'
  | .str b, d', p, _, h', e, e' => by
    rw [pdW] at e; cases e
    cases d' with
    | str _ => rw [pdW] at e'; cases e'; rfl
    | ref _ => rw [nrD] at h'; cases h'
    | kl _ => rw [nrD] at h'; cases h'
    | tup ds => rw [pdW] at e'; obtain ⟨_, _, z⟩ := Option.map_eq_some_iff.mp e'; cases z
    | _ => rw [pdW] at e'; cases e'
  | .tup ds, d', p, h, h', e, e' => by
    rw [pdW] at e
    obtain ⟨ps, e1, rfl⟩ := Option.map_eq_some_iff.mp e
    cases d' with
    | tup ds' =>
      rw [pdW] at e'
      obtain ⟨ps', e2, z⟩ := Option.map_eq_some_iff.mp e'
      injection z with z
      subst z
      rw [nrD] at h h'
      rw [pds_inj h h' e1 e2]
    | ref _ => rw [nrD] at h'; cases h'
    | kl _ => rw [nrD] at h'; cases h'
    | _ => rw [pdW] at e'; cases e'
theorem pds_inj {f : Nat → Option PyData} : ∀ {ds ds' : List D} {ps : List PyData}, nrsD ds = true → nrsD ds' = true → pdsW f ds = some ps → pdsW f ds' = some ps → ds = ds'
  | [], ds', ps, _, h', e, e' => by
    rw [pdsW] at e; cases e
    cases ds' with
    | nil => rfl
    | cons d ds => rw [pdsW] at e'; split at e' <;> cases e'
  | d :: ds, ds', ps, h, h', e, e' => by
    rw [pdsW] at e
    split at e
    case h_2 => cases e
    rename_i e1 e2
    cases e
    cases ds' with
    | nil => rw [pdsW] at e'; cases e'
    | cons d' ds' =>
      rw [pdsW] at e'
      split at e'
      case h_2 => cases e'
      rename_i e3 e4
      injection e' with e'
      injection e' with g1 g2
      subst g1 g2
      rw [nrsD, Bool.and_eq_true] at h h'
      rw [pd_inj h.1 h'.1 e1 e3, pds_inj h.2 h'.2 e2 e4]
end
def minP (a : D × PyData) : List (D × PyData) → D × PyData
  | [] => a
  | b :: l => minP (if dataLt b.2 a.2 = true then b else a) l
theorem minP_mem : ∀ (l : List (D × PyData)) (a : D × PyData), minP a l ∈ a :: l
  | [], a => List.mem_cons_self
  | b :: l, a => by
    rw [minP]
    have := minP_mem l (if dataLt b.2 a.2 = true then b else a)
    rcases List.mem_cons.mp this with z | z
    · rw [z]
      split
      · exact List.mem_cons_of_mem _ List.mem_cons_self
      · exact List.mem_cons_self
    · exact List.mem_cons_of_mem _ (List.mem_cons_of_mem _ z)
theorem minP_data : ∀ (l : List (D × PyData)) (a : D × PyData), (minP a l).2 = PySem.W.minD a.2 (l.map (·.2))
  | [], a => rfl
  | b :: l, a => by
    rw [minP, minP_data l]
    unfold PySem.W.minD
    rw [List.map_cons, List.foldl_cons]
    split <;> rfl
theorem pairD_get {hp : Hd} : ∀ {ds : List D} {ps : List (D × PyData)}, pairD hp ds = some ps → ∀ (i : Nat) (d : D), ds[i]? = some d → ∃ p, ps[i]? = some (d, p) ∧ pdD hp d = some p
  | [], ps, e, i, d, h => by simp at h
  | d :: ds, ps, e, i, d', h => by
    rw [pairD] at e
    split at e
    case h_2 => cases e
    rename_i e1 e2
    cases e
    cases i with
    | zero => simp at h; subst h; exact ⟨_, rfl, e1⟩
    | succ i => simpa using pairD_get e2 i d' (by simpa using h)
theorem pairD_all {hp : Hd} : ∀ {ds : List D} {ps : List (D × PyData)}, pairD hp ds = some ps → ∀ q ∈ ps, pdD hp q.1 = some q.2
  | [], ps, e, q, h => by cases e; cases h
  | d :: ds, ps, e, q, h => by
    rw [pairD] at e
    split at e
    case h_2 => cases e
    rename_i e1 e2
    cases e
    rcases List.mem_cons.mp h with z | z
    · subst z; exact e1
    · exact pairD_all e2 q z
/-- min(x) of ints, of tuples -/
def minA : Fn
  | [.ref n], hp => (match intsOf hp n with
    | some (i :: is) => some (.int (minI (i :: is)), hp)
    | _ => (match lstOf hp n with
      | some ds => (match pairD hp ds with
        | some (a :: l) => if alB (a :: l) = true ∧ ((a :: l).all fun x => nrD x.1 && isTupB x.2 && decide (x.2.depth ≤ 60)) = true then some ((minP a l).1, hp) else none
        | _ => none)
      | none => none))
  | _, _ => none
theorem depthAll_le : ∀ {l : List PyData}, (∀ x ∈ l, x.depth ≤ 60) → PyData.depthAll l ≤ 60
  | [], _ => by rw [PyData.depthAll]; omega
  | x :: l, h => by
    rw [PyData.depthAll]
    have h1 := h x List.mem_cons_self
    have h2 := depthAll_le fun y hy => h y (List.mem_cons_of_mem _ hy)
    omega
section
variable {X : Cx}
theorem call_minA (hc : X.calm = true) (hu : X.A.units + 64 < cLine) : CallR X (.builtin "min") (rC (en X) minA) := by
  intro pins s σ H xs us Q I r ⟨ad, hp, ds, d, hp', hr, k, e, q⟩
  unfold minA at e
  split at e
  case h_2 => cases e
  rename_i n
  split at e
  · rename_i i is z
    exact call_minF hc pins s σ H xs us Q I r ⟨ad, hp, [.ref n], d, hp', hr, k, by simp only [minF, z]; exact e, q⟩
  · split at e
    case h_2 => cases e
    rename_i items el
    split at e
    case h_2 => cases e
    rename_i a l ep
    split at e
    case isFalse => cases e
    rename_i hok
    cases e
    obtain ⟨h1, h2⟩ := hok
    obtain ⟨v, rfl, k1⟩ := k.one
    obtain ⟨pa, rfl, ha⟩ := k1.r
    obtain ⟨u, rfl, ru⟩ := r.one
    cases (show u = Value.ref pa from ru)
    obtain ⟨ws, hq, rd⟩ := hr.lstR el ha
    obtain ⟨its, rv, pl, _⟩ := I.list hq
    obtain ⟨g1, g2, g3⟩ := each_of I hr rd rv ep
    obtain ⟨as, ra⟩ := PySem.W.each_readsAll (fun b : D × PyData => b.2) g2
    have hall : ∀ x ∈ a :: l, nrD x.1 = true ∧ isTupB x.2 = true ∧ x.2.depth ≤ 60 := fun x hx => by
      have := List.all_eq_true.mp h2 x hx
      rw [Bool.and_eq_true, Bool.and_eq_true] at this
      exact ⟨this.1.1, this.1.2, by simpa using this.2⟩
    have al0 := alB_ok h1
    have hal : PySem.W.AlikeAll (a.2 :: l.map (·.2)) := by
      refine ⟨fun x hx y hy => al0 x hx y hy, fun x hx z => ?_⟩
      obtain ⟨w, hw, rfl⟩ := List.mem_map.mp (show x ∈ (a :: l).map (·.2) from hx)
      have := (hall w hw).2.1
      rw [z] at this
      cases this
    have hdep : PyData.depthAll (a.2 :: l.map (·.2)) ≤ 60 := depthAll_le fun x hx => by
      obtain ⟨w, hw, rfl⟩ := List.mem_map.mp (show x ∈ (a :: l).map (·.2) from hx)
      exact (hall w hw).2.2
    refine PySem.W.min_list_data (I.ok.hd hc) pl.isList (by simpa using ra) hal (by omega) fun i v h' tk bs hv hb kp => ?_
    have hv' : its[i]? = some v := by simpa using hv
    have hlt : i < ws.length := by
      have := (List.getElem?_eq_some_iff.mp hv').1
      rw [rv.length]; exact this
    obtain ⟨w, ew⟩ : ∃ w, ws[i]? = some w := ⟨_, List.getElem?_eq_getElem hlt⟩
    obtain ⟨y, hy, ry⟩ := paired_get rv ew
    have eyv : y = v := by rw [hv'] at hy; exact (Option.some.inj hy).symm
    subst eyv
    obtain ⟨di, edi, rdi⟩ := rd.getV ew
    obtain ⟨pi, epi, pdi⟩ := pairD_get ep i di edi
    have mem : (di, pi) ∈ a :: l := List.mem_of_getElem? epi
    have I2 : Inv X pins σ H { s with heap := h', toks := tk } := I.kept kp
    obtain ⟨as2, r2⟩ := Dp.reads I2 pi _ _ (pdD_ok hr pdi rdi) ry
    have mm := minP_mem l a
    have ed : (minP a l).2 = pi := by
      refine PySem.W.alike_unique _ _ _ _ _ (al0 _ (List.mem_map.mpr ⟨_, mm, rfl⟩) _ (List.mem_map.mpr ⟨_, mem, rfl⟩)) (by rw [minP_data]; exact hb) r2
    have e0 := pairD_all ep _ mm
    rw [ed] at e0
    have ee : (minP a l).1 = di := pd_inj (hall _ mm).1 (hall _ mem).1 e0 pdi
    rw [ee] at q
    exact ⟨w, H, I2, ry, q.here hr rdi⟩
end
end DL
namespace DL
open PySem PySem.Spec PyProof.Rows L2
open PySem.W (dataLe dataLt alike AllAlike Sortable EachIs KeyPure)
/-- the key's call: it keeps the heap, and gives the pair -/
theorem key_len {prog : Program} {w : World} {A : Around} {s : Shared} {f c' a : Addr} {q x : Str} {params : Arguments} {scope : Scope} {clo : List (Str × Addr)} {pm ctv : Value} {mg mb : Str → Option Value} {p1 p2 p3 p4 p5 : Pos} {kt : Nat} {vs : Array Value} {d : PyData}
    (of : s.heap.get? f = some (PySem.W.kla_obj "<lambda>" q params (.Tuple [.Call (.Name "len" p1) [.Name x p2] [] p3, .Name x p4] kt p5) scope clo pm c' ctv)) (hroom : A.depth < recursionLimit) (hcd : s.heap.CodeRec (.ref c') q) (hnl : s.heap.NoLimit)
    (hco : scope.isCoroutine = false) (hgen : scope.isGenerator = false) (hk : scope.kind = .function) (hcl : ∀ y ∈ scope.names, y.2 ≠ .cell) (hx : scope.names.lookup x = some .local) (hlen : scope.names.lookup ("len" : Str) = some .globalImplicit) (hxd : (x == ("__debug__" : Str)) = false)
    (hbind : bindArgs (PySem.W.kla_fn "<lambda>" q params (.Tuple [.Call (.Name "len" p1) [.Name x p2] [] p3, .Name x p4] kt p5) scope clo pm (.ref c') ctv) ⟨[.ref a], []⟩ = pure [(x, .ref a)])
    (hg : s.heap.Ns mainGlobals mg) (hml : mg "len" = none) (hb : s.heap.Ns builtinsNs mb) (hbl : mb "len" = some (.builtin "len")) (ht : s.heap.IsTuple a vs) (hsz : vs.size ≤ sizeLine) (hr : Reads s.heap (.ref a) d []) :
    wpAny (model prog w) A (call (.ref f) [.ref a]) (KeyPure (.tuple [.int vs.size, d]) s) (fun _ _ => False) s := by
  refine wpAny_call (PySem.W.kla_callFunE hroom of rfl hco hgen rfl hcd ?_)
  rw [hbind]
  refine wpAny_pure (wpAny_newFunctionEnv hcl (fun y hy => ?_) (fun h₁ hns hsb => ⟨?_, ?_⟩) hk)
  · have : y = (x, .ref a) := by simpa using hy
    rw [this]; exact hx
  · exact hnl.fresh _ hsb
  · have kp : ∀ b o, s.heap.get? b = some o → h₁.get? b = some o := fun b o e => hsb.extBut b o (Nat.ne_of_lt (Heap.lt_size e)) (Heap.get?_push_of_some _ e)
    refine PySem.W.kla_codeExpr (PyProof.Rows.Tuple_ ?_)
    have loc : ∀ {p : Pos} {A' : Around} {E' : Value → Shared → Prop} {Q' : Value → Shared → Prop} {h2 : Heap} {t2 : Nat}, (∀ b o, h₁.get? b = some o → h2.get? b = some o) → Q' (.ref a) { s with heap := h2, toks := t2 } → wpAny (model prog w) A' (eval (.Name x p) (newEnv scope s.heap.objs.size mainGlobals clo (q ++ ".<locals>.") (some f) (.ref c') none builtinsNs)) Q' E' { s with heap := h2, toks := t2 } := fun {p A' E' Q' h2 t2} k2 hQ =>
      wpAny_Name (wpAny_loadName_local hk hx (hns.keeps k2) (by simp [List.lookup]) hQ) hxd
    refine Calls.spliced_cons ?_
    refine wpAny_Call_Name_kw (Calls.Name_function_global hk hlen (Calls.loadGlobal_builtin (hg.keeps kp) hml (hb.keeps kp) hbl ?_) (by decide))
    refine PyProof.Rows.callWith_builtin1 (Calls.spliced_cons (loc (fun _ _ e => e) (Calls.spliced_nil ?_))) rfl rfl
    have ht1 : h₁.IsTuple a vs := let ⟨o, e, r⟩ := ht; ⟨o, kp _ _ e, r⟩
    refine PyProof.Rows.len_tuple (s := { s with heap := h₁, toks := s.toks + [(x, Value.ref a)].length }) ht1 (by rw [sizeLine_eq] at hsz; omega) ?_
    refine Calls.spliced_cons (loc (fun _ _ e => e) (Calls.spliced_nil (wpAny_newTuple ?_ (by rw [sizeLine_eq]; show 2 ≤ _; omega))))
    have k2 : ∀ b o, s.heap.get? b = some o → (h₁.push { cls := .type "tuple", data := .seq #[.int vs.size (s.toks + [(x, Value.ref a)].length + 1), .ref a] }).get? b = some o := fun b o e => Heap.get?_push_of_some _ (kp b o e)
    refine ⟨_, _, rfl, k2, .tuple (Heap.get?_push_size _ rfl) rfl rfl ?_⟩
    exact .cons (as := []) (bs := []) (.int _ _) (.cons (as := []) (bs := []) (PyProof.Rows.Reads.keeps k2 hr) .nil)
mutual
def noL : PyData → Bool
  | .tuple xs => noLs xs
  | .list _ => false
  | .dict _ => false
  | _ => true
def noLs : List PyData → Bool
  | [] => true
  | x :: xs => noL x && noLs xs
end
mutual
theorem reads_nil {h : Heap} : ∀ {p : PyData} {v : Value} {as : List Addr}, noL p = true → Reads h v p as → as = []
  | _, _, _, _, .none => rfl
  | _, _, _, _, .bool b => rfl
  | _, _, _, _, .int i t => rfl
  | _, _, _, _, .str x t => rfl
  | _, _, _, n, .list _ _ _ _ => by rw [noL] at n; cases n
  | _, _, _, n, .tuple _ _ _ h4 => by rw [noL] at n; exact readsAll_nil n h4
  | _, _, _, n, .dict _ _ _ _ _ => by rw [noL] at n; cases n
theorem readsAll_nil {h : Heap} : ∀ {p : List PyData} {v : List Value} {as : List Addr}, noLs p = true → ReadsAll h v p as → as = []
  | _, _, _, _, .nil => rfl
  | _, _, _, n, .cons h1 h2 => by
    rw [noLs, Bool.and_eq_true] at n
    rw [reads_nil n.1 h1, readsAll_nil n.2 h2]
    rfl
end
def keyL : PyData → PyData
  | .tuple ps => .tuple [.int ps.length, .tuple ps]
  | _ => .none
def leL (a b : D × PyData) : Bool := !dataLt (keyL b.2) (keyL a.2)
theorem srt_eqL (ps : List (D × PyData)) : ps.mergeSort (dataLe false fun b : D × PyData => keyL b.2) = isort leL ps := by
  have T := PySem.W.sortLe_total (PyProof.Rows.listOrd PyProof.Rows.itemOrd) false fun b : D × PyData => PySem.W.keyToks (keyL b.2)
  have e : (leL : D × PyData → D × PyData → Bool) = dataLe false (fun b : D × PyData => keyL b.2) := rfl
  rw [← e]
  refine isort_eq ?_ ?_ ps
  · exact T.trans
  · exact fun a b => by
      rw [Bool.or_eq_true]
      exact T.total a b
def alL (l : List (D × PyData)) : Bool := l.all fun x => l.all fun y => alike (keyL x.2) (keyL y.2)
def lenP : PyData → Nat
  | .tuple xs => xs.length
  | _ => 0
def sortL (hp : Hd) (ds : List D) : Option (List D) := match pairD hp ds with
  | some ps => if alL ps = true ∧ (ps.all fun x => isTupB x.2 && noL x.2 && decide (x.2.depth ≤ 50 ∧ lenP x.2 ≤ big)) = true then some ((isort leL ps).map (·.1)) else none
  | none => none
def mSortL (m : M D) : M D := bnd m fun d => lft fun hp => match d with
  | .ref n => (match lstOf hp n with
    | some ds => if ds.length ≤ big then (match sortL hp ds with
      | some out => some (.ref hp.n, hp.push (.lst out))
      | none => none) else none
    | none => none)
  | _ => none
section
variable {X : Cx} {pins : List (Addr × Obj)} {σ : L2.St} {H : Hp} {s : Shared} {ad : List Addr} {hp : Hd}
/-- a code object is no object of ours -/
theorem code_out {c : Addr} {q : Str} {o : O} (I : Inv X pins σ H s) (r : OR (en X) ad H c o) (e : H c = some (LamX.CodeO c q)) : False := by
  obtain ⟨⟨oc, vs, t, e1, e2, _⟩, _⟩ := I.hok c _ e
  have go : ∀ {o u}, HI (en X) ad H c o u → H c = some u → False := fun {o u} hi hu => by
    cases o with
    | lst ds => obtain ⟨ws, rfl, _⟩ := hi; rw [e] at hu; cases hu
    | dic kvs =>
      obtain ⟨ws, rfl, _⟩ := hi
      obtain ⟨o', es, ep, g1, _, g2, _⟩ := dic_raw I (.inl hu)
      rw [e1] at g1; cases g1
      rw [e2] at g2; cases g2
    | ins c fs => obtain ⟨C, dx, gs, _, rfl, _⟩ := hi; rw [e] at hu; cases hu
    | slt c' fs =>
      obtain ⟨C, dx, ws, _, hs, _⟩ := hi
      rcases hs with ⟨rfl, _, _⟩ | ⟨rfl, hx⟩
      · rw [e] at hu; cases hu
      · obtain ⟨⟨sl, g1, _⟩, _⟩ := I.hok c _ hu
        rw [e1] at g1
        cases g1
        cases e2
    | lk o => exact hi.elim
  cases o with
  | lk o => obtain ⟨ob, u, e', _⟩ := r; rw [e] at e'; cases e'
  | lst _ => obtain ⟨u, e', hi⟩ := r; exact go hi e'
  | dic _ => obtain ⟨u, e', hi⟩ := r; exact go hi e'
  | ins _ _ => obtain ⟨u, e', hi⟩ := r; exact go hi e'
  | slt _ _ => obtain ⟨u, e', hi⟩ := r; exact go hi e'
/-- the tables grow -/
theorem HR.lam {H' : Hp} {s' : Shared} (hr : HR (en X) ad H hp) (x : LamX.ExtN H H') (I : Inv X pins σ H' s') (t : LamX.Tabs (tabT (en X)) H') : Ex (en X) H H' ∧ HR (en X) ad H' hp := by
  have ex : Ex (en X) H H' := by
    refine ⟨fun a xs h => sqT_same' h, fun a o u e => x _ _ e fun ps z => nomatch z⟩
  have ob : ∀ b, b ∈ ad → H' b = H b := fun b m => by
    obtain ⟨i, hi⟩ := List.getElem?_of_mem m
    obtain ⟨o, _, r⟩ := hr.ob i b hi
    obtain ⟨u, e, _⟩ := r.there
    rw [e]
    refine x _ _ e fun ps z => ?_
    subst z
    cases o with
    | lk o => obtain ⟨ob, u, e', _⟩ := r; rw [e] at e'; cases e'
    | lst _ => obtain ⟨u, e', hi⟩ := r; rw [e] at e'; cases e'; exact hi.mut
    | dic _ => obtain ⟨u, e', hi⟩ := r; rw [e] at e'; cases e'; exact hi.mut
    | ins _ _ => obtain ⟨u, e', hi⟩ := r; rw [e] at e'; cases e'; exact hi.mut
    | slt _ _ => obtain ⟨u, e', hi⟩ := r; rw [e] at e'; cases e'; exact hi.mut
  have ow : ∀ b c o, b ∈ ad → Sd b o → H c = some o → H' c = some o := fun b c o m sd e => x _ _ e fun ps z => by
    subst z
    rcases sd with y | y <;> cases y
  refine ⟨ex, hr.step ex ob ow fun p hp => ?_⟩
  obtain ⟨ps, h1, h2, h3⟩ := t p hp
  refine ⟨ps, h1, h2, fun pos cv hc => ?_⟩
  obtain ⟨c, e1, e2⟩ := h3 pos cv hc
  refine ⟨c, e1, e2, fun m => ?_⟩
  obtain ⟨i, hi⟩ := List.getElem?_of_mem m
  obtain ⟨o, _, r⟩ := hr.ob i c hi
  exact code_out I (r.mono ex (List.prefix_refl _) (ob c m) (fun c' o' => ow c c' o' m)) e2
where
  sqT_same' {a : Addr} {xs : List V} (h : SqT (en X).K H a xs) : SqT (en X).K H' a xs := by
    rcases h with (h | ⟨o, h⟩) | h
    · exact .inl (.inl (x _ _ h fun ps z => nomatch z))
    · exact .inl (.inr ⟨o, x _ _ h fun ps z => nomatch z⟩)
    · exact .inr h
end
section
variable {X : Cx}
/-- what the lambda's maker must have -/
structure LamM (X : Cx) (q : Str) : Prop where
  ex : ∃ c P, LamX.TabB X.base X.mg c P ∧ X.env.code = .ref c ∧ (P, q) ∈ tabT (en X) ∧ ∀ p ∈ tabT (en X), p.1 = P → p.2 = q
theorem each_and {α β : Type} {R R' : α → β → Prop} : ∀ {as : List α} {bs : List β}, EachIs R as bs → EachIs R' as bs → EachIs (fun a b => R a b ∧ R' a b) as bs
  | _, _, .nil, _ => .nil
  | _, _, .cons h t, .cons h' t' => .cons ⟨h, h'⟩ (each_and t t')
theorem le_sortL {fx x : Str} {p pos lpos p1 p2 p3 p4 p5 kpos : Pos} {kt : Nat} {e : Expr} {me : M D} {params : Arguments} {scope : Scope} (hc : X.calm = true) (hroom : X.A.depth < recursionLimit) (hu : X.A.units + 64 < cLine) (L : LamM X (X.env.qual ++ "<lambda>")) (he : PE X e (rE (en X) me)) (hg : Gl X fx) (hm : X.mg fx = none) (hv : bootBuiltins fx = some (.builtin "sorted")) (hml : X.mg "len" = none)
    (hco : scope.isCoroutine = false) (hgen : scope.isGenerator = false) (hk : scope.kind = .function) (hcl : ∀ y ∈ scope.names, y.2 ≠ .cell) (hfree : ∀ y ∈ scope.names, y.2 ≠ .free) (hx : scope.names.lookup x = some .local) (hlen : scope.names.lookup ("len" : Str) = some .globalImplicit) (hdef : defaultsOf params X.env = ([], []))
    (hbind : ∀ (q : Str) (clo : List (Str × Addr)) (pm cdv ctv v : Value), bindArgs (PySem.W.kla_fn "<lambda>" q params (.Tuple [.Call (.Name "len" p1) [.Name x p2] [] p3, .Name x p4] kt p5) scope clo pm cdv ctv) ⟨[v], []⟩ = pure [(x, v)])
    (hn : fx ≠ "__name__" := by decide) (hdb : (fx == ("__debug__" : Str)) = false := by decide) (hxd : (x == ("__debug__" : Str)) = false := by decide)
    (hst : starEach [e] X.env = (false, eval e X.env) :: starEach [] X.env := by rfl) :
    PE X (.Call (.Name fx p) [e] [⟨some "key", .Lambda params (.Tuple [.Call (.Name "len" p1) [.Name x p2] [] p3, .Name x p4] kt p5) scope lpos, kpos⟩] pos) (rE (en X) (mSortL me)) := by
  refine ⟨fun pins s σ H Q I h => ?_⟩
  obtain ⟨ρ, hp, ad, d, hp', st, e0, q⟩ := h
  obtain ⟨d1, h1, e1, e2⟩ := bnd_inv e0
  simp only [lft] at e2
  split at e2
  case h_2 => cases e2
  rename_i n
  split at e2
  case h_2 => cases e2
  rename_i items el
  split at e2
  case isFalse => cases e2
  rename_i hz
  split at e2
  case h_2 => cases e2
  rename_i out eo
  cases e2
  unfold sortL at eo
  split at eo
  case h_2 => cases eo
  rename_i ps ep
  split at eo
  case isFalse => cases eo
  rename_i hok
  cases eo
  obtain ⟨hal, hsh⟩ := hok
  refine wpAny_Call_Name_kw (ld_blt I hg hm hv ?_ hn hdb)
  refine PyProof.Rows.callWith_kw (kws := [⟨some "key", .Lambda params (.Tuple [.Call (.Name "len" p1) [.Name x p2] [] p3, .Name x p4] kt p5) scope lpos, kpos⟩]) (thn ((pa_cons he pa_nil hst).run pos pins s σ H (fun vs H1 => ∃ v ad1, vs = [v] ∧ Ex (en X) H H1 ∧ ad <+: ad1 ∧ HR (en X) ad1 H1 h1 ∧ RD (en X) ad1 H1 (.ref n) v) I ⟨ρ, hp, ad, .ref n, h1, st, e1, fun v H' ad' x p r k => ⟨v, ad', rfl, x, p, r, k⟩⟩) fun us s1 ⟨vs, H1, I1, r1, v, ad1, ev, x1, q1, hr1, k1⟩ => ?_) (by rw [hst]; rfl) (by rw [hst]; rfl) rfl rfl
  subst ev
  obtain ⟨u, rfl, ru⟩ := r1.one
  obtain ⟨a, rfl, ha⟩ := k1.r
  cases (show u = Value.ref a from ru)
  obtain ⟨c, P, TB, hcode, hmem, huni⟩ := L.ex
  have T1 : LamX.Tabs (tabT (en X)) H1 := fun p hp => by
    obtain ⟨ps, g1, g2, g3⟩ := hr1.tab p hp
    exact ⟨ps, g1, g2, fun pos cv hcv => let ⟨c, z1, z2, _⟩ := g3 pos cv hcv; ⟨c, z1, z2⟩⟩
  show wpAny _ _ (evalAll [(do let v ← eval (.Lambda params (.Tuple [.Call (.Name "len" p1) [.Name x p2] [] p3, .Name x p4] kt p5) scope lpos) X.env; standAt pos; pure v)]) _ _ s1
  refine wpAny_evalAll_cons (wpAny_bind (LamX.lam_make2 I1 TB hcode hmem huni T1 hdef (fun y hy z => (hfree y hy z).elim) fun f c' pm ctv H2 s2 I2 xN T2 of nf nfr hc' => wpAny_bind (wpAny_standAt (wpAny_pure (wpAny_evalAll_nil ?_)))))
  obtain ⟨x2, hr2⟩ := HR.lam hr1 xN I2 T2
  obtain ⟨ws, hq, rd⟩ := hr2.lstR el ha
  obtain ⟨its, rv, pl, _⟩ := I2.list hq
  obtain ⟨g1, g2, g3⟩ := each_of I2 hr2 rd rv ep
  have hall : ∀ y ∈ ps, isTupB y.2 = true ∧ noL y.2 = true ∧ y.2.depth ≤ 50 ∧ lenP y.2 ≤ big := fun y hy => by
    have := List.all_eq_true.mp hsh y hy
    rw [Bool.and_eq_true, Bool.and_eq_true] at this
    exact ⟨this.1.1, this.1.2, by simpa using this.2⟩
  have hpl : ps.length = items.length := by rw [← g3, List.length_map]
  have hpz : ps.length ≤ sizeLine := by rw [hpl]; exact big_ok hz
  have tupK : ∀ y ∈ ps, ∃ z zs, y.2 = .tuple (z :: zs) := fun y hy => by
    have := (hall y hy).1
    unfold isTupB at this
    split at this
    · rename_i a b e; exact ⟨a, b, e⟩
    · cases this
  obtain ⟨⟨oc, cvs, ct, hoc, hdc, hvc⟩, _⟩ := I2.hok c' _ hc'
  obtain ⟨mb, hb1, hb2⟩ := I2.mod.blt
  have both := each_and g1 g2
  have kAl : AllAlike (ps.map fun b => keyL b.2) := fun d hd d' hd' => by
    obtain ⟨y, hy, rfl⟩ := List.mem_map.mp hd
    obtain ⟨y', hy', rfl⟩ := List.mem_map.mp hd'
    exact List.all_eq_true.mp (List.all_eq_true.mp hal y hy) y' hy'
  have kSr : Sortable (ps.map fun b => keyL b.2) := .inl fun d hd => by
    obtain ⟨y, hy, rfl⟩ := List.mem_map.mp hd
    obtain ⟨z, zs, ez⟩ := tupK y hy
    rw [ez]
    exact ⟨_, _, rfl⟩
  have kDp : ∀ y, y ∈ ps → X.A.units + 2 + (keyL y.2).depth < cLine := fun y hy => by
    obtain ⟨z, zs, ez⟩ := tupK y hy
    have h5 := (hall y hy).2.2.1
    rw [ez] at h5 ⊢
    have : (keyL (.tuple (z :: zs))).depth ≤ (PyData.tuple (z :: zs)).depth + 1 := by
      unfold keyL
      simp [PyData.depth, PyData.depthAll]
    omega
  show wpAny _ _ (call (.builtin "sorted") [.ref a] [(Str.ofString "key", .ref f)]) _ _ s2
  refine PySem.W.sorted_key_data (b := false) (bs := ps) (vs := its) (fun b : D × PyData => keyL b.2) pl.isList both kAl kSr hpz kDp (ksk_s1 _ _) (fun _ => ksk_l1 _ _) (fun _ => ksk_t1 _ _) (fun v y ⟨ri, as, rr⟩ hy h tk kp => ?_) fun o cc h' tk kp nn hD ol he => ?_
  · obtain ⟨z, zs, ez⟩ := tupK y hy
    have en := reads_nil (hall y hy).2.1 rr
    subst en
    rw [ez] at rr
    cases rr with
    | @tuple b ob items n xs as h1 h2 h3 h4 =>
      have hsz : items.size = (z :: zs).length := by
        have := PySem.W.readsAll_len h4
        exact this
      have hb : keyL y.2 = .tuple [.int items.size, .tuple (z :: zs)] := by rw [ez, hsz]; rfl
      rw [hb]
      have kg : h.Ns mainGlobals X.mg := (I2.mod.glob.keeps I2.bk).keeps kp
      refine key_len (s := { s2 with heap := h, toks := tk }) (kp _ _ of) (by simpa using hroom) ⟨c', oc, cvs, ct, rfl, kp _ _ hoc, hdc, hvc⟩ (I2.nolimit.keeps kp) hco hgen hk hcl hx hlen hxd (hbind _ _ _ _ _ _) kg hml ((hb1.keeps I2.bk).keeps kp) ((hb2 _ (by decide)).trans boot_len) ⟨ob, kp _ _ h1, h2, n, h3⟩ ?_ (.tuple (kp _ _ h1) h2 h3 (PyProof.Rows.ReadsAll.keeps kp h4))
      have h6 := (hall y hy).2.2.2
      rw [ez] at h6
      rw [hsz]
      exact big_ok h6
  · have he2 : EachIs (RIt (en X) ad1 H2) o (isort leL ps) := by rw [← srt_eqL]; exact he.mono fun _ _ z => z.1
    obtain ⟨ws2, rv2, rd2⟩ := of_each he2
    have hl2 : ws2.length ≤ sizeLine := by rw [← rd2.length, List.length_map, isort_len]; exact hpz
    exact ⟨.ref (s2.heap.objs.size + 1), _, I2.laid (o := .lst ws2) (t' := tk) kp (Nat.le_succ _) ⟨hl2, o, cc, rv2, hD⟩, rfl, lst_new hr2 (I2.hok.fresh (Nat.le_succ _)) rd2 ((q.next x1 q1).next x2 (List.prefix_refl _))⟩
end
end DL
namespace DL
open PySem PySem.Spec PyProof.Rows L2

def visB (sc : Scope) (x : Str) : Bool := match sc.names.lookup x with
  | some .local => true
  | some .cell => true
  | some .free => true
  | _ => false
theorem vis_by {sc : Scope} {x : Str} (h : visB sc x = true) : Vis sc x := by
  unfold visB at h
  split at h
  · rename_i e; exact .inl e
  · rename_i e; exact .inr (.inl e)
  · rename_i e; exact .inr (.inr e)
  · cases h
def locB (sc : Scope) (x : Str) : Bool := match sc.names.lookup x with
  | some .local => true
  | some .cell => true
  | _ => false
theorem loc_by {sc : Scope} {x : Str} (h : locB sc x = true) : Loc sc x := by
  unfold locB at h
  split at h
  · rename_i e; exact .inl e
  · rename_i e; exact .inr e
  · cases h
theorem ru0 {k : Nat} {A : Around} (r : Room k A) : A.units < cLine := by have := r.un; omega
theorem ru4 {k : Nat} {A : Around} (r : Room k A) : A.units + 64 < cLine := by have := r.un; omega
theorem ru5 {k : Nat} {A : Around} (r : Room k A) : A.units + 65 < cLine := by have := r.un; omega
theorem rdp {k : Nat} {A : Around} (r : Room k A) : A.depth < recursionLimit := by have := r.dp; omega
/-- a def, all of it -/
def Ok (P : Program) (w : World) (K : PySem.W.Frag) (mg : Str → Option Value) (base : Heap) (k : Nat) (f : Addr) (ps : List Str) (F : List D → Hd → Option (D × Hd)) : Prop :=
  ∃ fd, FnOk P w K mg base CX0 k f fd ps (spM P w K mg F) ∧ Binds K fd ps [] ∧ PySem.W.keepIn K (.ref f) = true
section
variable {X : Cx} {k : Nat} {f C : Addr} {ps : List Str} {F : List D → Hd → Option (D × Hd)} {x m : Str} {p pos apos : Pos} {e o : Expr} {es : List Expr} {ms : M (List D)} {mo : M D}
theorem le_callO (G : Ok X.prog X.w X.K X.mg X.base k f ps F) (hr : Room k X.A) (hg : Gl X x) (hm : X.mg x = some (.ref f)) (ha : PA X (e :: es) (rA (en X) ms)) (hdb : (x == ("__debug__" : Str)) = false := by decide)
    (he : starEach (e :: es) X.env = (false, eval e X.env) :: starEach es X.env := by rfl) (hpl : (backTo pos (starEach es X.env)).any (·.1) = false := by rfl) : PE X (.Call (.Name x p) (e :: es) [] pos) (rE (en X) (mCall F ms)) := by
  obtain ⟨fd, g, b, kp⟩ := G
  exact le_call g hr hg hm kp b ha hdb he hpl
theorem le_callO0 (G : Ok X.prog X.w X.K X.mg X.base k f ps F) (hr : Room k X.A) (hg : Gl X x) (hm : X.mg x = some (.ref f)) (hdb : (x == ("__debug__" : Str)) = false := by decide) : PE X (.Call (.Name x p) [] [] pos) (rE (en X) (mCall F (pur []))) := by
  obtain ⟨fd, g, b, kp⟩ := G
  exact le_call0 g hr hg hm kp b hdb
theorem le_makeO {sl : Bool} (M : Mk X.K C f) (G : Ok X.prog X.w X.K X.mg X.base k f ps F) (hr : Room (k + 1) X.A) (hg : Gl X x) (hm : X.mg x = some (.ref C)) (ha : PA X (e :: es) (rA (en X) ms)) (hdb : (x == ("__debug__" : Str)) = false := by decide)
    (he : starEach (e :: es) X.env = (false, eval e X.env) :: starEach es X.env := by rfl) (hpl : (backTo pos (starEach es X.env)).any (·.1) = false := by rfl) : PE X (.Call (.Name x p) (e :: es) [] pos) (rE (en X) (mMake sl x F ms)) := by
  obtain ⟨fd, g, b, kp⟩ := G
  exact le_make M g hr hg hm b ha hdb he hpl
theorem le_methSO {c : Str} {pl : Sem Bool} (ho : PE X o (rE (en X) mo)) (hc : X.mg c = some (.ref C)) (cl : SlX.SCls X.K C) (hm : Meth X.K C m f) (G : Ok X.prog X.w X.K X.mg X.base k f ps F) (hr : Room k X.A) (ha : PA X (e :: es) (rA (en X) ms))
    (hst : starEach (e :: es) X.env = (false, eval e X.env) :: starEach es X.env := by rfl) (hpl : (backTo pos (starEach es X.env)).any (·.1) = false := by rfl)
    (ht : eval (.Call (.Attribute o m apos) (e :: es) [] pos) X.env = (do
      let ov ← eval o X.env
      standAt apos.atName
      let (f, first) ← holding [ov] (getMethod ov m pl)
      callWith pos f first (backTo pos (starEach (e :: es) X.env)) (backToKw pos (keywordEach [] X.env))) := by rfl) :
    PE X (.Call (.Attribute o m apos) (e :: es) [] pos) (rE (en X) (mMS c F mo ms)) := by
  obtain ⟨fd, g, b, kp⟩ := G
  exact le_methS ho hc cl hm (fnR_of g b) hr ha hst hpl ht
theorem le_methIO {c : Str} {pl : Sem Bool} (ho : PE X o (rE (en X) mo)) (hc : X.mg c = some (.ref C)) (cl : Cls X.K C) (hm : Meth X.K C m f) (G : Ok X.prog X.w X.K X.mg X.base k f ps F) (hr : Room k X.A) (ha : PA X (e :: es) (rA (en X) ms))
    (hst : starEach (e :: es) X.env = (false, eval e X.env) :: starEach es X.env := by rfl) (hpl : (backTo pos (starEach es X.env)).any (·.1) = false := by rfl)
    (ht : eval (.Call (.Attribute o m apos) (e :: es) [] pos) X.env = (do
      let ov ← eval o X.env
      standAt apos.atName
      let (f, first) ← holding [ov] (getMethod ov m pl)
      callWith pos f first (backTo pos (starEach (e :: es) X.env)) (backToKw pos (keywordEach [] X.env))) := by rfl) :
    PE X (.Call (.Attribute o m apos) (e :: es) [] pos) (rE (en X) (mMI c m F mo ms)) := by
  obtain ⟨fd, g, b, kp⟩ := G
  exact le_methI ho hc cl hm g hr b ha hst hpl ht
theorem le_gI {i : Int} (hg : Gl X x) (hm : ∃ t, X.mg x = some (.int i t)) (hd : (x == ("__debug__" : Str)) = false := by decide) : PE X (.Name x pos) (rE (en X) (pur (.int i))) := by
  obtain ⟨t, h⟩ := hm
  exact le_globI hg h hd
theorem le_gS {i : Str} (hg : Gl X x) (hm : ∃ t, X.mg x = some (.str i t)) (hd : (x == ("__debug__" : Str)) = false := by decide) : PE X (.Name x pos) (rE (en X) (pur (.str i))) := by
  obtain ⟨t, h⟩ := hm
  exact le_globS hg h hd
end
theorem ok_of {P : Program} {w : World} {K : PySem.W.Frag} {mg : Str → Option Value} {base : Heap} {x qual : Str} {params : Arguments} {body : List Stmt} {scope : Scope} {kws : List (Str × V)} {f : Addr} {N ps : List Str} {k : Nat} {m : S}
    (F : ∃ fd, FunD K x qual params body scope [] kws f fd) (sc : FnScope N ps scope)
    (hbn : ∀ (kV doc pm : Value) (an : Option Addr) (cdv ct : Value) (us : List Value), us.length = ps.length → bindArgs (PySem.W.fnOf x qual params body scope .none kV doc pm an cdv ct) ⟨us, []⟩ = pure (ps.zip us))
    (hb : ∀ (cdv : Value) (A : Around) (outer : List Env) (s : Shared) (H : Hp) (E : XK), Room k (A.deeper (envOfC qual scope s.heap.objs.size f cdv)) → PSs (cxOf CX0 P w K mg base N qual scope f cdv A outer s H E).nox body (rS ⟨P, w, K, mg⟩ m)) :
    Ok P w K mg base (k + 1) f ps (runB ps.length N.length m) := by
  obtain ⟨fd, F⟩ := F
  exact ⟨fd, fn_ok F sc hb, F.bindsN hbn, F.kp⟩
def FldS0 (K : PySem.W.Frag) (mg : Str → Option Value) (f c : Str) : Prop := ∃ C p i, mg c = some (.ref C) ∧ SlX.SCls K C ∧ SlX.Slot1 K C f p i
def FldD0 (K : PySem.W.Frag) (mg : Str → Option Value) (f c : Str) : Prop := ∃ C, mg c = some (.ref C) ∧ Cls K C ∧ NoAttr K C f
def SetS (K : PySem.W.Frag) (mg : Str → Option Value) (c f : Str) (fl : List Str) : Prop := ∃ C p i, mg c = some (.ref C) ∧ SlX.SCls K C ∧ SlX.Slot1 K C f p i ∧ ∀ g ∈ fl, g ≠ f → ∃ q j, SlX.Slot1 K C g q j ∧ j ≠ i
structure Ans0 (K : PySem.W.Frag) (mg : Str → Option Value) (us : List Value) (tb : List (String × Bool)) (to : List (Str × Bool)) : Prop where
  b : ∀ p ∈ tb, PySem.W.kitAny K (.type p.1) us = some p.2
  o : ∀ p ∈ to, ∃ C, mg p.1 = some (.ref C) ∧ (OwnS K C ∨ OwnI K C) ∧ PySem.W.kitAny K (.ref C) us = some p.2
theorem ans_of {X : Cx} {us : List Value} {tb : List (String × Bool)} {to : List (Str × Bool)} (h : Ans0 X.K X.mg us tb to) : Ans X us tb to := ⟨h.b, h.o⟩
/-- what a maker of lambdas has -/
def LamF (K : PySem.W.Frag) (mg : Str → Option Value) (base : Heap) (p : He.Defn) (q : Str) : Prop := ∃ P, LamX.TabB base mg (He.codeOf K p) P ∧ (P, q) ∈ lamTf.map (fun p => ((He.cT K p.1).2, p.2)) ∧ ∀ r ∈ lamTf.map (fun p => ((He.cT K p.1).2, p.2)), r.1 = P → r.2 = q
theorem lamM_of {X : Cx} {p : He.Defn} {q : Str} (hcode : X.env.code = .ref (He.codeOf X.K p)) (h : LamF X.K X.mg X.base p q) : LamM X q := by
  obtain ⟨P, h1, h2, h3⟩ := h
  exact ⟨_, P, h1, hcode, h2, h3⟩
theorem ok_ofL {P : Program} {w : World} {K : PySem.W.Frag} {mg : Str → Option Value} {base : Heap} {x qual : Str} {params : Arguments} {body : List Stmt} {scope : Scope} {kws : List (Str × V)} {p : He.Defn} {N ps : List Str} {k : Nat} {m : S}
    (F : ∃ fd, FunD K x qual params body scope [] kws (He.fAd K p) fd) (sc : FnScope N ps scope)
    (hbn : ∀ (kV doc pm : Value) (an : Option Addr) (cdv ct : Value) (us : List Value), us.length = ps.length → bindArgs (PySem.W.fnOf x qual params body scope .none kV doc pm an cdv ct) ⟨us, []⟩ = pure (ps.zip us))
    (hb : ∀ (cdv : Value) (A : Around) (outer : List Env) (s : Shared) (H : Hp) (E : XK), cdv = .ref (He.codeOf K p) → Room k (A.deeper (envOfC qual scope s.heap.objs.size (He.fAd K p) cdv)) → PSs (cxOf CX0 P w K mg base N qual scope (He.fAd K p) cdv A outer s H E).nox body (rS ⟨P, w, K, mg⟩ m)) :
    Ok P w K mg base (k + 1) (He.fAd K p) ps (runB ps.length N.length m) := by
  obtain ⟨fd, F⟩ := F
  refine ⟨fd, ⟨fun vs H Q E h => ?_, fun A outer s H args us vs Q E hr e0 hB r h => ?_⟩, F.bindsN hbn, F.kp⟩
  · obtain ⟨ad, hp, ds, d, hp', hr, k, e, _⟩ := h
    unfold runB at e
    split at e
    · rename_i hl
      rw [← k.length]; exact hl
    · cases e
  · obtain ⟨oc, od, dV, kV, doc, pm, an, cdv, ct, osl, rfl, lk, hcd, hD, hK⟩ := F.ex
    obtain ⟨c, rfl⟩ := He.codeIn_ref hcd
    have ec := He.codeOf_eq lk rfl
    obtain ⟨ad, hp, ds, d, hp', hr1, kk, e, q⟩ := h
    unfold runB at e
    split at e
    case isFalse => cases e
    rename_i hl
    refine LamX.run_ofS lk hcd sc hr e0 hB r (by rw [← kk.length]; exact hl) fun hrb => ⟨_, (hb _ A outer s H E (by rw [ec]) hrb).nox, ?_⟩
    split at e
    · rename_i d' ρ' h' e1
      cases e
      exact ⟨_, hp, ad, .rt d, ρ', hp', start_ok hr1 kk, e1, q⟩
    · rename_i ρ' h' e1
      cases e
      exact ⟨_, hp, ad, .nx, ρ', hp', start_ok hr1 kk, e1, fun σ' H' ad' x p s1 => q .non H' ad' x p s1.h (by rw [RD])⟩
    · cases e
theorem ok_none {P : Program} {w : World} {K : PySem.W.Frag} {mg : Str → Option Value} {base : Heap} {x qual : Str} {params : Arguments} {body : List Stmt} {scope : Scope} {kws : List (Str × V)} {f : Addr} {ps : List Str} {k : Nat}
    (F : ∃ fd, FunD K x qual params body scope [] kws f fd) (hbn : ∀ (kV doc pm : Value) (an : Option Addr) (cdv ct : Value) (us : List Value), us.length = ps.length → bindArgs (PySem.W.fnOf x qual params body scope .none kV doc pm an cdv ct) ⟨us, []⟩ = pure (ps.zip us)) :
    Ok P w K mg base k f ps (fun _ _ => none) := by
  obtain ⟨fd, F⟩ := F
  refine ⟨fd, ⟨fun vs H Q E h => ?_, fun A outer s H args us vs Q E hr e0 hb r h => ?_⟩, F.bindsN hbn, F.kp⟩
  · obtain ⟨_, _, _, _, _, _, _, e, _⟩ := h; cases e
  · obtain ⟨_, _, _, _, _, _, _, e, _⟩ := h; cases e
end DL
namespace DL
open PySem PySem.Spec PyProof.Rows L2

/-- the end, the known part found by the head -/
theorem walk_ofX {l : PySem.W.OpenLaw} {n k : Nat} {q : Program} {loose : List Str} {XP : (Str → Option Value) → Heap → Prop} {YP : World → Heap → Prop} {d : DefRec} {x : Str} (hn : l.most = some n) (hn2 : n ≤ sizeLine) (hdf : d.params.defaults = []) (hr : Room k callerA)
    (F : ∀ (w : World) (mg : Str → Option Value) (fa : Addr) (h : Heap), YP w h → h.Ns mainGlobals mg → mg d.name = some (.ref fa) → ∃ K : PySem.W.Frag, K.In h ∧ LamX.LawAtS l w K CX0 k n x mg fa h) :
    PySem.W.WalkO q loose XP YP l.row.toRowW d [] (fun f vs => PySem.call f vs) := by
  refine Att.attach_callB hn hdf fun w s₀ s₁ mg mb fa o pm cd doc a vs ns G Y ho hd hcd hmg hobj hints hlen hbits hg => ?_
  obtain ⟨K, KX, fd, cs, sp, hT, nT, C, hb, hsp, hF⟩ := F w mg fa _ Y G.T.g hmg
  exact LamX.law_callTs KX G.T.g G.T.b G.T.builtins G.T.nolimit hg hT nT C G.T.bmain hobj hints (Nat.le_trans hlen hn2) hr hF hb (fun H hH hS => hsp H a ns hlen hbits hH hS) fun H e s' z => z
/-- the script's two forms -/
structure Says (f : List D → Hd → Option (D × Hd)) (n : Nat) : Prop where
  a : ∀ ns : List Int, ns.length ≤ n → ∃ h, f [.kl ns] Hd.empty = some (.bl true, h)
  b : ∀ ns : List Int, ns.length ≤ n → ∃ h, f [.ref 0] (Hd.empty.push (.lst (ns.map .int))) = some (.bl true, h)
theorem law_says {P : Program} {w : World} {K : PySem.W.Frag} {mg : Str → Option Value} {f : List D → Hd → Option (D × Hd)} {n : Nat} (s : Says f n) (H : Hp) (a : Addr) (ns : List Int) (hl : ns.length ≤ n) (hT : ∀ p ∈ lamTf.map (fun p => He.cT K p.1), H p.2 = some (.tbl #[])) (hS : SqL K H a (ns.map V.int)) :
    spM P w K mg f [.ref a] H (fun v _ => v = .bl true) fun _ _ _ => False := by
  have tb : ∀ ad, TabsX ⟨P, w, K, mg⟩ ad H := fun ad p hp => by
    obtain ⟨r, hr, rfl⟩ := List.mem_map.mp hp
    refine ⟨#[], hT _ (List.mem_map.mpr ⟨r, hr, rfl⟩), True.intro, fun pos cv hc => ?_⟩
    have z : codeAmong pos [] = some cv := hc
    simp [codeAmong] at z
  have one : SqK K H a (ns.map V.int) → spM P w K mg f [.ref a] H (fun v _ => v = .bl true) fun _ _ _ => False := fun h => by
    obtain ⟨h', e⟩ := s.a ns hl
    refine ⟨[], Hd.empty, [.kl ns], .bl true, h', ⟨rfl, List.nodup_nil, fun i b e => by simp at e, tb []⟩, .cons (by rw [RD]; exact ⟨a, rfl, h⟩) .nil, e, fun v H' ad' x p r k => k.b⟩
  rcases hS with (h | h) | h
  · obtain ⟨h', e⟩ := s.b ns hl
    refine ⟨[a], _, [.ref 0], .bl true, h', ⟨rfl, by simp, fun i b e => ?_, tb [a]⟩, .cons (by rw [RD]; exact ⟨a, rfl, rfl⟩) .nil, e, fun v H' ad' x p r k => k.b⟩
    cases i with
    | zero => cases e; exact ⟨_, Hd.get_push_same _ _, _, h, _, rfl, rds_ints ns⟩
    | succ i => simp at e
  · exact one (.inl h)
  · exact one (.inr h)
/-- from the printed proof of the law -/
theorem lawAt {l : PySem.W.OpenLaw} {w : World} {K : PySem.W.Frag} {mg : Str → Option Value} {f : List D → Hd → Option (D × Hd)} {k n : Nat} {x : Str} {h : Heap} {fa : Addr} (KX : K.In h) (hd : ∀ p ∈ lamTf.map (·.1), PySem.W.codeHdIn K (He.cT K p).1 (He.cT K p).2 = true) (out : ∀ p ∈ lamTf.map (·.1), K.lookup (He.cT K p).2 = none)
    (em : ∀ p ∈ lamTf.map (·.1), h.get? (He.cT K p).2 = some { cls := .none, data := .fields #[] }) (s : Says f n)
    (ok : ∃ fd, Binds K fd [x] [] ∧ (∀ (s : Shared) (u : Value), BindsTo s fd ⟨[u], []⟩ [(x, u)]) ∧ ∀ base : Heap, K.In base → base.Ns mainGlobals mg → (∀ p ∈ lamTf.map (fun p => He.cT K p.1), LamX.TabB base mg p.1 p.2) → FnOk l.prog w K mg base CX0 k fa fd [x] (spM l.prog w K mg f)) : LamX.LawAtS l w K CX0 k n x mg fa h := by
  obtain ⟨fd, hb, hb2, hF⟩ := ok
  refine ⟨fd, lamTf.map (fun p => He.cT K p.1), spM l.prog w K mg f, fun p hp => ?_, fun p hp => ?_, fun p hp => ?_, hb2, fun H a ns hl _ hT hS => law_says s H a ns hl hT hS, hF⟩
  · obtain ⟨r, hr, rfl⟩ := List.mem_map.mp hp
    exact em _ (List.mem_map.mpr ⟨r, hr, rfl⟩)
  · obtain ⟨r, hr, rfl⟩ := List.mem_map.mp hp
    exact out _ (List.mem_map.mpr ⟨r, hr, rfl⟩)
  · obtain ⟨r, hr, rfl⟩ := List.mem_map.mp hp
    exact PySem.W.codeHd_of_K KX (hd _ (List.mem_map.mpr ⟨r, hr, rfl⟩))
def slotB (K : PySem.W.Frag) (c f : Str) (i : Nat) : Bool := He.eqO (PySem.W.findIn K (.ref (He.ga K c)) f) (some (some (.ref (He.ma K (He.ga K c) f)))) && (decide (PySem.W.specialIn K (.ref (He.ma K (He.ga K c) f)) "__get__" = some (some (.builtin "member_descriptor.__get__"))) && (decide (PySem.W.takesIn K (.ref (He.ma K (He.ga K c) f)) = some true) && (decide (PySem.W.typeIn K (.ref (He.ma K (He.ga K c) f)) = some (.type "member_descriptor")) && (decide (PySem.W.slotIn K (He.ma K (He.ga K c) f) (He.ga K c) = some i) && decide (i < 1000)))))
theorem slotB_ok {K : PySem.W.Frag} {c f : Str} {i : Nat} (h : slotB K c f i = true) : SlX.Slot1 K (He.ga K c) f (He.ma K (He.ga K c) f) i := by
  unfold slotB at h
  obtain ⟨h1, h⟩ := He.ba h
  obtain ⟨h2, h⟩ := He.ba h
  obtain ⟨h3, h⟩ := He.ba h
  obtain ⟨h4, h⟩ := He.ba h
  obtain ⟨h5, h6⟩ := He.ba h
  exact ⟨He.eqO_ok h1, of_decide_eq_true h2, of_decide_eq_true h3, of_decide_eq_true h4, of_decide_eq_true h5, of_decide_eq_true h6⟩
def sclsB (K : PySem.W.Frag) (c : Str) : Bool := PySem.W.plainGet K (He.ga K c) Str.empty && (PySem.W.isClsIn K (He.ga K c) && (PySem.W.plainOver K (He.ga K c) && He.eqO (PySem.W.findIn K (.ref (He.ga K c)) "__setattr__") (some (some (.builtin "object.__setattr__")))))
theorem sclsB_ok {K : PySem.W.Frag} {c : Str} (h : sclsB K c = true) : SlX.SCls K (He.ga K c) := by
  unfold sclsB at h
  obtain ⟨h1, h⟩ := He.ba h
  obtain ⟨h2, h⟩ := He.ba h
  obtain ⟨h3, h4⟩ := He.ba h
  exact ⟨h1, h2, h3, He.eqO_ok h4⟩
def isiB (K : PySem.W.Frag) (c : Str) : Bool := He.eqO (PySem.W.findIn K (.ref (He.ga K c)) "__class__") (some (some (.builtin "object.__class__"))) && (decide (PySem.W.specialIn K (.builtin "object.__class__") "__get__" = some (some (.builtin "getset_descriptor.__get__"))) && (decide (PySem.W.takesIn K (.builtin "object.__class__") = some true) && decide (PySem.W.mroIn K (He.ga K c) (.type "object") = some true)))
theorem isiB_ok {K : PySem.W.Frag} {c : Str} (h : isiB K c = true) : SlX.SIsi K (He.ga K c) := by
  unfold isiB at h
  obtain ⟨h1, h⟩ := He.ba h
  obtain ⟨h2, h⟩ := He.ba h
  obtain ⟨h3, h4⟩ := He.ba h
  exact ⟨He.eqO_ok h1, of_decide_eq_true h2, of_decide_eq_true h3, of_decide_eq_true h4⟩
end DL
namespace DL
open PySem PySem.Spec PyProof.Rows L2
theorem own_len {prog : Program} {w : World} {A : Around} {E : Value → Shared → Prop} {s : Shared} {K : PySem.W.Frag} {x C f : Addr} {ox : Obj} {odd : Option Obj} {Q : Value → Shared → Prop} (X : K.In s.heap) (I : PySem.W.InstAt s.heap x ox C odd) (hs : PySem.W.findIn K (.ref C) "__len__" = some (some (.ref f))) (hf : PySem.W.isFn K (.ref f) = true)
    (h : wpAny (model prog w) A.in1 (call (.ref f) [.ref x]) (fun r s₁ => ∃ (n : Int) (u : Tok), r = Value.int n u ∧ 0 ≤ n ∧ n < 2 ^ 63 ∧ ∀ t, Q (.int n s₁.toks) { s₁ with toks := t }) E s) : wpAny (model prog w) A (call (.builtin "len") [.ref x]) Q E s := by
  refine PySem.Calls.call_function_entry kind_len plain_len entry_len (args_len1 _) ?_
  unfold Builtin.«len»
  refine wpAny_bind (m := oneArg "len" _) (wpAny_pure ?_)
  refine wpAny_bind (m := callSpecial? (.ref x) (Str.ofString "__len__")) (PySem.W.special_fn X I hs (beq_iff_eq.mp hf) (wpAny_mono h (fun r s' hr => ?_) fun _ _ y => y))
  obtain ⟨n, u, rfl, h0, h1, hq⟩ := hr
  refine wpAny_bind (wpAny_holding (wpAny_pure ?_))
  refine wpAny_bind (wpAny_letGo ?_)
  show wpAny _ _ (if n < 0 then _ else _) _ _ _
  rw [if_neg (by omega)]
  show wpAny _ _ (if n ≥ 2 ^ 63 then _ else _) _ _ _
  rw [if_neg (by omega)]
  exact wpAny_bind (wpAny_mkInt (wpAny_pure ⟨_, rfl, hq _⟩))
section
variable {X : Cx}
/-- len(x), own classes among them -/
def lenO (c : Str) (F : List D → Hd → Option (D × Hd)) : Fn
  | [.ref n], hp => (match hp.get n with
    | some (.slt c' _) => if c' = c then (match F [.ref n] hp with
      | some (.int i, h) => if 0 ≤ i ∧ i < 1000000 then some (.int i, h) else none
      | _ => none) else none
    | _ => lenF [.ref n] hp)
  | ds, hp => lenF ds hp
theorem call_lenO {k : Nat} {C f : Addr} {ps : List Str} {c : Str} {F : List D → Hd → Option (D × Hd)} (hc : X.mg c = some (.ref C)) (hs : Meth X.K C "__len__" f) (G : Ok X.prog X.w X.K X.mg X.base k f ps F) (hr : Room (k + 1) X.A) : CallR X (.builtin "len") (rC (en X) (lenO c F)) := by
  intro pins s σ H xs us Q I r ⟨ad, hp, ds, d, hp', hr1, kk, e, q⟩
  unfold lenO at e
  split at e
  · rename_i n
    split at e
    · rename_i c' fs eg
      split at e
      case isFalse => cases e
      rename_i ec
      subst ec
      split at e
      case h_2 => cases e
      rename_i i h e1
      split at e
      case isFalse => cases e
      rename_i hi
      cases e
      obtain ⟨v, rfl, k1⟩ := kk.one
      obtain ⟨a, rfl, ha⟩ := k1.r
      obtain ⟨u, rfl, ru⟩ := r.one
      cases (show u = Value.ref a from ru)
      obtain ⟨uo, eu, C', dx, vs, h4, h5, _⟩ := hr1.at_ ha eg
      have := hc.symm.trans h4
      cases this
      obtain ⟨sl, od, _, J, _⟩ := SlX.slt_inst I (slt_H (ad := ad) eu h5)
      obtain ⟨fd, g, b, kp⟩ := G
      have sp : spM X.prog X.w X.K X.mg F [.ref a] H (fun z H' => z = .int i ∧ Q z H') E0 := ⟨ad, hp, [.ref n], .int i, _, hr1, kk, e1, fun v H' ad' x p r k => ⟨k.i, q v H' ad' x p r k⟩⟩
      refine own_len I.kIn J hs.at_ hs.fn (wpAny_mono (wpAny_call (SlX.run_at (us := [.ref a]) (ws := [.ref a]) (fnR_of g b) (Room.in1 hr) I.env0.in1 pass0 I (.cons rfl .nil) sp)) (fun w s' z => ?_) fun _ _ x => x)
      obtain ⟨z', H', I', rz, ei, qz⟩ := z
      subst ei
      obtain ⟨t, e⟩ := (show ∃ t, w = Value.int i t from rz)
      cases e
      exact ⟨i, t, rfl, hi.1, by omega, fun t' => ⟨.int i, H', I'.tok _, ⟨_, rfl⟩, qz⟩⟩
    · exact call_lenF pins s σ H xs us Q I r ⟨ad, hp, [.ref n], d, hp', hr1, kk, e, q⟩
  · exact call_lenF pins s σ H xs us Q I r ⟨ad, hp, ds, d, hp', hr1, kk, e, q⟩
end
section
variable {X : Cx}
/-- x == y of own instances: by the class's own def -/
def eqO (c : Str) (cs : List Str) (F : List D → Hd → Option (D × Hd)) : D → D → Hd → Option (D × Hd) := fun x y hp => match x, y with
  | .ref n, .ref m => (match hp.get n, hp.get m with
    | some (.slt c1 _), some (.slt c2 _) => if c1 = c ∧ cs.contains c2 = true then F [.ref n, .ref m] hp else none
    | _, _ => none)
  | _, _ => none
theorem op_eqO {k : Nat} {C f : Addr} {ps : List Str} {c : Str} {cs : List Str} {F : List D → Hd → Option (D × Hd)} (hc : X.mg c = some (.ref C)) (hs : Meth X.K C "__eq__" f) (hn : ∀ c2 ∈ cs, ∃ C2, X.mg c2 = some (.ref C2) ∧ PySem.W.notFirst X.K C (.ref C2) = true) (G : Ok X.prog X.w X.K X.mg X.base k f ps F) (hr : Room k X.A) : OpR X (compareOp .Eq) (rB (en X) (eqO c cs F)) := by
  intro pins s σ H x y v u Q I rx ry ⟨ad, hp, d1, d2, d, hp', hr1, k1, k2, e, q⟩
  unfold eqO at e
  split at e
  case h_2 => cases e
  rename_i n m
  split at e
  case h_2 => cases e
  rename_i c1 f1 c2 f2 e1 e2
  split at e
  case isFalse => cases e
  rename_i hcc
  obtain ⟨rfl, hm⟩ := hcc
  obtain ⟨C2, g1, g2⟩ := hn c2 (by simpa using hm)
  obtain ⟨a, rfl, ha⟩ := k1.r
  obtain ⟨b, rfl, hb⟩ := k2.r
  obtain ⟨u1, eu1, C1', dx, vs, h4, h5, _⟩ := hr1.at_ ha e1
  obtain ⟨u2, eu2, C2', dy, ws, h6, h7, _⟩ := hr1.at_ hb e2
  have := hc.symm.trans h4
  cases this
  have := g1.symm.trans h6
  cases this
  obtain ⟨fd, g, bb, kp⟩ := G
  exact SlX.op_own (fun _ _ => rfl) hs.at_ hs.fn (fnR_of g bb) hr pass0 pins s σ H _ _ v u Q I rx ry ⟨a, dx, vs, b, _, dy, ws, rfl, rfl, slt_H (ad := ad) eu1 h5, slt_H (ad := ad) eu2 h7, g2, ad, hp, [.ref n, .ref m], d, hp', hr1, .cons k1 (.cons k2 .nil), e, q⟩
end
end DL
namespace DL
open PySem PySem.Spec PyProof.Rows L2
def allB (l : List (PySem.W.Frag → Bool)) (K : PySem.W.Frag) : Bool := l.all fun b => b K
theorem exGet {l : List (PySem.W.Frag → Bool)} {K : PySem.W.Frag} (h : allB l K = true) (i : Nat) {b : PySem.W.Frag → Bool} (e : l[i]? = some b) : b K = true := List.all_eq_true.mp h b (List.mem_of_getElem? e)
def ansB (K : PySem.W.Frag) (tb : List (String × Bool)) (to : List (Str × Bool)) (us : List Value) : Bool := (tb.all fun p => decide (PySem.W.kitAny K (.type p.1) us = some p.2)) && (to.all fun p => decide (PySem.W.kitAny K (.ref (He.ga K p.1)) us = some p.2))
theorem ansB_ok {K : PySem.W.Frag} {mg : Str → Option Value} {tb : List (String × Bool)} {to : List (Str × Bool)} {us : List Value} (h : ansB K tb to us = true) (ho : ∀ x ∈ to.map (·.1), mg x = some (.ref (He.ga K x)) ∧ (OwnS K (He.ga K x) ∨ OwnI K (He.ga K x))) : Ans0 K mg us tb to := by
  obtain ⟨h1, h2⟩ := He.ba h
  refine ⟨fun p hp => of_decide_eq_true (List.all_eq_true.mp h1 p hp), fun p hp => ?_⟩
  obtain ⟨g1, g2⟩ := ho p.1 (List.mem_map.mpr ⟨p, hp, rfl⟩)
  exact ⟨_, g1, g2, of_decide_eq_true (List.all_eq_true.mp h2 p hp)⟩
def uniqB (K : PySem.W.Frag) : Bool := decide ((lamTf.map fun p => (He.cT K p.1).2).Nodup)
theorem uniq_in {K : PySem.W.Frag} : ∀ {l : List (He.Defn × Str)}, (l.map fun p => (He.cT K p.1).2).Nodup → ∀ {d : He.Defn} {q : Str}, (d, q) ∈ l → ∀ r ∈ l.map (fun p => ((He.cT K p.1).2, p.2)), r.1 = (He.cT K d).2 → r.2 = q
  | [], _, d, q, m, _, _, _ => (List.not_mem_nil m).elim
  | p :: l, h, d, q, m, r, hr, e => by
    rw [List.map_cons, List.nodup_cons] at h
    rw [List.map_cons] at hr
    rcases List.mem_cons.mp m with z | z <;> rcases List.mem_cons.mp hr with y | y
    · subst z; subst y; rfl
    · subst z
      obtain ⟨p', hp', rfl⟩ := List.mem_map.mp y
      exact (h.1 (List.mem_map.mpr ⟨p', hp', e⟩)).elim
    · subst y
      exact (h.1 (List.mem_map.mpr ⟨_, z, e.symm⟩)).elim
    · exact uniq_in h.2 z r y e
theorem lamF_of {K : PySem.W.Frag} {mg : Str → Option Value} {base : Heap} {d : He.Defn} {q : Str} (tb : ∀ p ∈ lamTf.map (fun p => He.cT K p.1), LamX.TabB base mg p.1 p.2) (m : (d, q) ∈ lamTf) (u : uniqB K = true) : LamF K mg base d q :=
  ⟨(He.cT K d).2, tb _ (List.mem_map.mpr ⟨_, m, rfl⟩), List.mem_map.mpr ⟨_, m, rfl⟩, uniq_in (of_decide_eq_true u) m⟩
end DL
namespace DL
open PySem PySem.Spec PyProof.Rows L2
abbrev EnG (h : Heap) (e it : Addr) (i : Int) (a0 : Value) (f : Bool) (old : Value) : Prop :=
  h.get? e = some { cls := .type "enumerate", dict := none, data := .fields #[a0, .bool f, .ref it, rawInt i, .none, old], slots := #[] }
def EnA (h : Heap) (e it : Addr) (i : Int) : Prop := ∃ a0 f old, EnG h e it i a0 f old ∧ (a0 = .none ∨ ∃ T : Addr, a0 = rawInt T)
section
variable {prog : Program} {w : World} {A : Around} {E : Value → Shared → Prop} {s : Shared}
theorem en_alive {a : Addr} {Q : Option Obj → Shared → Prop} (h : Q (s.heap.get? a) s) : wpAny (model prog w) A (loadIfAlive a) Q E s := fun _ _ _ => h
theorem en_free {e it : Addr} {i : Int} {a0 old : Value} {f : Bool} {Q : Bool → Shared → Prop} (he : EnG s.heap e it i a0 f old) (ha : a0 = .none ∨ ∃ T : Addr, a0 = rawInt T)
    (h : ∀ b h' f', EnG h' e it i a0 f' old → Heap.SameBut e s.heap h' → Q b { s with heap := h' }) : wpAny (model prog w) A (Builtin.SmallTypes.ownedTupleIsFree (.ref e)) Q E s := by
  unfold Builtin.SmallTypes.ownedTupleIsFree
  rcases ha with rfl | ⟨T, rfl⟩
  · exact wpAny_bind (wpAny_field he rfl (x := .none) rfl (wpAny_pure (h true s.heap f he (Heap.SameBut.refl _ _))))
  · refine wpAny_bind (wpAny_field he rfl (x := rawInt T) rfl ?_)
    show wpAny _ _ (loadIfAlive ((T : Int).toNat) >>= _) _ _ _
    rw [Int.toNat_natCast]
    refine wpAny_bind (en_alive ?_)
    cases hT : s.heap.get? T with
    | none =>
      simp only [Option.isNone_none, if_true]
      exact wpAny_pure (h true s.heap f he (Heap.SameBut.refl _ _))
    | some oT =>
      simp only [Option.isNone_some, Bool.false_eq_true, if_false]
      refine wpAny_bind (wpAny_field he rfl (x := .bool f) rfl ?_)
      cases f with
      | true =>
        rw [if_neg (show ¬ ((Value.bool true != Value.bool true) = true) from Bool.false_ne_true)]
        exact wpAny_pure (h false s.heap true he (Heap.SameBut.refl _ _))
      | false =>
        rw [if_pos (show (Value.bool false != Value.bool true) = true from rfl)]
        exact wpAny_bind (wpAny_setField_rec he (by simp) fun h₁ he₁ hs₁ => wpAny_pure (h false h₁ true he₁ hs₁))
theorem en_item {e it : Addr} {fp : List Addr} {n i : Nat} {P : Nat → Value → Prop} {St : Nat → Heap → Prop} {Q : Value → Shared → Prop}
    (D : Draws prog w A it fp n P St) (he0 : EnA s.heap e it i) (hst : St i s.heap) (hlt : i < n) (hne : e ≠ it) (hef : e ∉ fp)
    (hQ : ∀ x h' tk, P i x → EnA h' e it ((i : Int) + 1) → St (i + 1) h' →
      h'.get? s.heap.objs.size = some { cls := .type "tuple", data := .seq #[.int i tk, x] } → h'.objs.size = s.heap.objs.size + 1 →
      (∀ b o, b ≠ e → b ≠ it → s.heap.get? b = some o → h'.get? b = some o) → Q (.ref s.heap.objs.size) { s with heap := h', toks := tk + 1 }) :
    wpAny (model prog w) A (Builtin.«enumerate.__next__» ⟨[.ref e], []⟩) (fun fin s' => ∃ v, fin = .done (.ret v) ∧ Q v s') E s := by
  obtain ⟨hp, g, d, tk₀, os⟩ := s
  obtain ⟨a0, f, old, he, ha0⟩ := he0
  show wpAny _ _ (field (.ref e) 2 >>= _) _ _ _
  refine wpAny_bind (wpAny_field he rfl (x := .ref it) rfl ?_)
  refine wpAny_bind (D.item i _ _ _ hlt hst fun x h₁ tk hPx hit₁ hs₁ => ?_)
  replace hs₁ : Heap.SameBut it hp h₁ := hs₁
  have he₁ : EnG h₁ e it i a0 f old := (hs₁.2 e hne).trans he
  show wpAny _ _ (field (.ref e) 3 >>= _) _ _ ⟨h₁, g, d, tk, os⟩
  refine wpAny_bind (wpAny_field he₁ rfl (x := rawInt i) rfl ?_)
  show wpAny _ _ (field (.ref e) 4 >>= _) _ _ ⟨h₁, g, d, tk, os⟩
  refine wpAny_bind (wpAny_field he₁ rfl (x := .none) rfl ?_)
  show wpAny _ _ (mkInt i >>= _) _ _ ⟨h₁, g, d, tk, os⟩
  refine wpAny_bind (wpAny_mkInt ?_)
  show wpAny _ _ (setField (.ref e) 3 (rawInt ((i : Int) + 1)) >>= _) _ _ ⟨h₁, g, d, tk + 1, os⟩
  refine wpAny_bind (wpAny_setField_rec he₁ (by simp) fun h₂ he₂ hs₂ => ?_)
  replace hs₂ : Heap.SameBut e h₁ h₂ := hs₂
  replace he₂ : EnG h₂ e it ((i : Int) + 1) a0 f old := he₂
  show wpAny _ _ (setField (.ref e) 4 .none >>= _) _ _ ⟨h₂, g, d, tk + 1, os⟩
  refine wpAny_bind (wpAny_setField_rec he₂ (by simp) fun h₃ he₃ hs₃ => ?_)
  replace hs₃ : Heap.SameBut e h₂ h₃ := hs₃
  replace he₃ : EnG h₃ e it ((i : Int) + 1) a0 f old := he₃
  show wpAny _ _ (newTuple [.int i tk, x] >>= _) _ _ ⟨h₃, g, d, tk + 1, os⟩
  refine wpAny_bind (wpAny_newTuple ?_)
  have he₄ : EnG (h₃.push { cls := .type "tuple", data := .seq #[.int i tk, x] }) e it ((i : Int) + 1) a0 f old := Heap.get?_push_of_some _ he₃
  generalize hh₄ : h₃.push { cls := .type "tuple", data := .seq #[.int i tk, x] } = h₄ at he₄
  have hsz : h₃.objs.size = hp.objs.size := by rw [hs₃.1, hs₂.1, hs₁.1]
  have hel : e < hp.objs.size := Heap.lt_size he
  have ht₄ : h₄.get? hp.objs.size = some { cls := .type "tuple", data := .seq #[.int i tk, x] } := by rw [← hh₄, ← hsz]; exact Heap.get?_push_size _ rfl
  have hz₄ : h₄.objs.size = hp.objs.size + 1 := by rw [← hh₄, Heap.size_push, hsz]
  have hk₄ : ∀ b o, b ≠ e → b ≠ it → hp.get? b = some o → h₄.get? b = some o := fun b o hbe hbi hb => by
    rw [← hh₄]; exact Heap.get?_push_of_some _ (hs₃.extBut b o hbe (hs₂.extBut b o hbe (hs₁.extBut b o hbi hb)))
  have hit₄ : St (i + 1) h₄ := D.frame _ _ _ hit₁ fun b hb o y => by
    have hbe : b ≠ e := fun q => hef (q ▸ hb)
    rw [← hh₄]; exact Heap.get?_push_of_some _ (hs₃.extBut b o hbe (hs₂.extBut b o hbe y))
  show wpAny _ _ (Builtin.SmallTypes.ownedTupleIsFree (.ref e) >>= _) _ _ ⟨h₄, g, d, tk + 1, os⟩
  rw [hsz]
  clear hh₄ he₃ hs₃ he₂ hs₂ he₁ hs₁ hit₁ hsz h₃ h₂ h₁
  refine wpAny_bind (en_free (s := ⟨h₄, g, d, tk + 1, os⟩) he₄ ha0 fun b h₅ f' he₅ hs₅ => ?_)
  replace hs₅ : Heap.SameBut e h₄ h₅ := hs₅
  have end_ : ∀ h' : Heap, EnA h' e it ((i : Int) + 1) → Heap.SameBut e h₅ h' → Q (.ref hp.objs.size) ⟨h', g, d, tk + 1, os⟩ := fun h' hen hs' => by
    refine hQ x h' tk hPx hen ?_ ?_ ?_ ?_
    · exact D.frame _ _ _ hit₄ fun b hb o y => by
        have hbe : b ≠ e := fun q => hef (q ▸ hb)
        exact hs'.extBut b o hbe (hs₅.extBut b o hbe y)
    · exact hs'.extBut _ _ (Nat.ne_of_gt hel) (hs₅.extBut _ _ (Nat.ne_of_gt hel) ht₄)
    · rw [hs'.1, hs₅.1, hz₄]
    · exact fun b o hbe hbi hb => hs'.extBut b o hbe (hs₅.extBut b o hbe (hk₄ b o hbe hbi hb))
  cases b with
  | false =>
    simp only [Bool.false_eq_true, if_false]
    exact wpAny_pure ⟨_, rfl, end_ h₅ ⟨a0, f', old, he₅, ha0⟩ (Heap.SameBut.refl _ _)⟩
  | true =>
    simp only [if_true]
    refine wpAny_bind (wpAny_rule ?_)
    refine wpAny_bind (wpAny_field he₅ rfl (x := old) rfl ?_)
    refine wpAny_bind (wpAny_setField_rec he₅ (by simp) fun h₆ he₆ hs₆ => ?_)
    replace hs₆ : Heap.SameBut e h₅ h₆ := hs₆
    replace he₆ : EnG h₆ e it ((i : Int) + 1) a0 f' x := he₆
    show wpAny _ _ (Builtin.SmallTypes.ownedTupleHandOut (.ref e) (.ref hp.objs.size) >>= _) _ _ ⟨h₆, g, d, tk + 1, os⟩
    refine wpAny_bind ?_
    unfold Builtin.SmallTypes.ownedTupleHandOut
    refine wpAny_bind (wpAny_setField_rec he₆ (by simp) fun h₇ he₇ hs₇ => ?_)
    replace hs₇ : Heap.SameBut e h₆ h₇ := hs₇
    replace he₇ : EnG h₇ e it ((i : Int) + 1) (rawInt hp.objs.size) f' x := he₇
    refine wpAny_setField_rec he₇ (by simp) fun h₈ he₈ hs₈ => ?_
    replace hs₈ : Heap.SameBut e h₇ h₈ := hs₈
    replace he₈ : EnG h₈ e it ((i : Int) + 1) (rawInt hp.objs.size) false x := he₈
    exact wpAny_bind (wpAny_letGo (wpAny_pure ⟨_, rfl, end_ h₈ ⟨_, _, _, he₈, .inr ⟨_, rfl⟩⟩ ⟨by rw [hs₈.1, hs₇.1, hs₆.1], fun b hb => (hs₈.2 b hb).trans ((hs₇.2 b hb).trans (hs₆.2 b hb))⟩⟩))
theorem en_next {e it : Addr} {fp : List Addr} {n i : Nat} {P : Nat → Value → Prop} {St : Nat → Heap → Prop} {Q : Option Value → Shared → Prop}
    (D : Draws prog w A.in1 it fp n P St) (he : EnA s.heap e it i) (hst : St i s.heap) (hlt : i < n) (hne : e ≠ it) (hef : e ∉ fp)
    (hQ : ∀ x h' tk, P i x → EnA h' e it ((i : Int) + 1) → St (i + 1) h' →
      h'.get? s.heap.objs.size = some { cls := .type "tuple", data := .seq #[.int i tk, x] } → h'.objs.size = s.heap.objs.size + 1 →
      (∀ b o, b ≠ e → b ≠ it → s.heap.get? b = some o → h'.get? b = some o) → Q (some (.ref s.heap.objs.size)) { s with heap := h', toks := tk + 1 }) :
    wpAny (model prog w) A (pyNext (.ref e)) Q E s := by
  obtain ⟨a0, f, old, hg, ha⟩ := id he
  have hT : s.TypeIs (.ref e) "enumerate" := ⟨_, hg, rfl⟩
  unfold pyNext
  exact wpAny_bind (wpAny_attempt (wpAny_callSpecial?_slot (name := Str.ofString "__next__") hT F.slot_enumerate_next
    (wpAny_call_entry F.slot_enumerate_next hT F.entry_enumerate_next
      (en_item D he hst hlt hne hef fun x h' tk a b c d k q => wpAny_pure (hQ x h' tk a b c d k q)) (F.args_enumerate_next_1 _))))
theorem en_end {e it : Addr} {fp : List Addr} {n : Nat} {P : Nat → Value → Prop} {St : Nat → Heap → Prop} {i : Int} {Q : Option Value → Shared → Prop}
    (D : Draws prog w A.in1 it fp n P St) (he : EnA s.heap e it i) (hst : St n s.heap)
    (hQ : ∀ h', Heap.ExtBut it s.heap h' → Q none { s with heap := h' }) : wpAny (model prog w) A (pyNext (.ref e)) Q E s := by
  obtain ⟨a0, f, old, hg, ha⟩ := id he
  have hT : s.TypeIs (.ref e) "enumerate" := ⟨_, hg, rfl⟩
  unfold pyNext
  refine wpAny_bind (wpAny_attempt (wpAny_callSpecial?_slot (name := Str.ofString "__next__") hT F.slot_enumerate_next
    (wpAny_call_entry F.slot_enumerate_next hT F.entry_enumerate_next ?_ (F.args_enumerate_next_1 _))))
  show wpAny _ _ (field (.ref e) 2 >>= _) _ _ _
  refine wpAny_bind (wpAny_field hg rfl (x := .ref it) rfl ?_)
  refine wpAny_bind (D.done _ _ _ hst fun h' x he' hx' => ?_)
  obtain ⟨o, ho, hc⟩ := hx'
  refine wpAny_bind (wpAny_isInstance (T := "StopIteration") (b := true) ⟨o, ho, hc⟩ isSubtype_stop ?_)
  exact wpAny_pure (hQ _ he')
theorem en_iter {e it : Addr} {i : Int} {Q : Value → Shared → Prop} (he : EnA s.heap e it i) (h : Q (.ref e) s) : wpAny (model prog w) A (pyIter (.ref e)) Q E s := by
  obtain ⟨a0, f, old, hg, ha⟩ := id he
  have hT : s.TypeIs (.ref e) "enumerate" := ⟨_, hg, rfl⟩
  refine wpAny_pyIter_slot hT F.slot_enumerate_iter (wpAny_call_entry F.slot_enumerate_iter hT F.entry_enumerate_iter ?_ (F.args_enumerate_iter_1 _))
  show wpAny _ _ (ret (.ref e)) _ _ s
  exact wpAny_pure ⟨_, rfl, "enumerate", _, hT, F.slot_enumerate_next.lookup, h⟩
end
/-- the end of a turn -/
theorem en_turned {X : Cx} {i : Nat} {pins : List (Addr × Obj)} {s : Shared} {σ : L2.St} {H : Hp} {e it : Addr} {h' : Heap} {tk : Tok} {x : V} {u : Value} {J : It} {tg : Expr} {tn : Nat → Heap → Prop} {E : Value → Shared → Prop} (I : Inv X pins σ H s) (hf : ∀ b ∈ [e, it], FpOk X pins H b) (htg : ∀ it v, letOwnedTupleGo tg it v = pure ()) (hel : e < s.heap.objs.size) (hil : it < s.heap.objs.size) (ru : RelV x u)
    (hT : h'.get? s.heap.objs.size = some { cls := .type "tuple", data := .seq #[.int i tk, u] }) (hk : ∀ b o, b ≠ e → b ≠ it → s.heap.get? b = some o → h'.get? b = some o)
    (hy : J.yld i H (.ref s.heap.objs.size) (upd H s.heap.objs.size (.tup [.int (i : Nat), x]))) (hn : tn (i + 1) h') :
    ∃ v, some (Value.ref s.heap.objs.size) = some v ∧ wpAny (model X.prog X.w) X.A (letOwnedTupleGo tg (.ref e) v) (fun _ s2 => ∃ x H', Inv X pins σ H' s2 ∧ RelV x v ∧ J.yld i H x H' ∧ tn (i + 1) s2.heap ∧ ∀ b ∈ [e, it], H' b = none) E { s with heap := h', toks := tk + 1 } := by
  refine ⟨_, rfl, ?_⟩
  rw [htg]
  refine wpAny_pure ?_
  have new : ObjOk X.prog X.w (upd H s.heap.objs.size (.tup [.int (i : Nat), x])) h' s.heap.objs.size (.tup [.int (i : Nat), x]) :=
    ⟨by show 2 ≤ sizeLine; decide, [.int i tk, u], .cons ⟨_, rfl⟩ (.cons ru .nil), ⟨_, hT, rfl, _, rfl⟩⟩
  have I1 : Inv X pins σ (upd H s.heap.objs.size (.tup [.int (i : Nat), x])) { s with heap := h', toks := tk + 1 } :=
    I.turnedNew (ch := [e, it]) (fun b ob hb q => hk b ob (fun z => hb (by simp [z])) (fun z => hb (by simp [z])) q) hf (Nat.le_refl _) new
  refine ⟨.ref s.heap.objs.size, _, I1, rfl, hy, hn, fun b hb => ?_⟩
  have hb' : b < s.heap.objs.size := by
    have e' : b = e ∨ b = it := by simpa using hb
    rcases e' with z | z
    · rw [z]; exact hel
    · rw [z]; exact hil
  rw [upd_ne (Nat.ne_of_lt hb')]
  exact (hf b hb).1
theorem turn_enT {P : Program} {w : World} {K : PySem.W.Frag} {tg : Expr} (htg : ∀ it v, letOwnedTupleGo tg it v = pure ()) (a e it : Addr) (hai : a ≠ it) (hae : a ≠ e) :
    Turn P w K tg (ItE K a) [e, it] e (fun i h => EnA h e it ((i : Nat) : Int) ∧ h.IsTupleIter it a i ∧ e ≠ it) where
  mem := by simp
  obj := fun i h st b hb => by
    obtain ⟨⟨_, _, _, he, _⟩, ⟨o, ho, hc, hd⟩, _⟩ := st
    have e' : b = e ∨ b = it := by simpa using hb
    rcases e' with z | z
    · rw [z]; exact ⟨_, he, fun v q => nomatch q⟩
    · rw [z]; exact ⟨o, ho, fun v q => by rw [hd] at q; cases q⟩
  keep := fun i h h' st k => let ⟨⟨a0, f, old, he, ha⟩, hi, hne⟩ := st; ⟨⟨a0, f, old, k e (by simp) _ he, ha⟩, hi.at fun o q => k it (by simp) o q, hne⟩
  item := by
    intro X hP hw hK hc i pins s σ H E I hf st hg
    subst hP hw hK
    obtain ⟨he, hit, hne⟩ := st
    obtain ⟨xs, x, hq, hx⟩ := hg
    obtain ⟨its, rv, p, hz⟩ := I.tuple hq
    obtain ⟨u, hu, ru⟩ := rv.get hx
    have hel : e < s.heap.objs.size := by obtain ⟨_, _, _, q, _⟩ := he; exact Heap.lt_size q
    have hil : it < s.heap.objs.size := by obtain ⟨_, q, _⟩ := hit; exact Heap.lt_size q
    have hlt : i < its.toArray.size := by simpa using (List.getElem?_eq_some_iff.mp hu).1
    have Dr := Draws.tuple (prog := X.prog) (w := X.w) (A := X.A.in1) (show X.A.in1.handled = none from I.ok.hd hc) it a hai its.toArray
    refine en_next Dr he ⟨hit, p⟩ hlt hne (by simp; exact ⟨hne, Ne.symm hae⟩) fun x' h' tk hx' ho hit' hT hsz hk => ?_
    have ex : x' = u := by
      have q : its.toArray[i]? = some u := by simpa using hu
      rw [q] at hx'
      exact (Option.some.inj hx').symm
    subst ex
    exact en_turned (x := x) (J := ItE X.K a) (tn := fun i h => EnA h e it ((i : Nat) : Int) ∧ h.IsTupleIter it a i ∧ e ≠ it) I hf htg hel hil ru hT hk ⟨_, x, rfl, I.hok.fresh (Nat.le_refl _), rfl, fun ys hy => by rw [I.tuple_inj hy hq]; exact hx⟩ ⟨ho, hit'.1, hne⟩
  done := by
    intro X hP hw hK hc i pins s σ H E I hf st hg
    subst hP hw hK
    obtain ⟨he, hit, hne⟩ := st
    obtain ⟨xs, hq, hx⟩ := hg
    obtain ⟨its, rv, p, hz⟩ := I.tuple hq
    obtain ⟨f0, f1, f2, f3, f4, f5⟩ := hf it (by simp)
    have hl := rv.length
    obtain ⟨a0, f, old, hg, ha⟩ := id he
    have hT : s.TypeIs (.ref e) "enumerate" := ⟨_, hg, rfl⟩
    unfold pyNext
    refine wpAny_bind (wpAny_attempt (wpAny_callSpecial?_slot (name := Str.ofString "__next__") hT F.slot_enumerate_next
      (wpAny_call_entry F.slot_enumerate_next hT F.entry_enumerate_next ?_ (F.args_enumerate_next_1 _))))
    show wpAny _ _ (field (.ref e) 2 >>= _) _ _ _
    refine wpAny_bind (wpAny_field hg rfl (x := .ref it) rfl ?_)
    refine wpAny_bind (wpAny_nextOf_tuple_end (show X.A.in1.handled = none from I.ok.hd hc) hit p (by simp; omega) fun h' x he' hx' => ?_)
    obtain ⟨o, ho, hc'⟩ := hx'
    refine wpAny_bind (wpAny_isInstance (T := "StopIteration") (b := true) ⟨o, ho, hc'⟩ isSubtype_stop ?_)
    exact wpAny_pure ⟨rfl, I.turned (t' := s.toks) (fun b o hb q => he' b o hb q) f0 f1 f3 f4 f5⟩
  self := fun A i s Q E st h => en_iter st.1 h
theorem turn_enL {P : Program} {w : World} {K : PySem.W.Frag} {tg : Expr} (htg : ∀ it v, letOwnedTupleGo tg it v = pure ()) (a e it : Addr) (hai : a ≠ it) (hae : a ≠ e) :
    Turn P w K tg (Ite K a) [e, it] e (fun i h => EnA h e it ((i : Nat) : Int) ∧ h.IsListIter it a i ∧ e ≠ it) where
  mem := by simp
  obj := fun i h st b hb => by
    obtain ⟨⟨_, _, _, he, _⟩, ⟨o, ho, hc, hd⟩, _⟩ := st
    have e' : b = e ∨ b = it := by simpa using hb
    rcases e' with z | z
    · rw [z]; exact ⟨_, he, fun v q => nomatch q⟩
    · rw [z]; exact ⟨o, ho, fun v q => by rw [hd] at q; cases q⟩
  keep := fun i h h' st k => let ⟨⟨a0, f, old, he, ha⟩, hi, hne⟩ := st; ⟨⟨a0, f, old, k e (by simp) _ he, ha⟩, hi.at fun o q => k it (by simp) o q, hne⟩
  item := by
    intro X hP hw hK hc i pins s σ H E I hf st hg
    subst hP hw hK
    obtain ⟨he, hit, hne⟩ := st
    obtain ⟨xs, x, hq, hx⟩ := hg
    obtain ⟨its, rv, p, hz⟩ := I.list hq
    obtain ⟨u, hu, ru⟩ := rv.get hx
    have hel : e < s.heap.objs.size := by obtain ⟨_, _, _, q, _⟩ := he; exact Heap.lt_size q
    have hil : it < s.heap.objs.size := by obtain ⟨_, q, _⟩ := hit; exact Heap.lt_size q
    have hlt : i < its.toArray.size := by simpa using (List.getElem?_eq_some_iff.mp hu).1
    have Dr := Draws.list (prog := X.prog) (w := X.w) (A := X.A.in1) (show X.A.in1.handled = none from I.ok.hd hc) it a hai its.toArray
    refine en_next Dr he ⟨hit, p.isList⟩ hlt hne (by simp; exact ⟨hne, Ne.symm hae⟩) fun x' h' tk hx' ho hit' hT hsz hk => ?_
    have ex : x' = u := by
      have q : its.toArray[i]? = some u := by simpa using hu
      rw [q] at hx'
      exact (Option.some.inj hx').symm
    subst ex
    exact en_turned (x := x) (J := Ite X.K a) (tn := fun i h => EnA h e it ((i : Nat) : Int) ∧ h.IsListIter it a i ∧ e ≠ it) I hf htg hel hil ru hT hk ⟨_, x, rfl, I.hok.fresh (Nat.le_refl _), rfl, fun ys hy => by rw [I.list_inj hy hq]; exact hx⟩ ⟨ho, hit'.1, hne⟩
  done := by
    intro X hP hw hK hc i pins s σ H E I hf st hg
    subst hP hw hK
    obtain ⟨he, hit, hne⟩ := st
    obtain ⟨xs, hq, hx⟩ := hg
    obtain ⟨its, rv, p, hz⟩ := I.list hq
    obtain ⟨f0, f1, f2, f3, f4, f5⟩ := hf it (by simp)
    have hl := rv.length
    obtain ⟨a0, f, old, hg, ha⟩ := id he
    have hT : s.TypeIs (.ref e) "enumerate" := ⟨_, hg, rfl⟩
    unfold pyNext
    refine wpAny_bind (wpAny_attempt (wpAny_callSpecial?_slot (name := Str.ofString "__next__") hT F.slot_enumerate_next
      (wpAny_call_entry F.slot_enumerate_next hT F.entry_enumerate_next ?_ (F.args_enumerate_next_1 _))))
    show wpAny _ _ (field (.ref e) 2 >>= _) _ _ _
    refine wpAny_bind (wpAny_field hg rfl (x := .ref it) rfl ?_)
    refine wpAny_bind (wpAny_nextOf_list_end (show X.A.in1.handled = none from I.ok.hd hc) hit p.isList (by simp; omega) fun h' x he' hx' => ?_)
    obtain ⟨o, ho, hc'⟩ := hx'
    refine wpAny_bind (wpAny_isInstance (T := "StopIteration") (b := true) ⟨o, ho, hc'⟩ isSubtype_stop ?_)
    exact wpAny_pure ⟨rfl, I.turned (t' := s.toks) (fun b o hb q => he' b o hb q) f0 f1 f3 f4 f5⟩
  self := fun A i s Q E st h => en_iter st.1 h
theorem EnA.of {h : Heap} {e it : Addr} {i : Int} {old : Value} (x : IsEnum h e it i old) : EnA h e it i := ⟨_, _, _, x, .inl rfl⟩
section
variable {X : Cx} {pos p : Pos}
theorem li_enumN {a : Expr} {ms : M (List D)} {x : Str} {tpos : Pos} (hg : Gl X "enumerate") (hm : X.mg "enumerate" = none) (ha : PA X [a] (rA (en X) ms)) (hs : starEach [a] X.env = [(false, eval a X.env)] := by rfl) :
    PI X (.Name x tpos) (.Call (.Name "enumerate" p) [a] [] pos) (rI (en X) (mEnu ms)) := by
  refine ⟨fun pins s σ H R I h => ?_⟩
  obtain ⟨ρ, hp, ad, sr, u, hp', st, e0, q⟩ := h
  obtain ⟨ds, h1, e1, e2⟩ := bnd_inv e0
  refine Call_ (ld_blt I hg hm boot_enumerate (PyProof.Rows.callWith_type1 (thn (ha.run pos pins s σ H (fun vs H1 => ∃ ad1, Ex (en X) H H1 ∧ ad <+: ad1 ∧ HR (en X) ad1 H1 h1 ∧ RDs (en X) ad1 H1 ds vs) I ⟨ρ, hp, ad, ds, h1, st, e1, fun v H' ad' x p r k => ⟨ad', x, p, r, k⟩⟩) fun us s1 ⟨vs, H1, I1, r1, ad1, x1, p1, hr1, k1⟩ => ?_) hs rfl))
  have hd1 : ∃ d, ds = [d] := by
    simp only [lft, enuD] at e2
    split at e2
    · exact ⟨_, rfl⟩
    · exact ⟨_, rfl⟩
    · cases e2
  obtain ⟨d, rfl⟩ := hd1
  obtain ⟨v, rfl, k⟩ := k1.one
  obtain ⟨w, rfl, rw'⟩ := vals1 r1
  have fr : ∀ b, b ∈ [s1.heap.objs.size + 1, s1.heap.objs.size] → FpOk X pins H1 b := fun b hb => by
    have e' : b = s1.heap.objs.size + 1 ∨ b = s1.heap.objs.size := by simpa using hb
    have hle : s1.heap.objs.size ≤ b := by
      rcases e' with z | z
      · rw [z]; exact Nat.le_add_right _ _
      · rw [z]; exact Nat.le_refl _
    exact I1.fpOk hle (I1.hok.fresh hle)
  cases d with
  | tup ds =>
    cases e2
    obtain ⟨a, vs, rfl, hq, r⟩ := k.t
    cases rw'
    obtain ⟨its, rv, pt, hz⟩ := I1.tuple hq
    obtain ⟨ot, hot, _⟩ := id pt
    have hlt := Heap.lt_size hot
    refine enum_begins1 (begins_tuple a its.toArray) (show s1.heap.IsTuple a its.toArray from pt) fun h' he hit hsz hk => wpAny_pyIter_enum he ?_
    have I2 : Inv X pins σ H1 { s1 with heap := h' } := I1.kept (t' := s1.toks) hk
    exact ⟨s1.heap.objs.size + 1, [s1.heap.objs.size + 1, s1.heap.objs.size], _, _, H1, rfl, I2, turn_enT (fun _ _ => rfl) a (s1.heap.objs.size + 1) s1.heap.objs.size (Nat.ne_of_lt hlt) (Nat.ne_of_lt (Nat.lt_succ_of_lt hlt)), ⟨.of he, ⟨_, hit, rfl, rfl⟩, Nat.succ_ne_self _⟩, fr, q _ H1 ad1 x1 p1 hr1 (jr_enT hq r) lkc_none⟩
  | ref n =>
    simp only [lft, enuD] at e2
    split at e2
    · rename_i ds z
      cases e2
      obtain ⟨a, rfl, ha'⟩ := k.r
      cases rw'
      obtain ⟨vs, hq, r⟩ := hr1.lstR z ha'
      obtain ⟨its, rv, pt, hz⟩ := I1.list hq
      obtain ⟨ot, hot, _⟩ := id pt.isList
      have hlt := Heap.lt_size hot
      refine call_enumerate_list pt.isList fun h' he hit hsz hk => wpAny_pyIter_enum he ?_
      have I2 : Inv X pins σ H1 { s1 with heap := h' } := I1.kept (t' := s1.toks) hk
      exact ⟨s1.heap.objs.size + 1, [s1.heap.objs.size + 1, s1.heap.objs.size], _, _, H1, rfl, I2, turn_enL (fun _ _ => rfl) a (s1.heap.objs.size + 1) s1.heap.objs.size (Nat.ne_of_lt hlt) (Nat.ne_of_lt (Nat.lt_succ_of_lt hlt)), ⟨.of he, hit, Nat.succ_ne_self _⟩, fr, q _ H1 ad1 x1 p1 hr1 (jr_enl ha') lkc_none⟩
    · cases e2
  | _ => cases e2
end
end DL
namespace DL
open PySem PySem.Spec PyProof.Rows L2
theorem compTurn3_0 (elt t0 i0 t1 i1 t2 i2 : Expr) (ifs0 ifs1 ifs2 : List Expr) (scope : Scope) (pos : Pos) (it acc : Value) (env : Env) :
    compTurn (.ListComp elt [⟨t0, i0, ifs0, 0⟩, ⟨t1, i1, ifs1, 0⟩, ⟨t2, i2, ifs2, 0⟩] scope pos) 0 it acc env = (do
      standAt i0.pos
      match ← pyNext it with
      | none => pure (.done .next)
      | some v =>
        letOwnedTupleGo t0 it v
        assign t0 env v
        let mut ok := true
        for c in ifs0 do
          if ok then ok ← isTrue c env (eval c env)
        if ok then
          let x ← eval i1 env
          standAt i1.pos
          let x ← foldedSetIterable i1 env x
          let _ ← runOwn (.compStart (.ListComp elt [⟨t0, i0, ifs0, 0⟩, ⟨t1, i1, ifs1, 0⟩, ⟨t2, i2, ifs2, 0⟩] scope pos) 1 (← holding [x] (pyIter x)) acc env) env
        again (.compLoop (.ListComp elt [⟨t0, i0, ifs0, 0⟩, ⟨t1, i1, ifs1, 0⟩, ⟨t2, i2, ifs2, 0⟩] scope pos) 0 it acc env)) := by rfl
theorem compTurn3_1 (elt t0 i0 t1 i1 t2 i2 : Expr) (ifs0 ifs1 ifs2 : List Expr) (scope : Scope) (pos : Pos) (it acc : Value) (env : Env) :
    compTurn (.ListComp elt [⟨t0, i0, ifs0, 0⟩, ⟨t1, i1, ifs1, 0⟩, ⟨t2, i2, ifs2, 0⟩] scope pos) 1 it acc env = (do
      standAt i1.pos
      match ← pyNext it with
      | none => pure (.done .next)
      | some v =>
        letOwnedTupleGo t1 it v
        assign t1 env v
        let mut ok := true
        for c in ifs1 do
          if ok then ok ← isTrue c env (eval c env)
        if ok then
          let x ← eval i2 env
          standAt i2.pos
          let x ← foldedSetIterable i2 env x
          let _ ← runOwn (.compStart (.ListComp elt [⟨t0, i0, ifs0, 0⟩, ⟨t1, i1, ifs1, 0⟩, ⟨t2, i2, ifs2, 0⟩] scope pos) 2 (← holding [x] (pyIter x)) acc env) env
        again (.compLoop (.ListComp elt [⟨t0, i0, ifs0, 0⟩, ⟨t1, i1, ifs1, 0⟩, ⟨t2, i2, ifs2, 0⟩] scope pos) 1 it acc env)) := by rfl
theorem compTurn3_2 (elt t0 i0 t1 i1 t2 i2 : Expr) (ifs0 ifs1 ifs2 : List Expr) (scope : Scope) (pos : Pos) (it acc : Value) (env : Env) :
    compTurn (.ListComp elt [⟨t0, i0, ifs0, 0⟩, ⟨t1, i1, ifs1, 0⟩, ⟨t2, i2, ifs2, 0⟩] scope pos) 2 it acc env = (do
      standAt i2.pos
      match ← pyNext it with
      | none => pure (.done .next)
      | some v =>
        letOwnedTupleGo t2 it v
        assign t2 env v
        let mut ok := true
        for c in ifs2 do
          if ok then ok ← isTrue c env (eval c env)
        if ok then
          (do let _ ← call (.builtin "list.append") [acc, ← eval elt env])
        again (.compLoop (.ListComp elt [⟨t0, i0, ifs0, 0⟩, ⟨t1, i1, ifs1, 0⟩, ⟨t2, i2, ifs2, 0⟩] scope pos) 2 it acc env)) := by rfl
section
variable {prog : Program} {w : World} {A : Around} {R : Result → Shared → Prop} {s : Shared} {elt t0 i0 t1 i1 t2 i2 : Expr} {ifs0 ifs1 ifs2 : List Expr} {scope : Scope} {pos : Pos} {it acc : Value} {env : Env}
theorem compLoop3_0 (hs : ∀ x, foldedSetIterable i1 env x = pure x) (I : Nat → Shared → Prop)
    (turn : ∀ n s, I n s → wpAny (model prog w) A (pyNext it) (fun r s₁ => match r with
      | none => R (.ok .next) s₁
      | some v => wpAny (model prog w) A (letOwnedTupleGo t0 it v) (fun _ s₁' => wpAny (model prog w) A (assign t0 env v) (fun _ s₂ =>
          wpAny (model prog w) A (forIn ifs0 true fun c r => if r = true then do let ok ← isTrue c env (eval c env); pure (ForInStep.yield ok) else pure (ForInStep.yield r)) (fun ok s₃ =>
            if ok = true then wpAny (model prog w) A (eval i1 env) (fun x s₄ => wpAny (model prog w) A (pyIter x) (fun it1 s₅ =>
              codeAny (model prog w) A (.compStart (.ListComp elt [⟨t0, i0, ifs0, 0⟩, ⟨t1, i1, ifs1, 0⟩, ⟨t2, i2, ifs2, 0⟩] scope pos) 1 it1 acc env) (fun r s' => match r with
                | .ok _ => ∃ m, m < n ∧ I m s'
                | .error _ => False) s₅) (notedBy (model prog w) A env fun e s' => R (.error e) s') s₄) (notedBy (model prog w) A env fun e s' => R (.error e) s') s₃
            else ∃ m, m < n ∧ I m s₃) (notedBy (model prog w) A env fun e s' => R (.error e) s') s₂) (notedBy (model prog w) A env fun e s' => R (.error e) s') s₁') (notedBy (model prog w) A env fun e s' => R (.error e) s') s₁) (notedBy (model prog w) A env fun e s' => R (.error e) s') s)
    (n : Nat) (h : I n s) :
    codeAny (model prog w) A (.compLoop (.ListComp elt [⟨t0, i0, ifs0, 0⟩, ⟨t1, i1, ifs1, 0⟩, ⟨t2, i2, ifs2, 0⟩] scope pos) 0 it acc env) R s := by
  refine codeAny_loop rfl I (fun n s hI => ?_) n h
  show wpAny _ A ((compTurn (.ListComp elt [⟨t0, i0, ifs0, 0⟩, ⟨t1, i1, ifs1, 0⟩, ⟨t2, i2, ifs2, 0⟩] scope pos) 0 it acc env).onRaise (fun x => do noteFrame x env; theTreesLotGoes x)) _ _ s
  refine wpAny_noted ?_
  rw [compTurn3_0]
  refine wpAny_bind (wpAny_standAt (wpAny_bind (wpAny_mono (turn n s hI) (fun r s₁ h₁ => ?_) fun _ _ h' => h')))
  cases r with
  | none => exact wpAny_pure h₁
  | some v =>
    refine wpAny_bind (wpAny_mono h₁ (fun _ s₁' h₁' => ?_) fun _ _ h' => h')
    refine wpAny_bind (wpAny_mono h₁' (fun _ s₂ h₂ => wpAny_bind (wpAny_mono h₂ (fun ok s₃ h₃ => ?_) fun _ _ h' => h')) fun _ _ h' => h')
    cases ok with
    | false => exact wpAny_pure ⟨rfl, h₃⟩
    | true =>
      refine wpAny_bind (wpAny_mono h₃ (fun x s₄ h₄ => ?_) fun _ _ h' => h')
      refine wpAny_bind (wpAny_standAt (wpAny_bind (wpAny_of_eq (hs x) (wpAny_bind (wpAny_holding (wpAny_mono h₄ (fun it1 s₅ h₅ => ?_) fun _ _ h' => h'))))))
      refine wpAny_bind (wpAny_runOwn ?_)
      rw [Around.mark_none]
      refine codeAny_mono h₅ fun r s' hr => ?_
      cases r with
      | ok f =>
        first
          | exact wpAny_pure ⟨rfl, hr⟩
          | exact wpAny_bind (wpAny_pure (wpAny_pure ⟨rfl, hr⟩))
      | error e => exact hr.elim
theorem compLoop3_1 (hs : ∀ x, foldedSetIterable i2 env x = pure x) (I : Nat → Shared → Prop)
    (turn : ∀ n s, I n s → wpAny (model prog w) A (pyNext it) (fun r s₁ => match r with
      | none => R (.ok .next) s₁
      | some v => wpAny (model prog w) A (letOwnedTupleGo t1 it v) (fun _ s₁' => wpAny (model prog w) A (assign t1 env v) (fun _ s₂ =>
          wpAny (model prog w) A (forIn ifs1 true fun c r => if r = true then do let ok ← isTrue c env (eval c env); pure (ForInStep.yield ok) else pure (ForInStep.yield r)) (fun ok s₃ =>
            if ok = true then wpAny (model prog w) A (eval i2 env) (fun x s₄ => wpAny (model prog w) A (pyIter x) (fun it1 s₅ =>
              codeAny (model prog w) A (.compStart (.ListComp elt [⟨t0, i0, ifs0, 0⟩, ⟨t1, i1, ifs1, 0⟩, ⟨t2, i2, ifs2, 0⟩] scope pos) 2 it1 acc env) (fun r s' => match r with
                | .ok _ => ∃ m, m < n ∧ I m s'
                | .error _ => False) s₅) (notedBy (model prog w) A env fun e s' => R (.error e) s') s₄) (notedBy (model prog w) A env fun e s' => R (.error e) s') s₃
            else ∃ m, m < n ∧ I m s₃) (notedBy (model prog w) A env fun e s' => R (.error e) s') s₂) (notedBy (model prog w) A env fun e s' => R (.error e) s') s₁') (notedBy (model prog w) A env fun e s' => R (.error e) s') s₁) (notedBy (model prog w) A env fun e s' => R (.error e) s') s)
    (n : Nat) (h : I n s) :
    codeAny (model prog w) A (.compLoop (.ListComp elt [⟨t0, i0, ifs0, 0⟩, ⟨t1, i1, ifs1, 0⟩, ⟨t2, i2, ifs2, 0⟩] scope pos) 1 it acc env) R s := by
  refine codeAny_loop rfl I (fun n s hI => ?_) n h
  show wpAny _ A ((compTurn (.ListComp elt [⟨t0, i0, ifs0, 0⟩, ⟨t1, i1, ifs1, 0⟩, ⟨t2, i2, ifs2, 0⟩] scope pos) 1 it acc env).onRaise (fun x => do noteFrame x env; theTreesLotGoes x)) _ _ s
  refine wpAny_noted ?_
  rw [compTurn3_1]
  refine wpAny_bind (wpAny_standAt (wpAny_bind (wpAny_mono (turn n s hI) (fun r s₁ h₁ => ?_) fun _ _ h' => h')))
  cases r with
  | none => exact wpAny_pure h₁
  | some v =>
    refine wpAny_bind (wpAny_mono h₁ (fun _ s₁' h₁' => ?_) fun _ _ h' => h')
    refine wpAny_bind (wpAny_mono h₁' (fun _ s₂ h₂ => wpAny_bind (wpAny_mono h₂ (fun ok s₃ h₃ => ?_) fun _ _ h' => h')) fun _ _ h' => h')
    cases ok with
    | false => exact wpAny_pure ⟨rfl, h₃⟩
    | true =>
      refine wpAny_bind (wpAny_mono h₃ (fun x s₄ h₄ => ?_) fun _ _ h' => h')
      refine wpAny_bind (wpAny_standAt (wpAny_bind (wpAny_of_eq (hs x) (wpAny_bind (wpAny_holding (wpAny_mono h₄ (fun it1 s₅ h₅ => ?_) fun _ _ h' => h'))))))
      refine wpAny_bind (wpAny_runOwn ?_)
      rw [Around.mark_none]
      refine codeAny_mono h₅ fun r s' hr => ?_
      cases r with
      | ok f =>
        first
          | exact wpAny_pure ⟨rfl, hr⟩
          | exact wpAny_bind (wpAny_pure (wpAny_pure ⟨rfl, hr⟩))
      | error e => exact hr.elim
theorem compLoop3_2 (I : Nat → Shared → Prop)
    (turn : ∀ n s, I n s → wpAny (model prog w) A (pyNext it) (fun r s₁ => match r with
      | none => R (.ok .next) s₁
      | some v => wpAny (model prog w) A (letOwnedTupleGo t2 it v) (fun _ s₁' => wpAny (model prog w) A (assign t2 env v) (fun _ s₂ =>
          wpAny (model prog w) A (forIn ifs2 true fun c r => if r = true then do let ok ← isTrue c env (eval c env); pure (ForInStep.yield ok) else pure (ForInStep.yield r)) (fun ok s₃ =>
            if ok = true then wpAny (model prog w) A (eval elt env) (fun x s₄ =>
              wpAny (model prog w) A (call (.builtin "list.append") [acc, x]) (fun _ s₅ => ∃ m, m < n ∧ I m s₅) (notedBy (model prog w) A env fun e s' => R (.error e) s') s₄) (notedBy (model prog w) A env fun e s' => R (.error e) s') s₃
            else ∃ m, m < n ∧ I m s₃) (notedBy (model prog w) A env fun e s' => R (.error e) s') s₂) (notedBy (model prog w) A env fun e s' => R (.error e) s') s₁') (notedBy (model prog w) A env fun e s' => R (.error e) s') s₁) (notedBy (model prog w) A env fun e s' => R (.error e) s') s)
    (n : Nat) (h : I n s) :
    codeAny (model prog w) A (.compLoop (.ListComp elt [⟨t0, i0, ifs0, 0⟩, ⟨t1, i1, ifs1, 0⟩, ⟨t2, i2, ifs2, 0⟩] scope pos) 2 it acc env) R s := by
  refine codeAny_loop rfl I (fun n s hI => ?_) n h
  show wpAny _ A ((compTurn (.ListComp elt [⟨t0, i0, ifs0, 0⟩, ⟨t1, i1, ifs1, 0⟩, ⟨t2, i2, ifs2, 0⟩] scope pos) 2 it acc env).onRaise (fun x => do noteFrame x env; theTreesLotGoes x)) _ _ s
  refine wpAny_noted ?_
  rw [compTurn3_2]
  refine wpAny_bind (wpAny_standAt (wpAny_bind (wpAny_mono (turn n s hI) (fun r s₁ h₁ => ?_) fun _ _ h' => h')))
  cases r with
  | none => exact wpAny_pure h₁
  | some v =>
    refine wpAny_bind (wpAny_mono h₁ (fun _ s₁' h₁' => ?_) fun _ _ h' => h')
    refine wpAny_bind (wpAny_mono h₁' (fun _ s₂ h₂ => wpAny_bind (wpAny_mono h₂ (fun ok s₃ h₃ => ?_) fun _ _ h' => h')) fun _ _ h' => h')
    cases ok with
    | false => exact wpAny_pure ⟨rfl, h₃⟩
    | true =>
      exact wpAny_bind (wpAny_bind (wpAny_mono h₃ (fun x s₄ h₄ => wpAny_bind (wpAny_mono h₄ (fun _ s₅ h₅ => wpAny_pure (wpAny_pure ⟨rfl, h₅⟩)) fun _ _ h' => h')) fun _ _ h' => h'))
theorem compStart3_1 (h0 : codeAny (model prog w) A (.compLoop (.ListComp elt [⟨t0, i0, ifs0, 0⟩, ⟨t1, i1, ifs1, 0⟩, ⟨t2, i2, ifs2, 0⟩] scope pos) 1 it acc env) R s)
    (h : wpAny (model prog w) A (pyIter it) (fun it' s' => codeAny (model prog w) A (.compLoop (.ListComp elt [⟨t0, i0, ifs0, 0⟩, ⟨t1, i1, ifs1, 0⟩, ⟨t2, i2, ifs2, 0⟩] scope pos) 1 it' acc env) R s')
      (notedBy (model prog w) A env fun x s' => R (.error x) s') s) :
    codeAny (model prog w) A (.compStart (.ListComp elt [⟨t0, i0, ifs0, 0⟩, ⟨t1, i1, ifs1, 0⟩, ⟨t2, i2, ifs2, 0⟩] scope pos) 1 it acc env) R s := by
  refine codeAny_of_tree ?_
  show wpAny _ _ ((compStart (.ListComp elt [⟨t0, i0, ifs0, 0⟩, ⟨t1, i1, ifs1, 0⟩, ⟨t2, i2, ifs2, 0⟩] scope pos) 1 it acc env).onRaise (fun x => do noteFrame x env; standAt theWindowsPlace)) _ _ s
  refine wpAny_notedAt ?_
  unfold compStart
  show wpAny _ _ (ask >>= _) _ _ s
  refine wpAny_bind (wpAny_askSetting (wpAny_ite ?_))
  split
  · first
      | exact wpAny_bind (wpAny_pure (wpAny_pure (And.intro rfl h0)))
      | exact wpAny_pure (And.intro rfl h0)
  · first
      | exact wpAny_bind (wpAny_rule (wpAny_bind (wpAny_standAt (wpAny_bind (wpAny_mono h (fun it' s' h' => wpAny_pure (And.intro rfl h')) fun _ _ x => x)))))
      | (refine wpAny_bind (wpAny_rule ?_); show wpAny _ _ (standAt i1.pos >>= _) _ _ s; exact wpAny_bind (wpAny_standAt (wpAny_bind (wpAny_mono h (fun it' s' h' => wpAny_pure (And.intro rfl h')) fun _ _ x => x))))
theorem compStart3_2 (h0 : codeAny (model prog w) A (.compLoop (.ListComp elt [⟨t0, i0, ifs0, 0⟩, ⟨t1, i1, ifs1, 0⟩, ⟨t2, i2, ifs2, 0⟩] scope pos) 2 it acc env) R s)
    (h : wpAny (model prog w) A (pyIter it) (fun it' s' => codeAny (model prog w) A (.compLoop (.ListComp elt [⟨t0, i0, ifs0, 0⟩, ⟨t1, i1, ifs1, 0⟩, ⟨t2, i2, ifs2, 0⟩] scope pos) 2 it' acc env) R s')
      (notedBy (model prog w) A env fun x s' => R (.error x) s') s) :
    codeAny (model prog w) A (.compStart (.ListComp elt [⟨t0, i0, ifs0, 0⟩, ⟨t1, i1, ifs1, 0⟩, ⟨t2, i2, ifs2, 0⟩] scope pos) 2 it acc env) R s := by
  refine codeAny_of_tree ?_
  show wpAny _ _ ((compStart (.ListComp elt [⟨t0, i0, ifs0, 0⟩, ⟨t1, i1, ifs1, 0⟩, ⟨t2, i2, ifs2, 0⟩] scope pos) 2 it acc env).onRaise (fun x => do noteFrame x env; standAt theWindowsPlace)) _ _ s
  refine wpAny_notedAt ?_
  unfold compStart
  show wpAny _ _ (ask >>= _) _ _ s
  refine wpAny_bind (wpAny_askSetting (wpAny_ite ?_))
  split
  · first
      | exact wpAny_bind (wpAny_pure (wpAny_pure (And.intro rfl h0)))
      | exact wpAny_pure (And.intro rfl h0)
  · first
      | exact wpAny_bind (wpAny_rule (wpAny_bind (wpAny_standAt (wpAny_bind (wpAny_mono h (fun it' s' h' => wpAny_pure (And.intro rfl h')) fun _ _ x => x)))))
      | (refine wpAny_bind (wpAny_rule ?_); show wpAny _ _ (standAt i2.pos >>= _) _ _ s; exact wpAny_bind (wpAny_standAt (wpAny_bind (wpAny_mono h (fun it' s' h' => wpAny_pure (And.intro rfl h')) fun _ _ x => x))))
end
section
variable {X : Cx}
/-- the loop of the last clause: from each turn Nx1, at the end Nx -/
def tIn (J1 : It) (g1 : TG) (tt1 : TT) (te : TE) (vs1 : List Nat) (D : Addr) (σ2 : L2.St) (Nx : Hp → Prop) (H4 : Hp) : Prop :=
  ∃ W1 : Nat → Nat → Hp → Prop, (∃ m, W1 0 m H4) ∧ ∀ j k H, W1 j k H →
      (J1.stop j H ∧ Nx H) ∨ (J1.go j H ∧ ∃ Nx1 : Hp → Prop, (∀ H', Nx1 H' → ∃ k', k' < k ∧ W1 (j + 1) k' H') ∧ ∀ x H', J1.yld j H x H' → g1 x (wipe σ2 vs1) H' fun σ3 H5 => wipe σ3 vs1 = wipe σ2 vs1 ∧ tt1 σ3 H5 fun b H6 =>
        if b = true then te σ3 H6 fun y H7 => ∃ acc, H7 D = some (.lst acc) ∧ acc.length < sizeLine ∧ Nx1 (upd H7 D (.lst (acc ++ [y]))) else Nx1 H6)
/-- the loop of a clause ahead of another -/
def tMid (J1 : It) (g1 : TG) (tt1 : TT) (wi2 : TI) (vs1 : List Nat) (inn : It → L2.St → (Hp → Prop) → Hp → Prop) (σ2 : L2.St) (Nx : Hp → Prop) (H4 : Hp) : Prop :=
  ∃ W1 : Nat → Nat → Hp → Prop, (∃ m, W1 0 m H4) ∧ ∀ j k H, W1 j k H →
      (J1.stop j H ∧ Nx H) ∨ (J1.go j H ∧ ∃ Nx1 : Hp → Prop, (∀ H', Nx1 H' → ∃ k', k' < k ∧ W1 (j + 1) k' H') ∧ ∀ x H', J1.yld j H x H' → g1 x (wipe σ2 vs1) H' fun σ3 H5 => wipe σ3 vs1 = wipe σ2 vs1 ∧ tt1 σ3 H5 fun b H6 =>
        if b = true then wi2 σ3 H6 fun J2 H7 => inn J2 σ3 Nx1 H7 else Nx1 H6)
def tLc3 (wi : TI) (g : TG) (tt : TT) (wi1 : TI) (g1 : TG) (tt1 : TT) (wi2 : TI) (g2 : TG) (tt2 : TT) (te : TE) (vs vs1 vs2 : List Nat) : TE := fun σ H Q => wi σ H fun J H1 => ∀ D, H1 D = none →
  tMid J g tt wi1 vs (fun J1 σ2 Nx H4 => tMid J1 g1 tt1 wi2 vs1 (fun J2 σ3 Nx2 H7 => tIn J2 g2 tt2 te vs2 D σ3 Nx2 H7) σ2 Nx H4) σ (fun H => Q (.ref D) H) (upd H1 D (.lst []))
theorem lc3_core {pins : List (Addr × Obj)} {s : Shared} {σ : L2.St} {H : Hp} {Q : VK} {elt tg iter tg1 iter1 tg2 iter2 : Expr} {ifs ifs1 ifs2 : List Expr} {scope : Scope} {own : List (Str × Nat)} {vs1 vs2 : List Nat} {pos pos' : Pos} {wi wi1 wi2 : TI} {g g1 g2 : TG} {tt tt1 tt2 : TT} {te : TE} {use : Option (Value → Sem Unit)} {Qf : Value → Shared → Prop}
    (hc : X.calm = true) (hN : X.N.Nodup) (I : Inv X pins σ H s) (hi : PI X tg iter wi) (ok : BlkOk X.N X.env.scope scope own) (hv : ∀ i ∈ vs1, i ∈ own.map (·.2)) (hv2 : ∀ i ∈ vs2, i ∈ vs1)
    (hg : ∀ (s : Shared) (H : Hp) (C : Addr) (cl : List (Str × Addr)) (fp : List Addr), PG (X.blk s H scope (compEnvC scope cl C X.env) fp) tg g) (ht : ∀ (s : Shared) (H : Hp) (C : Addr) (cl : List (Str × Addr)) (fp : List Addr), PTs (X.blk s H scope (compEnvC scope cl C X.env) fp) ifs tt)
    (hi1 : ∀ (s : Shared) (H : Hp) (C : Addr) (cl : List (Str × Addr)) (fp : List Addr), PI (X.blk s H scope (compEnvC scope cl C X.env) fp) tg1 iter1 wi1)
    (hg1 : ∀ (s : Shared) (H : Hp) (C : Addr) (cl : List (Str × Addr)) (fp : List Addr), PG (X.blk s H scope (compEnvC scope cl C X.env) fp) tg1 g1) (ht1 : ∀ (s : Shared) (H : Hp) (C : Addr) (cl : List (Str × Addr)) (fp : List Addr), PTs (X.blk s H scope (compEnvC scope cl C X.env) fp) ifs1 tt1)
    (hi2 : ∀ (s : Shared) (H : Hp) (C : Addr) (cl : List (Str × Addr)) (fp : List Addr), PI (X.blk s H scope (compEnvC scope cl C X.env) fp) tg2 iter2 wi2)
    (hg2 : ∀ (s : Shared) (H : Hp) (C : Addr) (cl : List (Str × Addr)) (fp : List Addr), PG (X.blk s H scope (compEnvC scope cl C X.env) fp) tg2 g2) (ht2 : ∀ (s : Shared) (H : Hp) (C : Addr) (cl : List (Str × Addr)) (fp : List Addr), PTs (X.blk s H scope (compEnvC scope cl C X.env) fp) ifs2 tt2)
    (he : ∀ (s : Shared) (H : Hp) (C : Addr) (cl : List (Str × Addr)) (fp : List Addr), PE (X.blk s H scope (compEnvC scope cl C X.env) fp) elt te) (hs : ∀ x, foldedSetIterable iter X.env x = pure x)
    (hs1 : ∀ env x, foldedSetIterable iter1 env x = pure x) (hs2 : ∀ env x, foldedSetIterable iter2 env x = pure x)
    (h : tLc3 wi g tt wi1 g1 tt1 wi2 g2 tt2 te (own.map (·.2)) vs1 vs2 σ H Q)
    (hRR : ∀ D C s' m H', Inv X pins σ H' s' → Q (.ref D) H' → s'.heap.Ns C m → FpOk X pins H' C → compPost (model X.prog X.w) X.A X.xe use Qf (.ref D) C (.ok .next) s') :
    wpAny (model X.prog X.w) X.A (comprehension (.ListComp elt [⟨tg, iter, ifs, 0⟩, ⟨tg1, iter1, ifs1, 0⟩, ⟨tg2, iter2, ifs2, 0⟩] scope pos) scope X.env pos' (newList []) false (eval iter X.env) use) Qf X.xe s := by
  have hfree : ∀ y ∈ scope.names, y.2 = .free → ∃ c, X.env.cells.lookup y.1 = some c := fun y hy e => by
    rcases ok.free y hy e with k | k
    · exact I.ok.has _ (.inl k)
    · exact I.ok.has _ (.inr k)
  refine wpAny_comprehension_free (use := use) rfl hs (closure_ok hfree) ok.kind (fun y hy e => by rw [ok.uniq y hy, e])
    (thn (hi.run pins s σ H _ I h) fun xv s1 hx => thn hx fun itv s2 h2 => ?_)
  obtain ⟨it, fp, tn, J, H2, e, I2, T, st2, f2, q⟩ := h2
  subst e
  refine wpAny_newObj_type (newEnv_comp ?_) (by show 0 ≤ sizeLine; decide)
  generalize hD : s2.heap.objs.size = D
  have hDn : H2 D = none := I2.hok.fresh (Nat.le_of_eq hD)
  obtain ⟨W, ⟨m0, w0⟩, turn⟩ := q D hDn
  generalize hs3 : ({ s2 with heap := s2.heap.push { cls := .type "list", data := .seq ([] : List Value).toArray } } : Shared) = s3
  have I3 : Inv X pins σ (upd H2 D (.lst [])) s3 := by
    rw [← hs3]
    refine I2.laid (t' := s2.toks) (fun b o e => Heap.get?_push_of_some _ e) (Nat.le_of_eq hD) ⟨Nat.zero_le _, [], 0, .nil, ?_⟩
    rw [← hD]
    exact Heap.get?_push_size _ rfl
  have h3 : s3.heap = s2.heap.push { cls := .type "list", data := .seq ([] : List Value).toArray } := by rw [← hs3]
  have sz : ∀ b ∈ fp, b < s2.heap.objs.size := fun b hb => by
    obtain ⟨o, e, _⟩ := T.obj _ _ st2 b hb
    exact Heap.lt_size e
  have f3 : ∀ b ∈ fp, FpOk X pins (upd H2 D (.lst [])) b ∧ b < s3.heap.objs.size := fun b hb => by
    have hlt := sz b hb
    refine ⟨⟨?_, (f2 b hb).2⟩, by rw [h3, Heap.size_push]; exact Nat.lt_succ_of_lt hlt⟩
    rw [upd_ne (by rw [← hD]; exact Nat.ne_of_lt hlt)]
    exact (f2 b hb).1
  have st3 : tn 0 s3.heap := T.keep _ _ _ st2 fun b _ o e => by rw [h3]; exact Heap.get?_push_of_some _ e
  have I4 := block_start I3 ok hN f3
  have pg := hg s3 (upd H2 D (.lst [])) s3.heap.objs.size (cellsFrom (s3.heap.objs.size + 1) scope.names (cloFrom X.env.cells scope.names [])) fp
  have pt := ht s3 (upd H2 D (.lst [])) s3.heap.objs.size (cellsFrom (s3.heap.objs.size + 1) scope.names (cloFrom X.env.cells scope.names [])) fp
  have pe := he s3 (upd H2 D (.lst [])) s3.heap.objs.size (cellsFrom (s3.heap.objs.size + 1) scope.names (cloFrom X.env.cells scope.names [])) fp
  have pi1 := hi1 s3 (upd H2 D (.lst [])) s3.heap.objs.size (cellsFrom (s3.heap.objs.size + 1) scope.names (cloFrom X.env.cells scope.names [])) fp
  have pg1 := hg1 s3 (upd H2 D (.lst [])) s3.heap.objs.size (cellsFrom (s3.heap.objs.size + 1) scope.names (cloFrom X.env.cells scope.names [])) fp
  have pt1 := ht1 s3 (upd H2 D (.lst [])) s3.heap.objs.size (cellsFrom (s3.heap.objs.size + 1) scope.names (cloFrom X.env.cells scope.names [])) fp
  have pi2 := hi2 s3 (upd H2 D (.lst [])) s3.heap.objs.size (cellsFrom (s3.heap.objs.size + 1) scope.names (cloFrom X.env.cells scope.names [])) fp
  have pg2 := hg2 s3 (upd H2 D (.lst [])) s3.heap.objs.size (cellsFrom (s3.heap.objs.size + 1) scope.names (cloFrom X.env.cells scope.names [])) fp
  have pt2 := ht2 s3 (upd H2 D (.lst [])) s3.heap.objs.size (cellsFrom (s3.heap.objs.size + 1) scope.names (cloFrom X.env.cells scope.names [])) fp
  show codeAny _ _ (.compStart (.ListComp elt [⟨tg, iter, ifs, 0⟩, ⟨tg1, iter1, ifs1, 0⟩, ⟨tg2, iter2, ifs2, 0⟩] scope pos) 0 (.ref it) (.ref D) (compEnvC scope (cellsFrom (s3.heap.objs.size + 1) scope.names (cloFrom X.env.cells scope.names [])) s3.heap.objs.size X.env)) (compPost (model X.prog X.w) X.A X.xe use Qf (.ref D) s3.heap.objs.size) { s3 with heap := pushCells (s3.heap.push { cls := .type "dict", data := .dict #[] }) scope.names }
  have nfp : ∀ b ∈ fp, (upd H2 D (.lst [])) b = none := fun b hb => (f3 b hb).1.1
  generalize hce : compEnvC scope (cellsFrom (s3.heap.objs.size + 1) scope.names (cloFrom X.env.cells scope.names [])) s3.heap.objs.size X.env = ce at I4 pg pt pe pi1 pg1 pt1 pi2 pg2 pt2 ⊢
  have cL : ce.locals = s3.heap.objs.size := by subst hce; rfl
  generalize hH3 : upd H2 D (.lst []) = H3 at I3 I4 pg pt pe pi1 pg1 pt1 pi2 pg2 pt2 w0 nfp f3
  generalize hs4 : ({ s3 with heap := pushCells (s3.heap.push { cls := .type "dict", data := .dict #[] }) scope.names } : Shared) = s4 at I4 ⊢
  have st4 : tn 0 s4.heap := T.keep _ _ _ st3 fun b _ o e => by rw [← hs4]; exact pushCells_keeps _ _ _ _ (Heap.get?_push_of_some _ e)
  have stat : ∀ {σ' : L2.St} {H' : Hp} {s' : Shared}, Inv (X.blk s3 H3 scope ce fp) [] σ' H' s' → (∀ b ∈ fp, H' b = none) → ∀ b ∈ fp, FpOk (X.blk s3 H3 scope ce fp) [] H' b := fun {σ' H' s'} I' hn b hb =>
    ⟨hn b hb, (I'.ok.exf b hb).1, I'.ok.exfs b hb, .inl hb, fun x c e => (I'.ok.exf b hb).2 x c e, fun p hp => absurd (show p ∈ ([] : List (Addr × Obj)) ++ [] from hp) (by simp)⟩
  have loop : codeAny (model X.prog X.w) X.A (.compLoop (.ListComp elt [⟨tg, iter, ifs, 0⟩, ⟨tg1, iter1, ifs1, 0⟩, ⟨tg2, iter2, ifs2, 0⟩] scope pos) 0 (.ref it) (.ref D) ce) (compPost (model X.prog X.w) X.A X.xe use Qf (.ref D) s3.heap.objs.size) s4 := by
    refine compLoop3_0 (hs1 ce) (fun n s' => ∃ i H', Inv (X.blk s3 H3 scope ce fp) [] (wipe σ (own.map (·.2))) H' s' ∧ tn i s'.heap ∧ (∀ b ∈ fp, H' b = none) ∧ W i n H') ?_ m0 ⟨0, H3, I4, st4, nfp, w0⟩
    rintro n s5 ⟨i, H5, I5, st5, n5, w5⟩
    rcases turn i n H5 w5 with ⟨stop, qq⟩ | ⟨go, Nx, hNx, step⟩
    · have td := T.done (X.blk s3 H3 scope ce fp) rfl rfl rfl hc i [] s5 _ H5 (fun _ _ => False) I5 (stat I5 n5) st5 stop
      refine thnF td fun r s6 ⟨hr, I6⟩ => ?_
      subst hr
      have I7 : Inv X pins σ H5 s6 := I3.call' (ch := fp) I6.os I6.base I6.hok I6.bare fun b hb => ⟨(f3 b hb).1.2.2.2.1, (f3 b hb).1.2.1, (f3 b hb).1.2.2.2.2.1, (f3 b hb).1.2.2.2.2.2⟩
      have nC : H5 s3.heap.objs.size = none := by
        have z : H5 ce.locals = none := I6.free
        rw [cL] at z
        exact z
      obtain ⟨m, hn, _⟩ := I6.loc
      have hn : s6.heap.Ns ce.locals m := hn
      rw [cL] at hn
      exact hRR D s3.heap.objs.size s6 m H5 I7 qq hn (I3.fpOk (Nat.le_refl _) nC)
    · have ti := T.item (X.blk s3 H3 scope ce fp) rfl rfl rfl hc i [] s5 _ H5 (fun _ _ => False) I5 (stat I5 n5) st5 go
      refine thnF ti fun r s6 ⟨u, hr, h6⟩ => ?_
      subst hr
      refine thnF h6 fun _ s7 ⟨x, H7, I7, r7, y7, st7, n7⟩ => ?_
      have I7' := I7.pinned (stat I7 n7) (T.obj _ _ st7)
      refine thnF (pg.run _ s7 _ H7 x u _ I7' r7 (step x H7 y7)) fun _ s8 ⟨σ8, H8, I8, hw8, q8⟩ => ?_
      refine thnF (pt.run _ s8 σ8 H8 _ I8 q8) fun b s9 ⟨H9, I9, q9⟩ => ?_
      have fin : ∀ {σ9 : L2.St} {s' : Shared} {H' : Hp}, Inv (X.blk s3 H3 scope ce fp) ([] ++ pinsAt fp s7.heap) σ9 H' s' → (wipe σ (own.map (·.2))).length = σ9.length → (∀ (j : Nat) v, (wipe σ (own.map (·.2)))[j]? = some (some v) → σ9[j]? = some (some v)) → Nx H' →
          ∃ m, m < n ∧ ∃ i H', Inv (X.blk s3 H3 scope ce fp) [] (wipe σ (own.map (·.2))) H' s' ∧ tn i s'.heap ∧ (∀ b ∈ fp, H' b = none) ∧ W i m H' := fun {σ9 s' H'} I' hl hk nx => by
        obtain ⟨m', hm, w'⟩ := hNx H' nx
        have pin' : ∀ b ∈ fp, ∀ o, s7.heap.get? b = some o → s'.heap.get? b = some o ∧ H' b = none := fun b hb o e =>
          let z := I'.pin (b, o) (List.mem_append_right _ (List.mem_append_right _ (mem_pinsAt hb e)))
          ⟨z.1, z.2.1⟩
        refine ⟨m', hm, i + 1, H', (I'.unpinned (pins := [])).weak hl hk, T.keep _ _ _ st7 fun b hb o e => (pin' b hb o e).1, fun b hb => ?_, w'⟩
        obtain ⟨o, e, _⟩ := T.obj _ _ st7 b hb
        exact (pin' b hb o e).2
      have hl8 : (wipe σ (own.map (·.2))).length = σ8.length := by rw [← hw8, wipe_length]
      have hk8 : ∀ (j : Nat) v, (wipe σ (own.map (·.2)))[j]? = some (some v) → σ8[j]? = some (some v) := fun j v e => by
        rw [← hw8] at e
        exact (wipe_some e).1
      have hk9 : ∀ (j : Nat) v, (wipe σ (own.map (·.2)))[j]? = some (some v) → (wipe σ8 vs1)[j]? = some (some v) := fun j v e => by
        rw [← hw8] at e
        obtain ⟨e1, e2⟩ := wipe_some e
        rw [wipe_out fun z => e2 (hv j z)]
        exact e1
      cases b with
      | false =>
        simp only [Bool.false_eq_true, if_false] at q9 ⊢
        exact fin I9 hl8 hk8 q9
      | true =>
        simp only [if_true] at q9 ⊢
        refine thnF (pi1.run _ s9 σ8 H9 _ I9 q9) fun xv s10 hx => thnF hx fun itv s11 h11 => ?_
        obtain ⟨it1, fp1, tn1, J1, H11, e1, I11, T1, st11, f11, W1, ⟨m1, w1⟩, turn1⟩ := h11
        subst e1
        have stat1 : ∀ {H' : Hp}, (∀ b ∈ fp1, H' b = none) → ∀ b ∈ fp1, FpOk (X.blk s3 H3 scope ce fp) ([] ++ pinsAt fp s7.heap) H' b := fun hn b hb => ⟨hn b hb, (f11 b hb).2⟩
        have loop1 : codeAny (model X.prog X.w) X.A (.compLoop (.ListComp elt [⟨tg, iter, ifs, 0⟩, ⟨tg1, iter1, ifs1, 0⟩, ⟨tg2, iter2, ifs2, 0⟩] scope pos) 1 (.ref it1) (.ref D) ce)
            (fun r s' => match r with
              | .ok _ => ∃ m, m < n ∧ ∃ i H', Inv (X.blk s3 H3 scope ce fp) [] (wipe σ (own.map (·.2))) H' s' ∧ tn i s'.heap ∧ (∀ b ∈ fp, H' b = none) ∧ W i m H'
              | .error _ => False) s11 := by
          refine compLoop3_1 (hs2 ce) (fun k s' => ∃ j H', Inv (X.blk s3 H3 scope ce fp) ([] ++ pinsAt fp s7.heap) (wipe σ8 vs1) H' s' ∧ tn1 j s'.heap ∧ (∀ b ∈ fp1, H' b = none) ∧ W1 j k H') ?_ m1 ⟨0, H11, I11.weak (wipe_length _ _) (fun j v e => (wipe_some e).1), st11, fun b hb => (f11 b hb).1, w1⟩
          rintro k s12 ⟨j, H12, I12, st12, n12, w12⟩
          rcases turn1 j k H12 w12 with ⟨stop1, nx1⟩ | ⟨go1, Nx1, hNx1, step1⟩
          · refine thnF (T1.done (X.blk s3 H3 scope ce fp) rfl rfl rfl hc j _ s12 (wipe σ8 vs1) H12 (fun _ _ => False) I12 (stat1 n12) st12 stop1) fun r s13 ⟨hr, I13⟩ => ?_
            subst hr
            exact fin I13 (hl8.trans (wipe_length σ8 vs1).symm) hk9 nx1
          · refine thnF (T1.item (X.blk s3 H3 scope ce fp) rfl rfl rfl hc j _ s12 (wipe σ8 vs1) H12 (fun _ _ => False) I12 (stat1 n12) st12 go1) fun r s13 ⟨u1, hr, h13⟩ => ?_
            subst hr
            refine thnF h13 fun _ s14 ⟨x1, H14, I14, r14, y14, st14, n14⟩ => ?_
            have I14' := I14.pinned (stat1 n14) (T1.obj _ _ st14)
            refine thnF (pg1.run _ s14 (wipe σ8 vs1) H14 x1 u1 _ I14' r14 (step1 x1 H14 y14)) fun _ s15 ⟨σ15, H15, I15, hw15, q15⟩ => ?_
            refine thnF (pt1.run _ s15 σ15 H15 _ I15 q15) fun b1 s16 ⟨H16, I16, q16⟩ => ?_
            have fin1 : ∀ {σ9 : L2.St} {s' : Shared} {H' : Hp}, Inv (X.blk s3 H3 scope ce fp) (([] ++ pinsAt fp s7.heap) ++ pinsAt fp1 s14.heap) σ9 H' s' → (wipe σ8 vs1).length = σ9.length → (∀ (j : Nat) v, (wipe σ8 vs1)[j]? = some (some v) → σ9[j]? = some (some v)) → Nx1 H' → ∃ m, m < k ∧ ∃ j H', Inv (X.blk s3 H3 scope ce fp) ([] ++ pinsAt fp s7.heap) (wipe σ8 vs1) H' s' ∧ tn1 j s'.heap ∧ (∀ b ∈ fp1, H' b = none) ∧ W1 j m H' := fun {σ9 s' H'} I' hl hk nx => by
              obtain ⟨m', hm, w'⟩ := hNx1 H' nx
              have pin' : ∀ b ∈ fp1, ∀ o, s14.heap.get? b = some o → s'.heap.get? b = some o ∧ H' b = none := fun b hb o e =>
                let z := I'.pin (b, o) (List.mem_append_right _ (List.mem_append_right _ (mem_pinsAt hb e)))
                ⟨z.1, z.2.1⟩
              refine ⟨m', hm, j + 1, H', I'.unpinned.weak hl hk, T1.keep _ _ _ st14 fun b hb o e => (pin' b hb o e).1, fun b hb => ?_, w'⟩
              obtain ⟨o, e, _⟩ := T1.obj _ _ st14 b hb
              exact (pin' b hb o e).2
            have hl15 : (wipe σ8 vs1).length = σ15.length := by rw [← hw15, wipe_length]
            have hk15 : ∀ (j : Nat) v, (wipe σ8 vs1)[j]? = some (some v) → σ15[j]? = some (some v) := fun j v e => by
              rw [← hw15] at e
              exact (wipe_some e).1
            have hk16 : ∀ (j : Nat) v, (wipe σ8 vs1)[j]? = some (some v) → (wipe σ15 vs2)[j]? = some (some v) := fun j v e => by
              rw [← hw15] at e
              obtain ⟨e1, e2⟩ := wipe_some e
              rw [wipe_out fun z => e2 (hv2 j z)]
              exact e1
            cases b1 with
            | false =>
              simp only [Bool.false_eq_true, if_false] at q16 ⊢
              exact fin1 I16 hl15 hk15 q16
            | true =>
              simp only [if_true] at q16 ⊢
              refine thnF (pi2.run _ s16 σ15 H16 _ I16 q16) fun xv2 s20 hx2 => thnF hx2 fun itv2 s21 h21 => ?_
              obtain ⟨it2, fp2, tn2, J2, H21, e2, I21, T2, st21, f21, W2, ⟨m2, w2⟩, turn2⟩ := h21
              subst e2
              have stat2 : ∀ {H' : Hp}, (∀ b ∈ fp2, H' b = none) → ∀ b ∈ fp2, FpOk (X.blk s3 H3 scope ce fp) (([] ++ pinsAt fp s7.heap) ++ pinsAt fp1 s14.heap) H' b := fun hn b hb => ⟨hn b hb, (f21 b hb).2⟩
              have loop2 : codeAny (model X.prog X.w) X.A (.compLoop (.ListComp elt [⟨tg, iter, ifs, 0⟩, ⟨tg1, iter1, ifs1, 0⟩, ⟨tg2, iter2, ifs2, 0⟩] scope pos) 2 (.ref it2) (.ref D) ce)
                  (fun r s' => match r with
                    | .ok _ => ∃ m, m < k ∧ ∃ j H', Inv (X.blk s3 H3 scope ce fp) ([] ++ pinsAt fp s7.heap) (wipe σ8 vs1) H' s' ∧ tn1 j s'.heap ∧ (∀ b ∈ fp1, H' b = none) ∧ W1 j m H'
                    | .error _ => False) s21 := by
                refine compLoop3_2 (fun k s' => ∃ j H', Inv (X.blk s3 H3 scope ce fp) (([] ++ pinsAt fp s7.heap) ++ pinsAt fp1 s14.heap) (wipe σ15 vs2) H' s' ∧ tn2 j s'.heap ∧ (∀ b ∈ fp2, H' b = none) ∧ W2 j k H') ?_ m2 ⟨0, H21, I21.weak (wipe_length _ _) (fun j v e => (wipe_some e).1), st21, fun b hb => (f21 b hb).1, w2⟩
                rintro k2 s22 ⟨j2, H22, I22, st22, n22, w22⟩
                rcases turn2 j2 k2 H22 w22 with ⟨stop2, nx2⟩ | ⟨go2, Nx2, hNx2, step2⟩
                · refine thnF (T2.done (X.blk s3 H3 scope ce fp) rfl rfl rfl hc j2 _ s22 (wipe σ15 vs2) H22 (fun _ _ => False) I22 (stat2 n22) st22 stop2) fun r s23 ⟨hr, I23⟩ => ?_
                  subst hr
                  exact fin1 I23 (hl15.trans (wipe_length σ15 vs2).symm) hk16 nx2
                · refine thnF (T2.item (X.blk s3 H3 scope ce fp) rfl rfl rfl hc j2 _ s22 (wipe σ15 vs2) H22 (fun _ _ => False) I22 (stat2 n22) st22 go2) fun r s23 ⟨u2, hr, h23⟩ => ?_
                  subst hr
                  refine thnF h23 fun _ s24 ⟨x2, H24, I24, r24, y24, st24, n24⟩ => ?_
                  have I24' := I24.pinned (stat2 n24) (T2.obj _ _ st24)
                  refine thnF (pg2.run _ s24 (wipe σ15 vs2) H24 x2 u2 _ I24' r24 (step2 x2 H24 y24)) fun _ s25 ⟨σ25, H25, I25, hw25, q25⟩ => ?_
                  refine thnF (pt2.run _ s25 σ25 H25 _ I25 q25) fun b2 s26 ⟨H26, I26, q26⟩ => ?_
                  have fin2 : ∀ {s' : Shared} {H' : Hp}, Inv (X.blk s3 H3 scope ce fp) ((([] ++ pinsAt fp s7.heap) ++ pinsAt fp1 s14.heap) ++ pinsAt fp2 s24.heap) σ25 H' s' → Nx2 H' → ∃ m, m < k2 ∧ ∃ j H', Inv (X.blk s3 H3 scope ce fp) (([] ++ pinsAt fp s7.heap) ++ pinsAt fp1 s14.heap) (wipe σ15 vs2) H' s' ∧ tn2 j s'.heap ∧ (∀ b ∈ fp2, H' b = none) ∧ W2 j m H' := fun {s' H'} I' nx => by
                    obtain ⟨m', hm, w'⟩ := hNx2 H' nx
                    have pin' : ∀ b ∈ fp2, ∀ o, s24.heap.get? b = some o → s'.heap.get? b = some o ∧ H' b = none := fun b hb o e =>
                      let z := I'.pin (b, o) (List.mem_append_right _ (List.mem_append_right _ (mem_pinsAt hb e)))
                      ⟨z.1, z.2.1⟩
                    refine ⟨m', hm, j2 + 1, H', I'.unpinned.weak (by rw [← hw25, wipe_length]) (fun j v e => by rw [← hw25] at e; exact (wipe_some e).1), T2.keep _ _ _ st24 fun b hb o e => (pin' b hb o e).1, fun b hb => ?_, w'⟩
                    obtain ⟨o, e, _⟩ := T2.obj _ _ st24 b hb
                    exact (pin' b hb o e).2
                  cases b2 with
                  | false =>
                    simp only [Bool.false_eq_true, if_false] at q26 ⊢
                    exact fin2 I26 q26
                  | true =>
                    simp only [if_true] at q26 ⊢
                    refine thnF (pe.run _ s26 σ25 H26 _ I26 q26) fun z s27 ⟨yv, H27, I27, r27, acc, hD27, hz27, nx⟩ => ?_
                    exact app_ok (X := (X.blk s3 H3 scope ce fp)) I27 hD27 hz27 r27 fun s28 I28 => fin2 I28 nx
              exact compStart3_2 loop2 (T2.self X.A 0 _ _ _ st21 loop2)
        exact compStart3_1 loop1 (T1.self X.A 0 _ _ _ st11 loop1)
  exact codeAny_compStart_list loop (T.self X.A 0 _ _ _ st4 loop)
theorem pe_lc3 {elt tg iter tg1 iter1 tg2 iter2 : Expr} {ifs ifs1 ifs2 : List Expr} {scope : Scope} {own : List (Str × Nat)} {vs1 vs2 : List Nat} {pos : Pos} {wi wi1 wi2 : TI} {g g1 g2 : TG} {tt tt1 tt2 : TT} {te : TE} (hc : X.calm = true) (hN : X.N.Nodup) (hi : PI X tg iter wi) (ok : BlkOk X.N X.env.scope scope own) (hv : ∀ i ∈ vs1, i ∈ own.map (·.2)) (hv2 : ∀ i ∈ vs2, i ∈ vs1)
    (hg : ∀ (s : Shared) (H : Hp) (C : Addr) (cl : List (Str × Addr)) (fp : List Addr), PG (X.blk s H scope (compEnvC scope cl C X.env) fp) tg g) (ht : ∀ (s : Shared) (H : Hp) (C : Addr) (cl : List (Str × Addr)) (fp : List Addr), PTs (X.blk s H scope (compEnvC scope cl C X.env) fp) ifs tt)
    (hi1 : ∀ (s : Shared) (H : Hp) (C : Addr) (cl : List (Str × Addr)) (fp : List Addr), PI (X.blk s H scope (compEnvC scope cl C X.env) fp) tg1 iter1 wi1)
    (hg1 : ∀ (s : Shared) (H : Hp) (C : Addr) (cl : List (Str × Addr)) (fp : List Addr), PG (X.blk s H scope (compEnvC scope cl C X.env) fp) tg1 g1) (ht1 : ∀ (s : Shared) (H : Hp) (C : Addr) (cl : List (Str × Addr)) (fp : List Addr), PTs (X.blk s H scope (compEnvC scope cl C X.env) fp) ifs1 tt1)
    (hi2 : ∀ (s : Shared) (H : Hp) (C : Addr) (cl : List (Str × Addr)) (fp : List Addr), PI (X.blk s H scope (compEnvC scope cl C X.env) fp) tg2 iter2 wi2)
    (hg2 : ∀ (s : Shared) (H : Hp) (C : Addr) (cl : List (Str × Addr)) (fp : List Addr), PG (X.blk s H scope (compEnvC scope cl C X.env) fp) tg2 g2) (ht2 : ∀ (s : Shared) (H : Hp) (C : Addr) (cl : List (Str × Addr)) (fp : List Addr), PTs (X.blk s H scope (compEnvC scope cl C X.env) fp) ifs2 tt2)
    (he : ∀ (s : Shared) (H : Hp) (C : Addr) (cl : List (Str × Addr)) (fp : List Addr), PE (X.blk s H scope (compEnvC scope cl C X.env) fp) elt te) (hs : ∀ x, foldedSetIterable iter X.env x = pure x := by intro _; rfl) (hs1 : ∀ env x, foldedSetIterable iter1 env x = pure x := by intro _ _; rfl) (hs2 : ∀ env x, foldedSetIterable iter2 env x = pure x := by intro _ _; rfl) :
    PE X (.ListComp elt [⟨tg, iter, ifs, 0⟩, ⟨tg1, iter1, ifs1, 0⟩, ⟨tg2, iter2, ifs2, 0⟩] scope pos) (tLc3 wi g tt wi1 g1 tt1 wi2 g2 tt2 te (own.map (·.2)) vs1 vs2) := by
  refine ⟨fun pins s σ H Q I h => ?_⟩
  rw [eval_ListComp]
  refine lc3_core hc hN I hi ok hv hv2 hg ht hi1 hg1 ht1 hi2 hg2 ht2 he hs hs1 hs2 h fun D C s' m H' I' q hn f => ⟨m, hn, fun h'' sb => ?_⟩
  obtain ⟨f0, f1, f2, f3, f4, f5⟩ := f
  exact ⟨.ref D, H', I'.turned (t' := s'.toks) (fun b o hb e => (sb.2 b hb).trans e) f0 f1 f3 f4 f5, rfl, q⟩
end
end DL
namespace DL
open PySem PySem.Spec PyProof.Rows L2
theorem pre_get {α : Type} {a b : List α} (p : a <+: b) {n : Nat} {x : α} (h : a[n]? = some x) : b[n]? = some x := by
  obtain ⟨t, rfl⟩ := p
  rw [List.getElem?_append_left (List.getElem?_eq_some_iff.mp h).1]; exact h
/-- a clause ahead of another -/
def midLoop (s : Src) (g : G) (tt : M Bool) (mi1 : M (Src × Option Nat)) (inn : Src → Rho → Hd → Option Hd) (ρw : Rho) : Nat → Nat → Hd → Option Hd
  | 0, _, _ => none
  | n + 1, i, hp => match nextD s i hp with
    | some (some d) => (match g d ρw hp with
      | some (ρ2, h2) => (match tt ρ2 h2 with
        | some (true, h3) => (match mi1 ρ2 h3 with
          | some ((s1, none), h4) => (match inn s1 ρ2 h4 with
            | some h5 => midLoop s g tt mi1 inn ρw n (i + 1) h5
            | none => none)
          | _ => none)
        | some (false, h3) => midLoop s g tt mi1 inn ρw n (i + 1) h3
        | none => none)
      | none => none)
    | some none => some hp
    | none => none
def mLc3 (N : Nat) (vs : List Nat) (mi : M (Src × Option Nat)) (g : G) (tt : M Bool) (c1 c2 : Cl) (me : M D) : M D := fun ρ hp => match mi ρ hp with
  | some ((s, u), h) => (match midLoop s g tt c1.mi (fun s1 ρ1 h1 => midLoop s1 c1.g c1.tt c2.mi (fun s2 ρ2 h2 => lcLoop s2 c2.g c2.tt me (wipeR ρ2 c2.vs) h.n N 0 h2) (wipeR ρ1 c1.vs) N 0 h1) (wipeR ρ vs) N 0 (h.push (.lst [])) with
    | some h' => (match unl u h' with
      | some h'' => some (.ref h.n, h'')
      | none => none)
    | none => none)
  | none => none
section
variable {X : Cx}
theorem in_lc {s : Src} {g : G} {tt : M Bool} {me : M D} {vs : List Nat} {nL N : Nat} {σ : L2.St} {H : Hp} {ρ : Rho} {hp h' : Hd} {ad : List Addr} {J : It} {D : Addr} {Nx : Hp → Prop} (st : St0 (en X) ρ hp ad σ H) (jr : JR (en X) ad H s J) (hD : ad[nL]? = some D)
    (e : lcLoop s g tt me (wipeR ρ vs) nL N 0 hp = some h') (nx : ∀ H' a', Ex (en X) H H' → ad <+: a' → HR (en X) a' H' h' → Nx H') : tIn J (rGc (en X) vs g) (rT (en X) tt) (rE (en X) me) vs D σ Nx H := by
  refine ⟨fun j k Hj => ∃ hj aj, Ex (en X) H Hj ∧ ad <+: aj ∧ HR (en X) aj Hj hj ∧ lcLoop s g tt me (wipeR ρ vs) nL k j hj = some h', ⟨N, _, _, .refl, List.prefix_refl _, st.h, e⟩, ?_⟩
  rintro j k Hj ⟨hj, aj, xj, pj, rj, ej⟩
  obtain ⟨jgo4, jstop4⟩ := jr j Hj aj hj xj pj rj
  cases k with
  | zero => cases ej
  | succ k =>
    rw [lcLoop] at ej
    split at ej
    · rename_i d' ed'
      obtain ⟨go', yl'⟩ := jgo4 d' ed'
      refine .inr ⟨go', fun H' => ∃ hk ak, Ex (en X) H H' ∧ ad <+: ak ∧ HR (en X) ak H' hk ∧ lcLoop s g tt me (wipeR ρ vs) nL k (j + 1) hk = some h', fun H' ⟨hk, ak, xk, pk, rk, ek⟩ => ⟨k, Nat.lt_succ_self k, hk, ak, xk, pk, rk, ek⟩, fun x' Hz z => ?_⟩
      obtain ⟨xz, rz, kz⟩ := yl' x' Hz z
      split at ej
      case h_2 => cases ej
      rename_i ρ3 hg3 eg3
      have sW3 : St0 (en X) (wipeR ρ vs) hj aj (wipe σ vs) Hz := ⟨(st.s.mono (xj.trans xz) pj).wipe vs, rz, by rw [wipe_length, wipeR_length]; exact st.len⟩
      refine ⟨_, hj, aj, d', ρ3, hg3, sW3, kz, eg3, fun σ3 H5 a5 x5 p5 s5 w5 => ⟨?_, ?_⟩⟩
      · rw [w5]
        exact wipe_twice
      split at ej
      · rename_i h7 e7
        refine ⟨ρ3, hg3, a5, true, h7, s5.toSt0, e7, fun H6 a6 x6 p6 r6 => iteT ?_⟩
        split at ej
        case h_2 => cases ej
        rename_i y' h8 e8
        refine ⟨ρ3, h7, a6, y', h8, s5.toSt0.next x6 p6 r6, e8, fun yv H7 a7 x7 p7 r7 k7 => ?_⟩
        split at ej
        case h_2 => cases ej
        rename_i acc eacc
        split at ej
        case isFalse => cases ej
        rename_i hz
        have p47 : ad <+: a7 := ((pj.trans p5).trans p6).trans p7
        obtain ⟨av, hav, rav⟩ := r7.lst eacc (pre_get p47 hD)
        have x8 : Ex (en X) H7 (upd H7 D (.lst (av ++ [yv]))) := .mut hav True.intro
        refine ⟨av, hav, by rw [← rav.length]; exact big_lt hz, _, a7, ((((xj.trans xz).trans x5).trans x6).trans x7).trans x8, p47, r7.set (b := .lst (acc ++ [y'])) (pre_get p47 hD) hav True.intro ⟨_, upd_same, _, rfl, (rav.append (.cons k7 .nil)).mono x8 (List.prefix_refl _)⟩, ej⟩
      · rename_i h7 e7
        exact ⟨ρ3, hg3, a5, false, h7, s5.toSt0, e7, fun H6 a6 x6 p6 r6 => iteF ⟨h7, a6, ((xj.trans xz).trans x5).trans x6, (pj.trans p5).trans p6, r6, ej⟩⟩
      · cases ej
    · rename_i ed'
      cases ej
      exact .inl ⟨jstop4 ed', nx Hj aj xj pj rj⟩
    · cases ej
theorem mid_lc {s : Src} {g : G} {tt : M Bool} {mi1 : M (Src × Option Nat)} {vs : List Nat} {N : Nat} {σ : L2.St} {H : Hp} {ρ : Rho} {hp h' : Hd} {ad : List Addr} {J : It} {Nx : Hp → Prop} {inn : Src → Rho → Hd → Option Hd} {inT : It → L2.St → (Hp → Prop) → Hp → Prop} (st : St0 (en X) ρ hp ad σ H) (jr : JR (en X) ad H s J)
    (hin : ∀ (J2 : It) (σ3 : L2.St) (Nx1 : Hp → Prop) (H7 : Hp) (ρ3 : Rho) (h7 h8 : Hd) (a7 : List Addr) (s2 : Src), ad <+: a7 → St0 (en X) ρ3 h7 a7 σ3 H7 → JR (en X) a7 H7 s2 J2 → inn s2 ρ3 h7 = some h8 → (∀ H' a', Ex (en X) H7 H' → a7 <+: a' → HR (en X) a' H' h8 → Nx1 H') → inT J2 σ3 Nx1 H7)
    (e : midLoop s g tt mi1 inn (wipeR ρ vs) N 0 hp = some h') (nx : ∀ H' a', Ex (en X) H H' → ad <+: a' → HR (en X) a' H' h' → Nx H') : tMid J (rGc (en X) vs g) (rT (en X) tt) (rI (en X) mi1) vs inT σ Nx H := by
  refine ⟨fun j k Hj => ∃ hj aj, Ex (en X) H Hj ∧ ad <+: aj ∧ HR (en X) aj Hj hj ∧ midLoop s g tt mi1 inn (wipeR ρ vs) k j hj = some h', ⟨N, _, _, .refl, List.prefix_refl _, st.h, e⟩, ?_⟩
  rintro j k Hj ⟨hj, aj, xj, pj, rj, ej⟩
  obtain ⟨jgo4, jstop4⟩ := jr j Hj aj hj xj pj rj
  cases k with
  | zero => cases ej
  | succ k =>
    rw [midLoop] at ej
    split at ej
    · rename_i d' ed'
      obtain ⟨go', yl'⟩ := jgo4 d' ed'
      refine .inr ⟨go', fun H' => ∃ hk ak, Ex (en X) H H' ∧ ad <+: ak ∧ HR (en X) ak H' hk ∧ midLoop s g tt mi1 inn (wipeR ρ vs) k (j + 1) hk = some h', fun H' ⟨hk, ak, xk, pk, rk, ek⟩ => ⟨k, Nat.lt_succ_self k, hk, ak, xk, pk, rk, ek⟩, fun x' Hz z => ?_⟩
      obtain ⟨xz, rz, kz⟩ := yl' x' Hz z
      split at ej
      case h_2 => cases ej
      rename_i ρ3 hg3 eg3
      have sW3 : St0 (en X) (wipeR ρ vs) hj aj (wipe σ vs) Hz := ⟨(st.s.mono (xj.trans xz) pj).wipe vs, rz, by rw [wipe_length, wipeR_length]; exact st.len⟩
      refine ⟨_, hj, aj, d', ρ3, hg3, sW3, kz, eg3, fun σ3 H5 a5 x5 p5 s5 w5 => ⟨?_, ?_⟩⟩
      · rw [w5]
        exact wipe_twice
      split at ej
      · rename_i h7 e7
        refine ⟨ρ3, hg3, a5, true, h7, s5.toSt0, e7, fun H6 a6 x6 p6 r6 => iteT ?_⟩
        split at ej
        case h_2 => cases ej
        rename_i sI h8 e8
        refine ⟨ρ3, h7, a6, sI, none, h8, s5.toSt0.next x6 p6 r6, e8, fun J1 H7 a7 x7 p7 r7 jr7 lc7 => ?_⟩
        split at ej
        case h_2 => cases ej
        rename_i h9 e9
        have p47 : ad <+: a7 := ((pj.trans p5).trans p6).trans p7
        exact hin J1 σ3 _ H7 ρ3 h8 h9 a7 sI p47 ((s5.toSt0.next x6 p6 r6).next x7 p7 r7) jr7 e9 fun H' a' xx pp rr => ⟨h9, a', ((((xj.trans xz).trans x5).trans x6).trans x7).trans xx, p47.trans pp, rr, ej⟩
      · rename_i h7 e7
        exact ⟨ρ3, hg3, a5, false, h7, s5.toSt0, e7, fun H6 a6 x6 p6 r6 => iteF ⟨h7, a6, ((xj.trans xz).trans x5).trans x6, (pj.trans p5).trans p6, r6, ej⟩⟩
      · cases ej
    · rename_i ed'
      cases ej
      exact .inl ⟨jstop4 ed', nx Hj aj xj pj rj⟩
    · cases ej
variable {elt tg iter tg1 iter1 tg2 iter2 : Expr} {ifs ifs1 ifs2 : List Expr} {scope : Scope} {own : List (Str × Nat)} {pos : Pos} {mi : M (Src × Option Nat)} {g : G} {tt : M Bool} {c1 c2 : Cl} {me : M D} {N : Nat}
theorem rE_lc3 {σ : L2.St} {H : Hp} {Q : VK} {vs : List Nat} (h : rE (en X) (mLc3 N vs mi g tt c1 c2 me) σ H Q) :
    tLc3 (rI (en X) mi) (rGc (en X) vs g) (rT (en X) tt) (rI (en X) c1.mi) (rGc (en X) c1.vs c1.g) (rT (en X) c1.tt) (rI (en X) c2.mi) (rGc (en X) c2.vs c2.g) (rT (en X) c2.tt) (rE (en X) me) vs c1.vs c2.vs σ H (fun v H' => UL H H' (Q v)) := by
  obtain ⟨ρ, hp, ad, d, hp', st, e, q⟩ := h
  unfold mLc3 at e
  split at e
  case h_2 => cases e
  rename_i s u h0 e0
  split at e
  case h_2 => cases e
  rename_i h2 e2
  split at e
  case h_2 => cases e
  rename_i h3 e3
  cases e
  refine ⟨ρ, hp, ad, s, u, h0, st, e0, fun J H1 a1 x1 p1 r1 jr lc D nD => ?_⟩
  have exN : Ex (en X) H1 (upd H1 D (.lst [])) := .new nD
  have hrN : HR (en X) (a1 ++ [D]) (upd H1 D (.lst [])) (h0.push (.lst [])) := r1.push nD ⟨_, upd_same, [], rfl, .nil⟩
  have hD : (a1 ++ [D])[h0.n]? = some D := by
    rw [← r1.len]
    simp
  have stN : St0 (en X) ρ (h0.push (.lst [])) (a1 ++ [D]) σ (upd H1 D (.lst [])) := st.next (x1.trans exN) (p1.trans (List.prefix_append _ _)) hrN
  have jrN : JR (en X) (a1 ++ [D]) (upd H1 D (.lst [])) s J := fun i Hi ai hi xi pi ri => jr i Hi ai hi (exN.trans xi) ((List.prefix_append _ _).trans pi) ri
  refine mid_lc stN jrN (fun J2 σ3 Nx1 H7 ρ3 h7 h8 a7 s2 p7 st7 jr7 e7 nx7 => ?_) e2 (fun H' a' xx pp rr => ?_)
  · refine mid_lc st7 jr7 (fun J3 σ4 Nx2 H9 ρ4 h9 h10 a9 s3 p9 st9 jr9 e9 nx9 => ?_) e7 nx7
    exact in_lc st9 jr9 (pre_get (p7.trans p9) hD) e9 nx9
  · refine HR.unl (ad := a1 ++ [D]) rr ((x1.trans exN).trans xx) (LkC.mono lc (List.prefix_append _ _)) pp e3 fun H2 x2 r2 rd => q _ H2 a' x2 (p1.trans ((List.prefix_append _ _).trans pp)) r2 ?_
    rw [RD]
    exact ⟨D, rfl, pre_get pp hD⟩
theorem le_lc3 (hc : X.calm = true) (hN : X.N.Nodup) (hi : PI X tg iter (rI (en X) mi)) (ok : BlkOk X.N X.env.scope scope own) (hv : ∀ i ∈ c1.vs, i ∈ own.map (·.2)) (hv2 : ∀ i ∈ c2.vs, i ∈ c1.vs)
    (hg : Blk X scope fun Y => PG Y tg (rGc (en X) (own.map (·.2)) g)) (ht : Blk X scope fun Y => PTs Y ifs (rT (en X) tt)) (hi1 : Blk X scope fun Y => PI Y tg1 iter1 (rI (en X) c1.mi)) (hg1 : Blk X scope fun Y => PG Y tg1 (rGc (en X) c1.vs c1.g)) (ht1 : Blk X scope fun Y => PTs Y ifs1 (rT (en X) c1.tt))
    (hi2 : Blk X scope fun Y => PI Y tg2 iter2 (rI (en X) c2.mi)) (hg2 : Blk X scope fun Y => PG Y tg2 (rGc (en X) c2.vs c2.g)) (ht2 : Blk X scope fun Y => PTs Y ifs2 (rT (en X) c2.tt))
    (he : Blk X scope fun Y => PE Y elt (rE (en X) me)) (hs : ∀ x, foldedSetIterable iter X.env x = pure x := by intro _; rfl) (hs1 : ∀ env x, foldedSetIterable iter1 env x = pure x := by intro _ _; rfl) (hs2 : ∀ env x, foldedSetIterable iter2 env x = pure x := by intro _ _; rfl) :
    PE X (.ListComp elt [⟨tg, iter, ifs, 0⟩, ⟨tg1, iter1, ifs1, 0⟩, ⟨tg2, iter2, ifs2, 0⟩] scope pos) (rE (en X) (mLc3 N (own.map (·.2)) mi g tt c1 c2 me)) :=
  PE.mono (pe_unl (pe_lc3 hc hN hi ok hv hv2 hg ht hi1 hg1 ht1 hi2 hg2 ht2 he hs hs1 hs2)) fun σ H Q h => rE_lc3 h
end
end DL
namespace DL
open PySem PySem.Spec PyProof.Rows L2
def padH (h : Heap) (n : Nat) : Heap := { h with objs := h.objs ++ Array.replicate (n - h.objs.size) ⟨.none, none, .freed, #[]⟩ }
theorem padH_get (h : Heap) (n : Nat) (a : Addr) : (padH h n).get? a = h.get? a := by
  unfold padH Heap.get?
  by_cases ha : a < h.objs.size
  · simp only [Array.getElem?_append_left ha]
  · have e : h.objs[a]? = none := Array.getElem?_eq_none (Nat.le_of_not_lt ha)
    simp only [Array.getElem?_append_right (Nat.le_of_not_lt ha), e, Array.getElem?_replicate]
    by_cases z : a - h.objs.size < n - h.objs.size
    · simp only [if_pos z]
    · simp only [if_neg z]
theorem padH_size (h : Heap) (n : Nat) (k : h.objs.size ≤ n) : (padH h n).objs.size = n := by
  unfold padH; simp; omega
theorem padH_keeps (h : Heap) (n : Nat) : ∀ b o, h.get? b = some o → (padH h n).get? b = some o := fun b o e => by rw [padH_get]; exact e
theorem mod_pad {K : PySem.W.Frag} {mg : Str → Option Value} {base : Heap} (n : Nat) (m : Mod K mg base) : Mod K mg (padH base n) :=
  ⟨m.kin.keeps (padH_keeps _ _), m.glob.keeps (padH_keeps _ _), let ⟨mb, h1, h2⟩ := m.blt; ⟨mb, h1.keeps (padH_keeps _ _), h2⟩, m.nolimit.keeps (padH_keeps _ _)⟩
theorem funs_pad {h base : Heap} {n : Nat} : ∀ {l : List Env}, h.FunFrames base l → h.FunFrames (padH base n) l
  | [], _ => True.intro
  | env :: rest, q => by
    obtain ⟨a, ⟨L, o, b, c, d⟩, e⟩ := q
    exact ⟨a, ⟨L, o, b, by rw [padH_get]; exact c, d⟩, funs_pad e⟩
theorem env_pad {P : Program} {w : World} {K : PySem.W.Frag} {mg : Str → Option Value} {base : Heap} {A : Around} {outer : List Env} {s : Shared} {H : Hp} (e : Env0 P w K mg base A outer s H) : Env0 P w K mg (padH base s.heap.objs.size) A outer s H :=
  ⟨e.frames, mod_pad _ e.mod, fun b o q => e.bs b o (by rw [padH_get] at q; exact q), Nat.le_of_eq (padH_size _ _ e.bsz), funs_pad e.funs, e.frf, e.hok, e.bare⟩
def ItK_ (E : En) (ad : List Addr) (H : Hp) (d : D) (it : Addr) (o : HO) : Prop :=
  (∃ k a, d = .ref k ∧ ad[k]? = some a ∧ o = .ext fun h => h.IsListIter it a 0) ∨ (∃ ds a vs, d = .tup ds ∧ SqT E.K H a vs ∧ RDs E ad H ds vs ∧ o = .ext fun h => h.IsTupleIter it a 0)
/-- what may be walked -/
def seqB (d : D) (hp : Hd) : Bool := match d with
  | .tup _ => true
  | .ref k => (lstOf hp k).isSome
  | _ => false
def rItB (X : Cx) : List V → Hp → VK → Prop := fun xs H Q => ∃ ad hp d, HR (en X) ad H hp ∧ RDs (en X) ad H [d] xs ∧ seqB d hp = true ∧ ∀ it o, H it = none → X.base.objs.size ≤ it → ItK_ (en X) ad H d it o → Q (.ref it) (upd H it o)
theorem call_iterT {prog : Program} {w : World} {A : Around} {E : Value → Shared → Prop} {s : Shared} {l : Addr} {items : Array Value} {Q : Value → Shared → Prop} (hl : s.heap.IsTuple l items) (h : Q (.ref s.heap.objs.size) { s with heap := s.heap.push { cls := .type "tuple_iterator", data := .fields #[.ref l, .int 0 0] } }) : wpAny (model prog w) A (call (.builtin "iter") [.ref l]) Q E s := by
  refine Calls.call_function_entry (by decide +kernel) (by decide +kernel) PySem.W.kdk_entry_iter (PySem.W.kdk_args_iter _) ?_
  unfold Builtin.«iter»
  refine wpAny_bind (m := someArgs "iter" 1 2 _) (wpAny_of_eq (a := [Value.ref l]) (by first | rfl | kernel_rfl!) ?_)
  show wpAny _ _ (pyIter (.ref l) >>= _) _ _ _
  refine wpAny_bind (wpAny_pyIter_tuple hl ?_)
  exact wpAny_pure ⟨_, rfl, h⟩
theorem lit_ok {P : Program} {w : World} {H : Hp} {h : Heap} {it a : Addr} (e : h.IsListIter it a 0) : ObjOk P w H h it (.ext fun h => h.IsListIter it a 0) := ⟨e, let ⟨o, q, _⟩ := e; ⟨o, q⟩, fun h1 h2 ⟨o, q, r⟩ k => ⟨o, k _ q, r⟩⟩
theorem tit_ok {P : Program} {w : World} {H : Hp} {h : Heap} {it a : Addr} (e : h.IsTupleIter it a 0) : ObjOk P w H h it (.ext fun h => h.IsTupleIter it a 0) := ⟨e, let ⟨o, q, _⟩ := e; ⟨o, q⟩, fun h1 h2 ⟨o, q, r⟩ k => ⟨o, k _ q, r⟩⟩
section
variable {X : Cx}
theorem call_itB : CallR X (.builtin "iter") (rItB X) := by
  intro pins s σ H xs us Q I r ⟨ad, hp, d, hr, k, hb, q⟩
  obtain ⟨v, rfl, kd⟩ := k.one
  obtain ⟨u, rfl, ru⟩ := vals1 r
  have bz : X.base.objs.size ≤ s.heap.objs.size := Nat.le_trans I.ok.bsz I.sz
  cases d with
  | tup ds =>
    obtain ⟨a, vs, rfl, hs, rt⟩ := kd.t
    cases ru
    obtain ⟨its, rv, pt, hz⟩ := I.tuple hs
    refine call_iterT (show s.heap.IsTuple a its.toArray from pt) ?_
    exact ⟨.ref s.heap.objs.size, _, I.laid (t' := s.toks) (fun b u e => Heap.get?_push_of_some _ e) (Nat.le_refl _) (tit_ok ⟨_, Heap.get?_push_size _ rfl, rfl, rfl⟩), rfl, q _ _ (I.hok.fresh (Nat.le_refl _)) bz (.inr ⟨ds, a, vs, rfl, hs, rt, rfl⟩)⟩
  | ref n =>
    obtain ⟨a, rfl, ha⟩ := kd.r
    cases ru
    unfold seqB at hb
    obtain ⟨ds, z⟩ := Option.isSome_iff_exists.mp hb
    obtain ⟨vs, hs, r⟩ := hr.lstR z ha
    obtain ⟨its, rv, pl, hz⟩ := I.list hs
    refine GNX.call_iter pl.isList ?_
    exact ⟨.ref s.heap.objs.size, _, I.laid (t' := s.toks) (fun b u e => Heap.get?_push_of_some _ e) (Nat.le_refl _) (lit_ok ⟨_, Heap.get?_push_size _ rfl, rfl, rfl⟩), rfl, q _ _ (I.hok.fresh (Nat.le_refl _)) bz (.inl ⟨n, a, rfl, ha, rfl⟩)⟩
  | _ => cases hb
end
def spIt (P : Program) (w : World) (K : PySem.W.Frag) (mg : Str → Option Value) (n : Nat) (cs ds : List Str) (f : Str) : Sp := fun vs H Q _ =>
  ∃ ad hp m d, HR ⟨P, w, K, mg⟩ ad H hp ∧ RDs ⟨P, w, K, mg⟩ ad H [.ref m] vs ∧ attrD cs ds f (.ref m) hp = some (d, hp) ∧ seqB d hp = true ∧
    ∀ H' ad' it o, Ex ⟨P, w, K, mg⟩ H H' → ad <+: ad' → HR ⟨P, w, K, mg⟩ ad' H' hp → H' it = none → n ≤ it → ItK_ ⟨P, w, K, mg⟩ ad' H' d it o → Q (.ref it) (upd H' it o)
def OkI (P : Program) (w : World) (K : PySem.W.Frag) (mg : Str → Option Value) (cs ds : List Str) (f : Str) (g : Addr) : Prop :=
  ∀ base : Heap, ∃ fd, FnOk P w K mg base CX0 1 g fd ["self"] (spIt P w K mg base.objs.size cs ds f) ∧ Binds K fd ["self"] []
theorem okI_of {P : Program} {w : World} {K : PySem.W.Frag} {mg : Str → Option Value} {x qual : Str} {params : Arguments} {scope : Scope} {kws : List (Str × V)} {g : Addr} {cs ds : List Str} {f : Str} {p1 p2 p3 p4 p5 : Pos}
    (F : ∃ fd, FunD K x qual params [.Return (some (.Call (.Name "iter" p1) [.Attribute (.Name "self" p2) f p3] [] p4)) p5] scope [] kws g fd) (sc : FnScope ["self"] ["self"] scope)
    (hbn : ∀ (kV doc pm : Value) (an : Option Addr) (cdv ct : Value) (us : List Value), us.length = 1 → bindArgs (PySem.W.fnOf x qual params [.Return (some (.Call (.Name "iter" p1) [.Attribute (.Name "self" p2) f p3] [] p4)) p5] scope .none kV doc pm an cdv ct) ⟨us, []⟩ = pure (List.zip [("self" : Str)] us))
    (fs : ∀ c ∈ cs, FldS0 K mg f c) (fd : ∀ c ∈ ds, FldD0 K mg f c) (hi : mg "iter" = none) (hgl : ∀ (s : Shared) (cdv : Value) (A : Around) (outer : List Env) (H : Hp) (base : Heap) (E : XK), Gl (cxOf CX0 P w K mg base ["self"] qual scope g cdv A outer s H E) "iter")
    (hvs : ∀ (s : Shared) (cdv : Value), Vis (envOfC qual scope s.heap.objs.size g cdv).scope "self") (hatt : ∀ (s : Shared) (cdv : Value), attributeBase (.Name "self" p2) f (envOfC qual scope s.heap.objs.size g cdv) (eval (.Name "self" p2) (envOfC qual scope s.heap.objs.size g cdv)) = eval (.Name "self" p2) (envOfC qual scope s.heap.objs.size g cdv))
    (hst : ∀ (s : Shared) (cdv : Value), starEach [.Attribute (.Name "self" p2) f p3] (envOfC qual scope s.heap.objs.size g cdv) = (false, eval (.Attribute (.Name "self" p2) f p3) (envOfC qual scope s.heap.objs.size g cdv)) :: starEach [] (envOfC qual scope s.heap.objs.size g cdv)) : OkI P w K mg cs ds f g := by
  intro base
  obtain ⟨fd', F⟩ := F
  refine ⟨fd', F.ok sc (fun vs H Q E h => ?_) (fun cdv A outer s H vs Q E hr h => ?_), F.bindsN hbn⟩
  · obtain ⟨ad, hp, m, d, hr, k, _⟩ := h
    exact k.length.symm
  · have vr : PE (cxOf CX0 P w K mg base ["self"] qual scope g cdv A outer s H E) (.Name "self" p2) (rE ⟨P, w, K, mg⟩ (mVar 0)) := le_var (i := 0) rfl (hvs s cdv)
    have att : PE (cxOf CX0 P w K mg base ["self"] qual scope g cdv A outer s H E) (.Attribute (.Name "self" p2) f p3) (rE ⟨P, w, K, mg⟩ (mU (attrD cs ds f) (mVar 0))) := le_attr fs fd vr (hatt s cdv)
    have arg : PA (cxOf CX0 P w K mg base ["self"] qual scope g cdv A outer s H E) [.Attribute (.Name "self" p2) f p3] (rA ⟨P, w, K, mg⟩ (mCons (mU (attrD cs ds f) (mVar 0)) (pur []))) := la_cons att la_nil (hst s cdv)
    refine ⟨_, pss_one (ps_ret (pe_callB (x := "iter") call_itB (hgl s cdv A outer H base E) hi (by decide +kernel) arg (by decide) (by decide) (hst s cdv) rfl)), ?_⟩
    obtain ⟨ad, hp, m, d, hr', k, e, sb, q⟩ := h
    refine ⟨_, hp, ad, [d], hp, start_ok hr' k, ?_, fun vs' H' ad' x p r k' => ⟨ad', hp, d, r, k', sb, fun it o n1 n2 ik => q H' ad' it o x p r n1 n2 ik⟩⟩
    simp only [mCons, mVar, mU, bnd, lft, pur, List.map_cons, List.map_nil, List.getElem?_cons_zero, List.cons_append, e]
def ownSrc (cs ds : List Str) (f : Str) (d : D) (hp : Hd) : Option ((Src × Option Nat) × Hd) := match d with
  | .ref m => (match attrD cs ds f (.ref m) hp with
    | some (.tup es, _) => some ((.seq es, none), hp)
    | some (.ref k, _) => (match lstOf hp k with
      | some _ => some ((.lst k, none), hp)
      | none => none)
    | _ => none)
  | _ => none
theorem attrD_hp {cs ds : List Str} {f : Str} {d d' : D} {hp hp' : Hd} (e : attrD cs ds f d hp = some (d', hp')) : hp' = hp := by
  unfold attrD at e
  split at e
  · split at e
    · split at e
      · obtain ⟨x, _, z⟩ := Option.map_eq_some_iff.mp e; cases z; rfl
      · cases e
    · split at e
      · obtain ⟨x, _, z⟩ := Option.map_eq_some_iff.mp e; cases z; rfl
      · cases e
    · cases e
  · cases e
/-- a class that is walked by its own method -/
structure ItOwn (X : Cx) (cs ds : List Str) (f : Str) (g : Addr) : Prop where
  ok : OkI X.prog X.w X.K X.mg cs ds f g
  s : ∀ c ∈ cs, ∃ C, X.mg c = some (.ref C) ∧ Meth X.K C "__iter__" g
  d : ∀ c ∈ ds, ∃ C, X.mg c = some (.ref C) ∧ Meth X.K C "__iter__" g
/-- it walks sr -/
def WalkK (X : Cx) (ad : List Addr) (H : Hp) (s : Shared) (it : Addr) (sr : Src) : Prop :=
  (∃ k b, sr = .lst k ∧ ad[k]? = some b ∧ s.heap.IsListIter it b 0) ∨ ∃ es b vs, sr = .seq es ∧ SqT X.K H b vs ∧ RDs (en X) ad H es vs ∧ s.heap.IsTupleIter it b 0
section
variable {X : Cx} {cs ds : List Str} {f : Str} {g : Addr}
/-- pyIter of the instance -/
theorem own_it {A : Around} {pins : List (Addr × Obj)} {σ : L2.St} {H : Hp} {s : Shared} {ad : List Addr} {hp hp' : Hd} {d : D} {sr : Src} {u : Option Nat} {v : V} {w : Value} {Q : Value → Shared → Prop} {E : Value → Shared → Prop} (O : ItOwn X cs ds f g) (hrm : Room 1 A) (hA : A.frames = X.A.frames) (I : Inv X pins σ H s) (hr : HR (en X) ad H hp) (k : RD (en X) ad H d v) (rv : RelV v w) (e : ownSrc cs ds f d hp = some ((sr, u), hp'))
    (q : ∀ it s' H' ad', Inv X pins σ H' s' → FpOk X pins H' it → Ex (en X) H H' → ad <+: ad' → HR (en X) ad' H' hp → u = none → hp' = hp → WalkK X ad' H' s' it sr → Q (.ref it) s') :
    wpAny (model X.prog X.w) A (pyIter w) Q E s := by
  cases d with
  | ref m =>
    obtain ⟨a, rfl, ha⟩ := k.r
    cases rv
    unfold ownSrc at e
    -- the field
    have hd : ∃ d', attrD cs ds f (.ref m) hp = some (d', hp) ∧ seqB d' hp = true ∧ ((∃ es, d' = .tup es ∧ sr = .seq es) ∨ (∃ j, d' = .ref j ∧ sr = .lst j)) ∧ u = none ∧ hp' = hp := by
      dsimp only at e
      split at e
      · rename_i es h' e1
        have := attrD_hp e1
        subst this
        cases e
        exact ⟨_, e1, rfl, .inl ⟨es, rfl, rfl⟩, rfl, rfl⟩
      · rename_i j h' e1
        have := attrD_hp e1
        subst this
        split at e
        · rename_i l e2
          cases e
          exact ⟨_, e1, by unfold seqB; dsimp only; rw [e2]; rfl, .inr ⟨j, rfl, rfl⟩, rfl, rfl⟩
        · cases e
      · cases e
    obtain ⟨d', ea, sb, kd, hu, hh⟩ := hd
    -- the instance
    have inst : ∃ C ox od, Meth X.K C "__iter__" g ∧ PySem.W.InstAt s.heap a ox C od := by
      have ea' := ea
      unfold attrD at ea'
      dsimp only at ea'
      split at ea'
      · rename_i c fs eg
        split at ea'
        case isFalse => cases ea'
        rename_i hc
        obtain ⟨C, g1, g2⟩ := O.s c (by simpa using hc)
        obtain ⟨uo, eu, C', dx, vs, h4, h5, _⟩ := hr.at_ ha eg
        have := g1.symm.trans h4
        cases this
        obtain ⟨sl, od, _, J, _⟩ := SlX.slt_inst I (slt_H (ad := ad) eu h5)
        exact ⟨C, _, _, g2, J⟩
      · rename_i c fs eg
        split at ea'
        case isFalse => cases ea'
        rename_i hc
        obtain ⟨C, g1, g2⟩ := O.d c (by simpa using hc)
        obtain ⟨uo, eu, C', dx, gs, h4, h5, _⟩ := hr.at_ ha eg
        have := g1.symm.trans h4
        cases this
        subst h5
        obtain ⟨mA, J, _⟩ := ins_get I.hok eu
        obtain ⟨od, J, _⟩ := J.look
        exact ⟨C, _, _, g2, J⟩
      · cases ea'
    obtain ⟨C, ox, od, hM, J⟩ := inst
    obtain ⟨m', hF⟩ := I.fr
    refine PySem.W.owit_iter hF I.ok.mod.kin J hM.at_ hM.fn ?_
    obtain ⟨fd, FN, bN⟩ := O.ok (padH X.base s.heap.objs.size)
    have ie := I.env0
    have e0 : Env0 X.prog X.w X.K X.mg (padH X.base s.heap.objs.size) A X.stack s H := env_pad ⟨by rw [hA]; exact ie.frames, ie.mod, ie.bs, ie.bsz, ie.funs, ie.frf, ie.hok, ie.bare⟩
    have bz : X.base.objs.size ≤ s.heap.objs.size := ie.bsz
    have sp : spIt X.prog X.w X.K X.mg (padH X.base s.heap.objs.size).objs.size cs ds f [.ref a] H (fun v Hn => ∃ H1 ad1 it o, v = .ref it ∧ Hn = upd H1 it o ∧ H1 it = none ∧ s.heap.objs.size ≤ it ∧ Ex (en X) H H1 ∧ ad <+: ad1 ∧ HR (en X) ad1 H1 hp ∧ ItK_ (en X) ad1 H1 d' it o) E0 :=
      ⟨ad, hp, m, d', hr, .cons k .nil, ea, sb, fun H1 ad1 it o x p r n1 n2 ik => ⟨H1, ad1, it, o, rfl, rfl, n1, by rw [padH_size _ _ bz] at n2; exact n2, x, p, r, ik⟩⟩
    have r2 : Vals [V.ref a] [Value.ref a] := .cons rfl .nil
    refine wpAny_call (codeAny_mono (FN.run A X.stack s H ⟨[.ref a], []⟩ [.ref a] [.ref a] _ E0 hrm e0 (by
      have := bN s [.ref a] I.kIn rfl
      simpa using this) r2 sp) fun r s' hq => ?_)
    cases r with
    | error e => exact False.elim hq
    | ok fl =>
      cases fl with
      | next => exact False.elim hq
      | brk => exact False.elim hq
      | cont => exact False.elim hq
      | ret uv =>
        obtain ⟨v', Hn, I', rv', H1, ad1, it, o, rfl, rfl, n1, n2, x1, p1, hr1, ik⟩ := I.after hq
        cases rv'
        have yng : X.s_0.heap.objs.size ≤ it := Nat.le_trans I.sz n2
        have eH : ∀ φ, o = HO.ext φ → Inv X pins σ H1 s' ∧ φ s'.heap ∧ FpOk X pins H1 it := fun φ z => by
          subst z
          have i1 := ItX.inv_drop I' upd_same
          have i2 := ItX.inv_fp I' upd_same yng
          rw [ItX.dropH_upd n1] at i1 i2
          exact ⟨i1, (I'.hok it _ upd_same).1, i2⟩
        rcases ik with ⟨j, b, rfl, hb, eo⟩ | ⟨es, b, vs, rfl, hs, rs, eo⟩
        · obtain ⟨i1, st, fp⟩ := eH _ eo
          obtain ⟨oi, g1, g2⟩ := id st
          have hsr : sr = .lst j := by
            rcases kd with ⟨es, z, _⟩ | ⟨j', z, z2⟩
            · cases z
            · cases z; exact z2
          subst hsr
          unfold PySem.W.OwitIt
          exact wpAny_specialOf (T := "list_iterator") ⟨oi, g1, g2.1⟩ slot_listiter_next.lookup (q it s' H1 ad1 i1 fp x1 p1 hr1 hu hh (.inl ⟨j, b, rfl, hb, st⟩))
        · obtain ⟨i1, st, fp⟩ := eH _ eo
          obtain ⟨oi, g1, g2⟩ := id st
          have hsr : sr = .seq es := by
            rcases kd with ⟨es', z, z2⟩ | ⟨j', z, z2⟩
            · cases z; exact z2
            · cases z
          subst hsr
          unfold PySem.W.OwitIt
          exact wpAny_specialOf (T := "tuple_iterator") ⟨oi, g1, g2.1⟩ F.slot_tuple_iterator_next.lookup (q it s' H1 ad1 i1 fp x1 p1 hr1 hu hh (.inr ⟨es, b, vs, rfl, hs, rs, st⟩))
  | _ => cases e
def mOwn (cs ds : List Str) (f : Str) (m : M D) : M (Src × Option Nat) := bnd m fun d => lft (ownSrc cs ds f d)
theorem li_own {tg e : Expr} {me : M D} (O : ItOwn X cs ds f g) (hrm : Room 1 X.A) (he : PE X e (rE (en X) me)) : PI X tg e (rI (en X) (mOwn cs ds f me)) := by
  refine ⟨fun pins s σ H R I h => ?_⟩
  obtain ⟨ρ, hp, ad, sr, u, hp', st, e0, q⟩ := h
  obtain ⟨d, h1, e1, e2⟩ := bnd_inv e0
  refine thn (he.run pins s σ H (fun x H1 => ∃ ad1, Ex (en X) H H1 ∧ ad <+: ad1 ∧ HR (en X) ad1 H1 h1 ∧ RD (en X) ad1 H1 d x) I ⟨ρ, hp, ad, d, h1, st, e1, fun v H' ad' x p r k => ⟨ad', x, p, r, k⟩⟩) fun v s1 ⟨x, H1, I1, r1, ad1, x1, p1, hr1, k1⟩ => ?_
  refine own_it O hrm rfl I1 hr1 k1 r1 e2 fun it s' H' ad' I' fp x2 p2 hr2 hu hh wk => ?_
  subst hu hh
  have fp' : ∀ b ∈ [it], FpOk X pins H' b := fun b hb => by rw [List.mem_singleton.mp hb]; exact fp
  rcases wk with ⟨k, b, rfl, hb, st'⟩ | ⟨es, b, vs, rfl, hs, rs, st'⟩
  · exact ⟨it, [it], _, _, H', rfl, I', turn_list b it, st', fp', q _ H' ad' (x1.trans x2) (p1.trans p2) hr2 (jr_list hb) lkc_none⟩
  · exact ⟨it, [it], _, _, H', rfl, I', turn_tuple b it, st', fp', q _ H' ad' (x1.trans x2) (p1.trans p2) hr2 (jr_tup hs rs) lkc_none⟩
end
end DL
namespace DL
open PySem PySem.Spec PyProof.Rows L2
abbrev enO (it : Value) : Obj := { cls := .type "enumerate", data := .fields #[.none, .bool false, it, rawInt 0, .none, .none] }
theorem enum_new_any {prog : Program} {w : World} {A : Around} {R : Result → Shared → Prop} {s : Shared} {v : Value}
    (h : wpAny (model prog w) A.in1 (pyIter v) (fun it s' => R (.ok (.ret (.ref s'.heap.objs.size))) { s' with heap := s'.heap.push (enO it) }) (fun e s' => R (.error e) s') s) :
    wpAny (model prog w) A.in1 (Builtin.«enumerate.__new__» ⟨[.type "enumerate", v], []⟩) (fun fin s' => match fin with | .done f => R (.ok f) s' | .again c' => c'.quiet = true ∧ codeAny (model prog w) A c' R s') (fun e s' => R (.error e) s') s := by
  obtain ⟨hp, g, d, tk, os⟩ := s
  have hsub := sub_enumerate
  have q1 : ∀ {Q : Value → Shared → Prop}, (∀ it s', R (.ok (.ret (.ref s'.heap.objs.size))) { s' with heap := s'.heap.push (enO it) } → Q it s') → wpAny (model prog w) A.in1 (pyIter v) Q (fun e s' => R (.error e) s') ⟨hp, g, d, tk, os⟩ := fun k => wpAny_mono h k fun _ _ z => z
  wp_walk using q1
  refine wpAny_stack_any fun st => wpAny_pure ?_
  split
  · rename_i c _ _ _ _ _
    cases (c == Value.type "enumerate")
    · wp_walk using q1
      exact fun it s' hR => by wp_walk; exact hR
    · wp_walk using q1
      exact fun it s' hR => by wp_walk; exact hR
  · wp_walk using q1
    exact fun it s' hR => by wp_walk; exact hR
theorem call_enum_any {prog : Program} {w : World} {A : Around} {E : Value → Shared → Prop} {s : Shared} {v : Value} {Q : Value → Shared → Prop}
    (h : wpAny (model prog w) A.in1.in1 (pyIter v) (fun it s' => Q (.ref s'.heap.objs.size) { s' with heap := s'.heap.push (enO it) }) E s) : wpAny (model prog w) A (call (.type "enumerate") [v]) Q E s := by
  refine PySem.callType_codes (Q₁ := fun obj s₁ => s₁.TypeIs obj "enumerate" ∧ Q obj s₁) F.called_enumerate (F.typeCall_enumerate_1 _) F.entry_object_init ?_ ?_
  · refine codeAny_call_builtin F.called_enumerate.plain F.entry_enumerate_new (wpAny_of_eq (F.newCall_enumerate_1 _) (enum_new_any ?_))
    exact wpAny_mono h (fun it s' hq => ⟨⟨_, Heap.get?_push_size _ rfl, rfl⟩, hq⟩) fun _ _ z => z
  · intro obj s₁ hq
    exact ⟨hq.1, F.args_object_init_2 obj _, object_init_meets F.called_enumerate.init.lookup F.called_enumerate.made (by decide) prog w A.in1 _ s₁ ⟨hq.1, rfl, hq.2⟩⟩
section
variable {X : Cx} {cs ds : List Str} {f : Str} {g : Addr} {pos p : Pos}
def enSrc : Src → Src
  | .seq es => .seq (enumD es)
  | .lst k => .enl k
  | s => s
def mEnuO (cs ds : List Str) (f : Str) (m : M D) : M (Src × Option Nat) := bnd m fun d => lft fun hp => match ownSrc cs ds f d hp with
  | some ((sr, u), h) => some ((enSrc sr, u), h)
  | none => none
/-- enumerate(x), x walked by its own method -/
theorem li_enumO {a : Expr} {me : M D} {tg : Expr} (O : ItOwn X cs ds f g) (hrm : Room 3 X.A) (hg : Gl X "enumerate") (hm : X.mg "enumerate" = none) (he : PE X a (rE (en X) me))
    (htg : (∃ elts kk tpos, tg = .Tuple elts kk tpos) ∨ ∃ x tpos, tg = .Name x tpos) (hs : starEach [a] X.env = [(false, eval a X.env)] := by rfl) :
    PI X tg (.Call (.Name "enumerate" p) [a] [] pos) (rI (en X) (mEnuO cs ds f me)) := by
  refine ⟨fun pins s σ H R I h => ?_⟩
  obtain ⟨ρ, hp, ad, sr, u, hp', st, e0, q⟩ := h
  obtain ⟨d, h1, e1, e2⟩ := bnd_inv e0
  have ha : PA X [a] (rA (en X) (mCons me (pur []))) := la_cons he la_nil hs
  have em : mCons me (pur []) ρ hp = some ([d], h1) := by simp only [mCons, bnd, e1, pur]
  refine Call_ (ld_blt I hg hm boot_enumerate (PyProof.Rows.callWith_type1 (thn (ha.run pos pins s σ H (fun vs H1 => ∃ ad1, Ex (en X) H H1 ∧ ad <+: ad1 ∧ HR (en X) ad1 H1 h1 ∧ RDs (en X) ad1 H1 [d] vs) I ⟨ρ, hp, ad, [d], h1, st, em, fun v H' ad' x p r k => ⟨ad', x, p, r, k⟩⟩) fun us s1 ⟨vs, H1, I1, r1, ad1, x1, p1, hr1, k1⟩ => ?_) hs rfl))
  obtain ⟨v, rfl, k⟩ := k1.one
  obtain ⟨w, rfl, rw'⟩ := vals1 r1
  simp only [lft] at e2
  split at e2
  case h_2 => cases e2
  rename_i sr0 u0 h0 e3
  cases e2
  refine call_enum_any (own_it (A := X.A.in1.in1) O (Room.in1 (Room.in1 hrm)) rfl I1 hr1 k rw' e3 fun it s2 H2 ad2 I2 fp x2 p2 hr2 hu hh wk => ?_)
  cases hu
  cases hh
  generalize hh' : s2.heap.push (enO (.ref it)) = h'
  have he : IsEnum h' s2.heap.objs.size it 0 .none := by rw [← hh']; exact Heap.get?_push_size _ rfl
  have hk : ∀ b o, s2.heap.get? b = some o → h'.get? b = some o := fun b o x => by rw [← hh']; exact Heap.get?_push_of_some _ x
  have I3 : Inv X pins σ H2 { s2 with heap := h' } := I2.kept (t' := s2.toks) hk
  have fr : ∀ b, b ∈ [s2.heap.objs.size, it] → FpOk X pins H2 b := fun b hb => by
    rcases List.mem_cons.mp hb with z | z
    · rw [z]; exact I2.fpOk (Nat.le_refl _) (I2.hok.fresh (Nat.le_refl _))
    · rw [List.mem_singleton.mp z]; exact fp
  have lt : ∀ {c o}, s2.heap.get? c = some o → s2.heap.objs.size ≠ c := fun e => Nat.ne_of_gt (Heap.lt_size e)
  have ex := x1.trans x2
  have pr := p1.trans p2
  refine wpAny_pyIter_enum he ?_
  rcases wk with ⟨j, b, rfl, hb, ⟨oi, g1, g2⟩⟩ | ⟨es, b, vs, rfl, hs', rs, ⟨oi, g1, g2⟩⟩
  · obtain ⟨ds', z⟩ : ∃ ds', lstOf hp' j = some ds' := by
      revert e3
      unfold ownSrc
      intro e3
      split at e3
      · split at e3
        · cases e3
        · split at e3
          · rename_i l z; cases e3; exact ⟨l, z⟩
          · cases e3
        · cases e3
      · cases e3
    obtain ⟨vs', hq, r⟩ := hr2.lstR z hb
    obtain ⟨its, rv, pt, hz⟩ := I2.list hq
    obtain ⟨ot, hot, _⟩ := id pt.isList
    have bi : b ≠ it := fun z => by
      subst z
      rw [g1] at hot
      cases hot
      have := pt.isList
      obtain ⟨o2, q1, q2, _⟩ := this
      rw [g1] at q1
      cases q1
      rw [g2.1] at q2
      exact absurd q2 (by decide)
    rcases htg with ⟨el, kk, tp, rfl⟩ | ⟨x, tp, rfl⟩
    · exact ⟨s2.heap.objs.size, [s2.heap.objs.size, it], _, _, H2, rfl, I3, turn_enum b s2.heap.objs.size it, ⟨⟨.none, he⟩, ⟨oi, hk _ _ g1, g2⟩, lt g1⟩, fr, q _ H2 ad2 ex pr hr2 (jr_enl hb) lkc_none⟩
    · exact ⟨s2.heap.objs.size, [s2.heap.objs.size, it], _, _, H2, rfl, I3, turn_enL (fun _ _ => rfl) b s2.heap.objs.size it bi (Ne.symm (lt hot)), ⟨.of he, ⟨oi, hk _ _ g1, g2⟩, lt g1⟩, fr, q _ H2 ad2 ex pr hr2 (jr_enl hb) lkc_none⟩
  · obtain ⟨its, rv, pt, hz⟩ := I2.tuple hs'
    obtain ⟨ot, hot, _⟩ := id pt
    have bi : b ≠ it := fun z => by
      subst z
      obtain ⟨o2, q1, q2, _⟩ := pt
      rw [g1] at q1
      cases q1
      rw [g2.1] at q2
      exact absurd q2 (by decide)
    rcases htg with ⟨el, kk, tp, rfl⟩ | ⟨x, tp, rfl⟩
    · exact ⟨s2.heap.objs.size, [s2.heap.objs.size, it], _, _, H2, rfl, I3, turn_E b s2.heap.objs.size it bi (Ne.symm (lt hot)), ⟨⟨.none, he⟩, ⟨oi, hk _ _ g1, g2⟩, lt g1⟩, fr, q _ H2 ad2 ex pr hr2 (jr_enT hs' rs) lkc_none⟩
    · exact ⟨s2.heap.objs.size, [s2.heap.objs.size, it], _, _, H2, rfl, I3, turn_enT (fun _ _ => rfl) b s2.heap.objs.size it bi (Ne.symm (lt hot)), ⟨.of he, ⟨oi, hk _ _ g1, g2⟩, lt g1⟩, fr, q _ H2 ad2 ex pr hr2 (jr_enT hs' rs) lkc_none⟩
end
end DL
namespace DL
open PySem PySem.Spec PyProof.Rows L2
section
variable {M : Model} {prog : Program} {w : World} {A : Around} {E : Value → Shared → Prop} {s : Shared} {K : PySem.W.Frag} {x y C g : Addr} {ox : Obj} {od : Option Obj}
theorem ifBound_ne {args : List Value} {Q : Option Value → Shared → Prop} (X : K.In s.heap) (I : PySem.W.InstAt s.heap x ox C od) (hs : PySem.W.findIn K (.ref C) "__ne__" = some (some (.builtin "object.__ne__")))
    (h : wpAny M A (call (.builtin "object.__ne__") (.ref x :: args)) (fun v => Q (some v)) E s) : wpAny M A (callSpecialIfBound? (.ref x) "__ne__" args) Q E s := by
  simp only [callSpecialIfBound?, bindSpecialIfBound?]
  refine wpAny_holding (wpAny_bind (wpAny_bind (wpAny_bind (I.type.here ((PySem.W.looks_findIn X hs).here ?_)))))
  refine wpAny_bind (wpAny_askSetting (wpAny_ite ?_))
  have fin : wpAny M A (call (.builtin "object.__ne__") ([.ref x] ++ args) >>= fun v => pure (some v)) Q E s := wpAny_bind (wpAny_mono h (fun v s' h' => wpAny_pure h') fun _ _ h' => h')
  split
  · exact wpAny_bind (wpAny_of_eq (F.cmp_object.ne.bind _) (wpAny_pure (by exact fin)))
  · exact wpAny_tryCatch (wpAny_bind (wpAny_of_eq (F.cmp_object.ne.bind _) (wpAny_pure (by exact fin))))
theorem entry_ne {Q : Fin → Shared → Prop} (hu : A.units < cLine) (X : K.In s.heap) (I : PySem.W.InstAt s.heap x ox C od) (hs : PySem.W.findIn K (.ref C) "__eq__" = some (some (.ref g))) (hf : PySem.W.isFn K (.ref g) = true)
    (hcall : wpAny (model prog w) A (call (.ref g) [.ref x, .ref y]) (fun v s' => ∃ b, v = .bool b ∧ Q (.done (.ret (.bool (!b)))) s') E s) :
    wpAny (model prog w) A (Builtin.«object.__ne__» ⟨[.ref x, .ref y], []⟩) Q E s := by
  unfold Builtin.«object.__ne__»
  repeat (first
    | with_reducible refine wpAny_cRoomFor hu ?_
    | (refine wpAny_bind (m := callSpecialIfBound? (.ref x) (Str.ofString "__eq__") [.ref y])
        (PySem.W.ifBound_K X I hs hf (wpAny_mono hcall (fun r s' hr => by
          obtain ⟨b, rfl, hq⟩ := hr
          repeat (first | exact hq | exact wpAny_pure hq | exact wpAny_truthy_bool hq | (refine wpAny_bind (m := truthy (.bool _)) (wpAny_truthy_bool ?_)) | wp_step)) fun _ _ e => e)))
    | wp_step)
theorem cmp_ne {tb b : Value} {Q : Value → Shared → Prop} (hu : A.units + 1 < cLine) (X : K.In s.heap) (I : PySem.W.InstAt s.heap x ox C od) (hb : PySem.W.Looks (model prog w) s.heap (typeOf (.ref y)) tb) (hn : PySem.W.notFirst K C tb = true)
    (hm : PySem.W.mroIn K C (.type "object") = some true) (hne : PySem.W.findIn K (.ref C) "__ne__" = some (some (.builtin "object.__ne__"))) (hs : PySem.W.findIn K (.ref C) "__eq__" = some (some (.ref g))) (hf : PySem.W.isFn K (.ref g) = true)
    (h : wpAny (model prog w) A.in1 (call (.ref g) [.ref x, .ref y]) (fun v s' => ∃ b, v = .bool b ∧ Q (.bool (!b)) s') E s) : wpAny (model prog w) A (richCompare .NotEq (.ref x) (.ref y)) Q E s := by
  have one : wpAny (model prog w) A (tryCompare (.ref x) "__ne__" (.ref y)) (fun r s' => ∃ v, r = some v ∧ Q v s') E s := by
    unfold tryCompare
    refine wpAny_bind (ifBound_ne X I hne (wpAny_call (codeAny_call_builtin F.cmp_object.ne.plain F.cmpEntry_ne (PySem.W.check_slot F.cmpKind_ne F.cmpSplit_ne (I.type.andThen (PySem.W.looks_mroIn X hm)) (F.cmpArgs_ne _ _) (entry_ne (A := A.in1) hu X I hs hf (wpAny_mono h (fun v s' hv => ?_) fun _ _ e => e))))))
    obtain ⟨b, rfl, hq⟩ := hv
    exact ⟨b, rfl, wpAny_pure ⟨_, rfl, hq⟩⟩
  unfold richCompare
  simp only [oneThing_ref]
  refine wpAny_holding (wpAny_bind (wpAny_cRoomFor (Nat.lt_of_succ_lt hu) ?_))
  refine wpAny_bind (I.type.here (wpAny_bind (hb.here ?_)))
  split
  · rename_i q
    have e : PySem.W.subIn K tb (.ref C) = some false := by
      rcases Bool.or_eq_true_iff.mp hn with e | e
      · rw [beq_iff_eq.mp e] at q; simp at q
      · exact beq_iff_eq.mp e
    refine wpAny_bind ((PySem.W.looks_subIn X e).here ?_)
    simp only [Bool.false_eq_true, if_false]
    refine wpAny_bind (wpAny_mono one (fun r s' z => ?_) fun _ _ e => e)
    obtain ⟨v, rfl, hq⟩ := z
    exact wpAny_pure hq
  · refine wpAny_bind (wpAny_pure ?_)
    simp only [Bool.false_eq_true, if_false]
    refine wpAny_bind (wpAny_mono one (fun r s' z => ?_) fun _ _ e => e)
    obtain ⟨v, rfl, hq⟩ := z
    exact wpAny_pure hq
end
section
variable {X : Cx}
/-- x != y of own instances -/
def neO (c : Str) (cs : List Str) (F : List D → Hd → Option (D × Hd)) : D → D → Hd → Option (D × Hd) := fun x y hp => match eqO c cs F x y hp with
  | some (.bl b, h) => some (.bl (!b), h)
  | _ => none
structure NeC (K : PySem.W.Frag) (C : Addr) : Prop where
  m : PySem.W.mroIn K C (.type "object") = some true
  ne : PySem.W.findIn K (.ref C) "__ne__" = some (some (.builtin "object.__ne__"))
theorem op_neO {k : Nat} {C f : Addr} {ps : List Str} {c : Str} {cs : List Str} {F : List D → Hd → Option (D × Hd)} (hc : X.mg c = some (.ref C)) (hs : Meth X.K C "__eq__" f) (hN : NeC X.K C) (hn : ∀ c2 ∈ cs, ∃ C2, X.mg c2 = some (.ref C2) ∧ PySem.W.notFirst X.K C (.ref C2) = true) (G : Ok X.prog X.w X.K X.mg X.base k f ps F) (hr : Room (k + 1) X.A) : OpR X (compareOp .NotEq) (rB (en X) (neO c cs F)) := by
  intro pins s σ H x y v u Q I rx ry ⟨ad, hp, d1, d2, d, hp', hr1, k1, k2, e, q⟩
  unfold neO at e
  split at e
  case h_2 => cases e
  rename_i bb h0 e0
  cases e
  unfold eqO at e0
  split at e0
  case h_2 => cases e0
  rename_i n m
  split at e0
  case h_2 => cases e0
  rename_i c1 f1 c2 f2 e1 e2
  split at e0
  case isFalse => cases e0
  rename_i hcc
  obtain ⟨rfl, hm⟩ := hcc
  obtain ⟨C2, g1, g2⟩ := hn c2 (by simpa using hm)
  obtain ⟨a, rfl, ha⟩ := k1.r
  obtain ⟨b, rfl, hb⟩ := k2.r
  obtain ⟨u1, eu1, C1', dx, vs, h4, h5, _⟩ := hr1.at_ ha e1
  obtain ⟨u2, eu2, C2', dy, ws, h6, h7, _⟩ := hr1.at_ hb e2
  have := hc.symm.trans h4
  cases this
  have := g1.symm.trans h6
  cases this
  obtain ⟨fd, g, bd, kp⟩ := G
  cases (show v = Value.ref a from rx)
  cases (show u = Value.ref b from ry)
  obtain ⟨sl, od, _, J, _⟩ := SlX.slt_inst I (slt_H (ad := ad) eu1 h5)
  obtain ⟨sl', od', _, J', _⟩ := SlX.slt_inst I (slt_H (ad := ad) eu2 h7)
  have sp : spM X.prog X.w X.K X.mg F [.ref a, .ref b] H (fun z H' => z = .bl bb ∧ Q (.bl (!bb)) H') E0 := ⟨ad, hp, [.ref n, .ref m], .bl bb, _, hr1, .cons k1 (.cons k2 .nil), e0, fun v H' ad' x p r k => ⟨k.b, q _ H' ad' x p r (by rw [RD])⟩⟩
  show wpAny _ _ (richCompare .NotEq (.ref a) (.ref b)) _ _ _
  refine cmp_ne (b := .none) hr.in1.units0 I.kIn J J'.type g2 hN.m hN.ne hs.at_ hs.fn (wpAny_mono (wpAny_call (SlX.run_at (us := [.ref a, .ref b]) (ws := [.ref a, .ref b]) (fnR_of g bd) (Room.in1 hr) I.env0.in1 pass0 I (.cons rfl (.cons rfl .nil)) sp)) (fun w s' z => ?_) fun _ _ x => x)
  obtain ⟨z', H', I', rz, ei, qz⟩ := z
  subst ei
  cases (show w = Value.bool bb from rz)
  exact ⟨bb, rfl, .bl (!bb), H', I', rfl, qz⟩
def neB (K : PySem.W.Frag) (c : Str) : Bool := decide (PySem.W.mroIn K (He.ga K c) (.type "object") = some true) && He.eqO (PySem.W.findIn K (.ref (He.ga K c)) "__ne__") (some (some (.builtin "object.__ne__")))
theorem neB_ok {K : PySem.W.Frag} {c : Str} (h : neB K c = true) : NeC K (He.ga K c) := by
  unfold neB at h
  obtain ⟨h1, h2⟩ := He.ba h
  exact ⟨of_decide_eq_true h1, He.eqO_ok h2⟩
end
end DL
namespace DL
open PySem PySem.Spec PyProof.Rows L2
theorem notFirst_self {K : PySem.W.Frag} {C : Addr} : PySem.W.notFirst K C (.ref C) = true := by unfold PySem.W.notFirst; simp
end DL
namespace DL
open PySem PySem.Spec PyProof.Rows L2
section
variable {X : Cx} {k : Nat} {f C : Addr} {ps : List Str} {F : List D → Hd → Option (D × Hd)} {m : Str} {pos apos : Pos} {o : Expr} {mo : M D}
theorem le_methSO0 {c : Str} {pl : Sem Bool} (ho : PE X o (rE (en X) mo)) (hc : X.mg c = some (.ref C)) (cl : SlX.SCls X.K C) (hm : Meth X.K C m f) (G : Ok X.prog X.w X.K X.mg X.base k f ps F) (hr : Room k X.A)
    (ht : eval (.Call (.Attribute o m apos) [] [] pos) X.env = (do
      let ov ← eval o X.env
      standAt apos.atName
      let (f, first) ← holding [ov] (getMethod ov m pl)
      callWith pos f first (backTo pos (starEach [] X.env)) (backToKw pos (keywordEach [] X.env))) := by rfl) :
    PE X (.Call (.Attribute o m apos) [] [] pos) (rE (en X) (mMS c F mo (pur []))) := by
  obtain ⟨fd, g, b, kp⟩ := G
  exact le_methS0 ho hc cl hm (fnR_of g b) hr ht
theorem le_methIO0 {c : Str} {pl : Sem Bool} (ho : PE X o (rE (en X) mo)) (hc : X.mg c = some (.ref C)) (cl : Cls X.K C) (hm : Meth X.K C m f) (G : Ok X.prog X.w X.K X.mg X.base k f ps F) (hr : Room k X.A)
    (ht : eval (.Call (.Attribute o m apos) [] [] pos) X.env = (do
      let ov ← eval o X.env
      standAt apos.atName
      let (f, first) ← holding [ov] (getMethod ov m pl)
      callWith pos f first (backTo pos (starEach [] X.env)) (backToKw pos (keywordEach [] X.env))) := by rfl) :
    PE X (.Call (.Attribute o m apos) [] [] pos) (rE (en X) (mMI c m F mo (pur []))) := by
  obtain ⟨fd, g, b, kp⟩ := G
  exact le_methI0 ho hc cl hm g hr b ht
end
section
variable {prog : Program} {w : World} {A : Around} {E : Value → Shared → Prop} {s : Shared}
theorem pick_rev (xs : Array Value) : ((List.range xs.size).filterMap fun (k : Nat) => xs[(((xs.size : Int) - 1) + (k : Int) * (-1)).toNat]?) = xs.toList.reverse := by
  have e : ((List.range xs.size).filterMap fun (k : Nat) => xs[(((xs.size : Int) - 1) + (k : Int) * (-1)).toNat]?) = (List.range xs.size).filterMap fun k => xs.toList.reverse[k]? := by
    refine filterMap_congr' fun k hk => ?_
    have hk := List.mem_range.mp hk
    have e1 : (((xs.size : Int) - 1) + (k : Int) * (-1)).toNat = xs.size - 1 - k := by omega
    rw [e1, List.getElem?_reverse (by simpa using hk), ← Array.getElem?_toList]
    simp
  rw [e]
  have := range_get xs.toList.reverse
  simpa using this
where
  filterMap_congr' {α β : Type} {f g : α → Option β} : ∀ {l : List α}, (∀ a ∈ l, f a = g a) → l.filterMap f = l.filterMap g
    | [], _ => rfl
    | a :: l, h => by
      have h1 := h a (List.mem_cons_self ..)
      have h2 := filterMap_congr' (l := l) fun b hb => h b (List.mem_cons_of_mem _ hb)
      simp only [List.filterMap_cons, h1, h2]
  range_get (l : List Value) : (List.range l.length).filterMap (fun k => l[k]?) = l := by
    induction l with
    | nil => rfl
    | cons a l ih =>
      rw [List.length_cons, List.range_succ_eq_map, List.filterMap_cons]
      simp only [List.getElem?_cons_zero, List.filterMap_map, Function.comp_def, List.getElem?_cons_succ]
      rw [ih]
theorem getItem_tuple_rev {t sl : Addr} {items : Array Value} {vs : Value} {Q : Value → Shared → Prop} (ht : IsTup s.heap t items) (hs : s.heap.IsSliceOf sl .none .none vs) (ps : IsPart vs (some (-1)))
    (h : Q (.ref s.heap.objs.size) { s with heap := s.heap.push { cls := .type "tuple", data := .seq items.toList.reverse.toArray } }) (hsz : items.size ≤ sizeLine) : wpAny (model prog w) A (getItem (.ref t) (.ref sl)) Q E s := by
  have hsz2 : sizeOk (.seq items.toList.reverse.toArray) := by
    show items.toList.reverse.toArray.size ≤ sizeLine
    simpa using hsz
  obtain ⟨os, hos, hcs, hds⟩ := id hs
  have hTs : s.TypeIs (.ref sl) "slice" := ⟨os, hos, hcs⟩
  unfold getItem
  try with_reducible refine wpAny_holding ?_
  first | refine wpAny_bind (wpAny_pure ?_) | skip
  refine wpAny_bind (wpAny_sequenceKey ht.typeIs (by decide) ?_)
  refine wpAny_bind (wpAny_callSpecial?_slot (name := Str.ofString "__getitem__") ht.typeIs PyProof.Rows.slot_tuple_getitem
    (wpAny_call_entry PyProof.Rows.slot_tuple_getitem ht.typeIs entry_tuple_getitem ?_ (args_tuple_getitem _ _)))
  show wpAny _ _ (Builtin.Tuple.tupleItemsOf (.ref t) >>= _) _ _ s
  refine wpAny_bind (tupleItemsOf_ ht ?_)
  refine wpAny_bind (wpAny_typeOf hTs ?_)
  rw [if_pos (by decide)]
  refine wpAny_bind ?_
  unfold Builtin.Slice.sliceApplied Builtin.Slice.sliceFields
  refine wpAny_bind (wpAny_bind (wpAny_field hos hds (x := .none) rfl (wpAny_bind (wpAny_field hos hds (x := .none) rfl (wpAny_bind (wpAny_field hos hds (x := vs) rfl (wpAny_pure ?_)))))))
  refine wpAny_bind (HT.slicePart_ ps ?_)
  show wpAny _ _ (if ((-1 : Int) == 0) = true then _ else _) _ _ s
  rw [if_neg (by decide)]
  refine wpAny_bind (slicePart_none (wpAny_bind (slicePart_none (wpAny_bind (wpAny_pure ?_)))))
  have ea : Builtin.Slice.sliceAdjust none none (-1) (items.size : Int) = ((items.size : Int) - 1, -1) := by
    simp [Builtin.Slice.sliceAdjust]
  show wpAny _ _ (match Builtin.Slice.sliceAdjust none none (-1) (items.size : Int) with | (lo, hi) => pure (lo, (-1 : Int), Builtin.Slice.slicePlaces lo hi (-1))) _ _ s
  rw [ea]
  have ep : Builtin.Slice.slicePlaces ((items.size : Int) - 1) (-1) (-1) = items.size := by
    unfold Builtin.Slice.slicePlaces
    rw [if_neg (by decide)]
    split <;> simp <;> omega
  show wpAny _ _ (pure ((items.size : Int) - 1, (-1 : Int), Builtin.Slice.slicePlaces ((items.size : Int) - 1) (-1) (-1))) _ _ s
  rw [ep]
  refine wpAny_pure ?_
  have hno : ¬ (((items.size : Int) - 1 == 0 && (-1 : Int) == 1 && items.size == items.size) = true) := by simp
  show wpAny _ _ (if ((items.size : Int) - 1 == 0 && (-1 : Int) == 1 && items.size == items.size) = true then _ else _) _ _ s
  rw [if_neg hno]
  rw [pick_rev]
  first
    | exact wpAny_bind (m := Builtin.Tuple.tupleExact _) (wpAny_newObj_type (wpAny_pure ⟨_, rfl, wpAny_pure h⟩) hsz2)
    | exact wpAny_bind (m := Builtin.Tuple.tupleExact _) (wpAny_newObj_type (wpAny_bind (wpAny_pure (wpAny_pure ⟨_, rfl, wpAny_pure h⟩))) hsz2)
    | exact wpAny_bind (wpAny_bind (m := Builtin.Tuple.tupleExact _) (wpAny_newObj_type (wpAny_pure (wpAny_pure ⟨_, rfl, wpAny_pure h⟩)) hsz2))
    | exact wpAny_bind (wpAny_bind (m := Builtin.Tuple.tupleExact _) (wpAny_newObj_type (wpAny_pure ⟨_, rfl, wpAny_pure h⟩) hsz2))
end
theorem part_none {v : Value} (h : IsPart v none) : v = .none := by
  cases h; rfl
/-- x[::-1] of a tuple or a list -/
def revD : D → Hd → Option (D × Hd)
  | .tup ds, hp => some (.tup ds.reverse, hp)
  | .ref n, hp => (match lstOf hp n with
    | some ds => some (.ref hp.n, hp.push (.lst ds.reverse))
    | none => none)
  | _, _ => none
section
variable {X : Cx} {e : Expr} {me : M D} {k : Nat} {p1 p2 p3 pos : Pos}
theorem rds_rev {E : En} {ad : List Addr} {H : Hp} {ds : List D} {vs : List V} (h : RDs E ad H ds vs) : RDs E ad H ds.reverse vs.reverse := by
  induction ds generalizing vs with
  | nil => rw [RDs] at h; subst h; exact .nil
  | cons d ds ih =>
    rw [RDs] at h
    obtain ⟨v, r, rfl, h1, h2⟩ := h
    rw [List.reverse_cons, List.reverse_cons]
    exact (ih h2).append (.cons h1 .nil)
theorem le_rev (he : PE X e (rE (en X) me)) : PE X (.Subscript e (.Slice none none (some (.UnaryOp .USub (.Constant (.int 1) k p1) p2)) p3) pos) (rE (en X) (mU revD me)) := by
  refine ⟨fun pins s σ H Q I h => ?_⟩
  obtain ⟨ρ, hp, ad, d, hp', st, e0, q⟩ := h
  obtain ⟨d1, h1, e1, e2⟩ := bnd_inv e0
  refine Subscript_ (thn (he.run pins s σ H (fun x H1 => ∃ ad1, Ex (en X) H H1 ∧ ad <+: ad1 ∧ HR (en X) ad1 H1 h1 ∧ RD (en X) ad1 H1 d1 x) I ⟨ρ, hp, ad, d1, h1, st, e1, fun v H' ad' x p r k => ⟨ad', x, p, r, k⟩⟩) fun v s1 ⟨x, H1, I1, r1, ad1, x1, p1', hr1, k1⟩ => ?_)
  have hst : PO X (some (.UnaryOp .USub (.Constant (.int 1) k p1) p2)) (tPart (tUn (rU fun i => .int (-i)) (tC (.int 1)))) := po_some (pe_un un_neg pe_int)
  refine wpAny_Slice (thn (po_none.run pins s1 σ H1 (fun o H2 => o = none ∧ H2 = H1) I1 ⟨rfl, rfl⟩) fun vl s2 ⟨l, H2, I2, pl, el, e2'⟩ => ?_)
  subst el e2'
  refine thn (po_none.run pins s2 σ H2 (fun o H3 => o = none ∧ H3 = H2) I2 ⟨rfl, rfl⟩) fun vu s3 ⟨u, H3, I3, pu, eu, e3⟩ => ?_
  subst eu e3
  refine thn (hst.run pins s3 σ H3 (fun o H4 => o = some (-1) ∧ H4 = H3) I3 ⟨1, rfl, -1, rfl, rfl, rfl⟩) fun vs s4 ⟨o, H4, I4, ps, eo, e4⟩ => ?_
  subst eo e4
  have I5 : Inv X pins σ H4 { s4 with heap := s4.heap.push { cls := .type "slice", data := .fields #[vl, vu, vs] } } := I4.kept (t' := s4.toks) fun b ob q => Heap.get?_push_of_some _ q
  simp only [lft] at e2
  unfold revD at e2
  split at e2
  · rename_i ds
    cases e2
    obtain ⟨a, xs, ex, hx, r⟩ := k1.t
    subst ex
    cases r1
    obtain ⟨its, rv, ht, hz⟩ := I5.tuple hx
    obtain rfl : vl = Value.none := part_none pl
    obtain rfl : vu = Value.none := part_none pu
    show wpAny (model X.prog X.w) X.A (subscriptTail e (.Slice none none (some (.UnaryOp .USub (.Constant (.int 1) k p1) p2)) p3) (.ref a) (.ref s4.heap.objs.size)) (EP X pins σ Q) X.xe { s4 with heap := s4.heap.push { cls := .type "slice", data := .fields #[Value.none, Value.none, vs] } }
    refine tail_any (ops := [.ref a, .ref s4.heap.objs.size]) ht.typeIs (PyProof.Rows.slot_tuple_getitem.lookup) ?_ (by with_unfolding_all rfl)
    refine getItem_tuple_rev ht (Heap.IsSliceOf.new _ _ _ vs) ps ?_ (by rw [List.size_toArray, ← rv.length]; exact hz)
    refine ⟨.ref _, _, I5.laid (t' := s4.toks) (o := .tup xs.reverse) (fun b ob q => Heap.get?_push_of_some _ q) (Nat.le_refl _) ?_, rfl, tup_new hr1 (I5.hok.fresh (Nat.le_refl _)) (rds_rev r) (q.next x1 p1')⟩
    exact ⟨by rw [List.length_reverse]; exact hz, _, rv.reverse, IsTup.new _ _⟩
  · rename_i n
    split at e2
    case h_2 => cases e2
    rename_i ds el
    cases e2
    obtain ⟨a, ex, ha⟩ := k1.r
    obtain ⟨xs, hx, r⟩ := hr1.lstR el ha
    subst ex
    cases r1
    obtain ⟨its, rv, ht, hz⟩ := I5.list hx
    show wpAny (model X.prog X.w) X.A (subscriptTail e (.Slice none none (some (.UnaryOp .USub (.Constant (.int 1) k p1) p2)) p3) (.ref a) (.ref s4.heap.objs.size)) (EP X pins σ Q) X.xe { s4 with heap := s4.heap.push { cls := .type "slice", data := .fields #[vl, vu, vs] } }
    refine tail_any (ops := [.ref a, .ref s4.heap.objs.size]) ht.isList.typeIs (PySem.slot_list_getitem.lookup) ?_ (by with_unfolding_all rfl)
    refine wpAny_getItem_list_slice ht.isList (Heap.IsSliceOf.new _ vl vu vs) pl pu ps (by decide) ?_ (by rw [List.size_toArray, ← rv.length]; exact hz)
    rw [PySem.W.krv_pick]
    refine ⟨.ref _, _, I5.laid (t' := s4.toks) (o := .lst xs.reverse) (fun b ob q => Heap.get?_push_of_some _ q) (Nat.le_refl _) ?_, rfl, lst_new hr1 (I5.hok.fresh (Nat.le_refl _)) (rds_rev r) (q.next x1 p1')⟩
    exact ⟨by rw [List.length_reverse]; exact hz, _, 0, rv.reverse, Heap.get?_push_size _ rfl⟩
  · cases e2
end
end DL
namespace DL
open PySem PySem.Spec PyProof.Rows L2
section
variable {E : En} {ad : List Addr} {H H' : Hp} {hp : Hd}
theorem ex_grow (k : ∀ b o, H b = some o → H' b = some o) : Ex E H H' := ⟨fun a xs h => sqT_same (fun o e => k a o e) h, fun a o u e => k a _ e⟩
theorem HR.grow (h : HR E ad H hp) (k : ∀ b o, H b = some o → H' b = some o) : HR E ad H' hp := by
  refine h.step (ex_grow k) (fun b m => ?_) (fun b c o _ _ e => k c o e) (h.tab.keep (fun b m => .inl m) (fun b ps e => k b _ e) fun b φ e _ => k b _ e)
  obtain ⟨i, hi⟩ := List.getElem?_of_mem m
  obtain ⟨o, _, r⟩ := h.ob i b hi
  obtain ⟨u, e, _⟩ := r.there
  rw [e, k b u e]
/-- a new list, its place known only behind the growth -/
theorem HR.growL {S : Addr} {vs : List V} {ds : List D} {Q : VK} (h : HR E ad H hp) (k : ∀ b o, H b = some o → H' b = some o) (n : H S = none) (e : H' S = some (.lst vs)) (r : RDs E ad H' ds vs) (q : PostE E ad H (.ref hp.n) (hp.push (.lst ds)) Q) : Q (.ref S) H' := by
  let H0 : Hp := fun b => if b = S then none else H' b
  have e0 : H0 S = none := by simp [H0]
  have k0 : ∀ b o, H b = some o → H0 b = some o := fun b o eb => by
    have : b ≠ S := fun z => by rw [z, n] at eb; cases eb
    simp only [H0, if_neg this]
    exact k b o eb
  have eu : upd H0 S (.lst vs) = H' := by
    funext b
    by_cases hb : b = S
    · subst hb; rw [upd_same, e]
    · rw [upd_ne hb]; simp only [H0, if_neg hb]
  have hr : HR E (ad ++ [S]) H' (hp.push (.lst ds)) := by
    have := (h.grow k0).push (p := S) (o := .lst vs) (b := .lst ds) e0 (by
      rw [eu]
      exact ⟨.lst vs, e, vs, rfl, r.mono .refl (List.prefix_append _ _)⟩)
    rw [eu] at this
    exact this
  refine q _ _ (ad ++ [S]) (ex_grow k) (List.prefix_append _ _) hr ?_
  rw [RD]
  exact ⟨S, rfl, by rw [← h.len]; simp⟩
end
def itmD (kvs : List (D × D)) : List D := kvs.map fun p => .tup [p.1, p.2]
def mLstI (m : M D) : M D := bnd m fun d => lft fun hp => match d with
  | .ref n => (match dicOf hp n with
    | some kvs => if (kvs.all fun p => kdD p.1 == 2) = true then some (.ref hp.n, hp.push (.lst (itmD kvs))) else none
    | none => none)
  | _ => none
theorem rd_key {E : En} {ad : List Addr} {H : Hp} {d : D} {k : L2.Key} (h : fkD d = some k) : RD E ad H d (kV k) := by
  cases d <;> simp [fkD] at h <;> subst h <;> rw [RD] <;> rfl
theorem fx_split {E : En} {ad : List Addr} {H : Hp} : ∀ {kvs : List (D × D)} {xs : List (L2.Key × Value)}, FX E ad H kvs xs → ∃ ys : List (L2.Key × V), KV ys xs ∧ Paired (fun (p : D × D) (y : L2.Key × V) => fkD p.1 = some y.1 ∧ RD E ad H p.2 y.2) kvs ys
  | [], _, .nil => ⟨[], .nil, .nil⟩
  | p :: ps, _, .cons h t => by
    obtain ⟨ys, h1, h2⟩ := fx_split t
    obtain ⟨e1, v, e2, e3⟩ := h
    exact ⟨(_, v) :: ys, .cons ⟨rfl, e3⟩ h1, .cons ⟨e1, e2⟩ h2⟩
theorem itm_rd {E : En} {ad : List Addr} {H H' : Hp} (x : Ex E H H') : ∀ {kvs : List (D × D)} {ys : List (L2.Key × V)} {as : List Addr}, Paired (fun (p : D × D) (y : L2.Key × V) => fkD p.1 = some y.1 ∧ RD E ad H p.2 y.2) kvs ys → Paired (fun (t : Addr) (q : L2.Key × V) => H' t = some (.tup [kV q.1, q.2])) as ys → RDs E ad H' (itmD kvs) (as.map V.ref)
  | [], _, _, .nil, .nil => .nil
  | p :: ps, _, _, .cons h t, .cons h2 t2 => by
    refine .cons ?_ (itm_rd x t t2)
    rw [RD]
    exact ⟨_, _, rfl, .inl (.inl h2), .cons (rd_key h.1) (.cons (h.2.mono x (List.prefix_refl _)) .nil)⟩
section
variable {X : Cx} {e : Expr} {me : M D} {p apos cpos pos : Pos}
theorem le_listI (hc : X.calm = true) (he : PE X e (rE (en X) me)) (hg : Gl X "list") (hm : X.mg "list" = none) (hv : bootBuiltins "list" = some (.type "list")) (hbase : attributeBase e "items" X.env (eval e X.env) = eval e X.env := by rfl) (hline : (apos.endLine == cpos.line) = true := by rfl)
    (hs : starEach [.Call (.Attribute e "items" apos) [] [] cpos] X.env = (false, eval (.Call (.Attribute e "items" apos) [] [] cpos) X.env) :: starEach [] X.env := by rfl) :
    PE X (.Call (.Name "list" p) [.Call (.Attribute e "items" apos) [] [] cpos] [] pos) (rE (en X) (mLstI me)) := by
  refine ⟨fun pins s σ H Q I hq => ?_⟩
  obtain ⟨ρ, hp, ad, d, hp', st, e0, q⟩ := hq
  obtain ⟨d1, h1, e1, e2⟩ := bnd_inv e0
  refine wpAny_Call_Name_kw (ld_blt I hg hm hv ?_)
  refine PyProof.Rows.callWith_type1 ?_ hs rfl
  rw [hs]
  show wpAny _ _ (spliced ((false, eval (.Call (.Attribute e "items" apos) [] [] cpos) X.env) :: backTo pos (starEach [] X.env))) _ _ s
  refine Calls.spliced_cons ?_
  refine wpAny_Call_method (T := "dict") (id := "dict.items") hbase rfl hline F.plainAttrs_dict F.slot_dict_items F.type_dict_items (thn (he.run pins s σ H (fun x H1 => ∃ ad1, Ex (en X) H H1 ∧ ad <+: ad1 ∧ HR (en X) ad1 H1 h1 ∧ RD (en X) ad1 H1 d1 x) I ⟨ρ, hp, ad, d1, h1, st, e1, fun v H' ad' x p r k => ⟨ad', x, p, r, k⟩⟩) fun u s1 ⟨x, H1, I1, rx, ad1, x1, p1, hr1, k1⟩ => ?_)
  simp only [lft] at e2
  split at e2
  case h_2 => cases e2
  rename_i n
  split at e2
  case h_2 => cases e2
  rename_i kvs ed
  split at e2
  case isFalse => cases e2
  rename_i hall
  cases e2
  obtain ⟨a, ex, ha⟩ := k1.r
  subst ex
  obtain rfl : u = Value.ref a := rx
  obtain ⟨vs0, rd, z, sy, pr, ko⟩ := hr1.dicR ed ha
  obtain ⟨xs, hdo, fx⟩ := dic_F I1 (dic_raw I1 rd) pr ko (fun p hp => by simpa using List.all_eq_true.mp hall p hp)
  obtain ⟨ep, hat⟩ := hdo.dictAt
  obtain ⟨ys, kv, yr⟩ := fx_split fx
  have lk : ys.length = xs.length := Paired.length kv
  have lk2 : kvs.length = ys.length := Paired.length yr
  have I2 : Inv X pins σ H1 { s1 with heap := s1.heap.push { cls := .type "dict_items", data := .fields #[.ref a] } } := I1.kept (t' := s1.toks) fun b ob q => Heap.get?_push_of_some _ q
  refine ⟨hdo.typeIs, hdo.mapOf.noDict, ?_⟩
  show wpAny _ _ (callWith cpos (.builtin "dict.items") [.ref a] [] []) _ X.xe s1
  refine method_meetsIn F.slot_dict_items F.entry_dict_items rfl (PySem.evalArgs_none ⟨rfl, hdo.typeIs, F.args_dict_items_1 _, _, meets_dict_items (mixKind X.prog X.w) a sy, ⟨xs, hdo⟩, ?_⟩)
  refine Calls.spliced_nil ?_
  refine PySem.W.kdx_call (knd := mixKind X.prog X.w) (kvs := xs) (ep := ep) (I1.ok.hd hc) ⟨_, Heap.get?_push_size _ rfl, rfl, rfl⟩ (hat.push _) (by omega) fun h' tk acc c as hk hS hl hG hacc => ?_
  obtain ⟨H', k1, k2, k3, k4, k5, k6, J⟩ := LiI.items_laid (tk := tk) I2 (by omega) kv hk hS hl hG hacc
  exact ⟨.ref _, H', J, rfl, hr1.growL k1 k2 k5 (itm_rd (ex_grow k1) yr k6) (q.next x1 p1)⟩
end
end DL
namespace DL
open PySem PySem.Spec PyProof.Rows L2
/-- the getter of a property -/
def gA (K : PySem.W.Frag) (p : He.Defn) : Addr := match PySem.W.recIn K (He.fAd K p) "property" with
  | some (.ref g :: _) => g
  | _ => 0
def fnA (K : PySem.W.Frag) (a : Addr) : He.FnW := match K.lookup a with
  | some ⟨_, _, .func fd, _⟩ => some (fd.name, fd.qualname, fd.params, fd.body, fd.scope, fd.globals, fd.closure, fd.builtins)
  | _ => none
def okA (K : PySem.W.Frag) (d : He.DefD) (a : Addr) : Bool := PySem.W.keepIn K (.ref a) && (match K.lookup a with
  | some ⟨_, _, .func fd, _⟩ => PySem.W.codeIn K fd.code d.qual && (He.dflB K fd.defaults (d.dvs K) && He.kwdB K fd.kwdefaults (d.kws K))
  | _ => false)
theorem funA {K : PySem.W.Frag} {d : He.DefD} {a : Addr} (e : fnA K a = d.val) (c : okA K d a = true) : ∃ fd, FunD K d.name d.qual d.params d.body d.scope (d.dvs K) (d.kws K) a fd := by
  obtain ⟨kp, c2⟩ := He.ba c
  unfold fnA at e
  cases q : K.lookup a with
  | none =>
    rw [q] at c2
    cases c2
  | some o =>
    obtain ⟨oc, od, dt, osl⟩ := o
    rw [q] at c2 e
    cases dt with
    | func fd =>
      obtain ⟨n1, n2, n3, n4, n5, n6, n7, n8, n9, n10, n11, n12, n13, n14, n15⟩ := fd
      have e2 : (some (n1, n2, n3, n4, n5, n6, n7, n15) : He.FnW) = some (d.name, d.qual, d.params, .stmts d.body, d.scope, mainGlobals, [], builtinsNs) := e
      simp only [Option.some.injEq, Prod.mk.injEq] at e2
      obtain ⟨h1, h2, h3, h4, h5, h6, h7, h8⟩ := e2
      subst h1 h2 h3 h4 h5 h6 h7 h8
      have c3 : (PySem.W.codeIn K n13 d.qual && (He.dflB K n8 (d.dvs K) && He.kwdB K n9 (d.kws K))) = true := c2
      obtain ⟨k1, k2⟩ := He.ba c3
      obtain ⟨k3, k4⟩ := He.ba k2
      exact ⟨_, ⟨oc, od, n8, n9, n10, n11, n12, n13, n14, osl, rfl, q, k1, He.dflB_ok k3, He.kwdB_ok k4⟩, kp⟩
    | _ => cases c2
abbrev AlP : Type := He.AlX × He.AlD
def obsPr (pr : List He.DefD) (K : PySem.W.Frag) : He.AlD := (pr.all fun d => okA K d (gA K d.at_), pr.map fun d => fnA K (gA K d.at_))
def valPr (pr : List He.DefD) : He.AlD := (true, pr.map He.DefD.val)
def SaysPr (pr : List He.DefD) (K : PySem.W.Frag) : Prop := obsPr pr K = valPr pr
theorem SaysPr.def_ {pr : List He.DefD} {K : PySem.W.Frag} (c : SaysPr pr K) (i : Nat) {d : He.DefD} (h : pr[i]? = some d := by rfl) : ∃ fd, FunD K d.name d.qual d.params d.body d.scope (d.dvs K) (d.kws K) (gA K d.at_) fd := by
  have c2 : (pr.all fun d => okA K d (gA K d.at_)) = true := congrArg (fun z : He.AlD => z.1) c
  have e : pr.map (fun d => fnA K (gA K d.at_)) = pr.map He.DefD.val := congrArg (fun z : He.AlD => z.2) c
  have e2 : (pr.map fun d => fnA K (gA K d.at_))[i]? = (pr.map He.DefD.val)[i]? := by rw [e]
  rw [List.getElem?_map, List.getElem?_map, h] at e2
  exact funA (Option.some.inj e2) (List.all_eq_true.mp c2 d (List.mem_of_getElem? h))
def obsP (n : Nat) (fa : List He.Fa) (fn : List He.DefD) (tf : List He.Defn) (ex : PySem.W.Frag → Bool) (pr : List He.DefD) (g : Addr → Option Obj) : AlP := (He.obsX n fa fn [] tf ex g, obsPr pr (He.frT g (He.asD g n)))
structure SaysP (fa : List He.Fa) (fn : List He.DefD) (tf : List He.Defn) (ex : PySem.W.Frag → Bool) (pr : List He.DefD) (w : World) (h : Heap) (K : PySem.W.Frag) : Prop extends He.SaysX fa fn [] tf ex w h K where
  p : SaysPr pr K
def hookP (n : Nat) (fa : List He.Fa) (fn : List He.DefD) (tf : List He.Defn) (ex : PySem.W.Frag → Bool) (pr : List He.DefD) : PySem.W.Hook where
  α := AlP
  obs := fun s => obsP n fa fn tf ex pr s.heap.get?
  val := fun w => (He.valX fn [] w, valPr pr)
  says := fun w h => ∃ K : PySem.W.Frag, K.In h ∧ SaysP fa fn tf ex pr w h K
  of := fun _ _ e => ⟨_, He.frT_in, { He.saysX_of (congrArg (fun z : AlP => z.1) e) with p := congrArg (fun z : AlP => z.2) e }⟩
  keeps := fun _ _ _ ⟨K, hK, c⟩ k => ⟨K, PySem.W.Frag.In.keeps hK k, { t := c.t, more := c.more, hd := c.hd, out := c.out, empty := fun p hp => k _ _ (c.empty p hp), p := c.p }⟩
theorem obsP_eq {n : Nat} {fa : List He.Fa} {fn : List He.DefD} {tf : List He.Defn} {ex : PySem.W.Frag → Bool} {pr : List He.DefD} {g : Addr → Option Obj} {s : Shared} (h : ∀ a, g a = s.heap.get? a) : obsP n fa fn tf ex pr g = (hookP n fa fn tf ex pr).obs s := by
  have e : g = s.heap.get? := funext h
  rw [e] <;> rfl
structure PropF (K : PySem.W.Frag) (C : Addr) (f : Str) (p g : Addr) : Prop where
  at_ : PySem.W.findIn K (.ref C) f = some (some (.ref p))
  get : PySem.W.specialIn K (.ref p) "__get__" = some (some (.builtin "property.__get__"))
  tk : PySem.W.takesIn K (.ref p) = some true
  rc : ∃ rest, PySem.W.recIn K p "property" = some (.ref g :: rest)
def propB (K : PySem.W.Frag) (c f : Str) : Bool := He.eqO (PySem.W.findIn K (.ref (He.ga K c)) f) (some (some (.ref (He.ma K (He.ga K c) f)))) && (decide (PySem.W.specialIn K (.ref (He.ma K (He.ga K c) f)) "__get__" = some (some (.builtin "property.__get__"))) && (decide (PySem.W.takesIn K (.ref (He.ma K (He.ga K c) f)) = some true) && (match PySem.W.recIn K (He.ma K (He.ga K c) f) "property" with
  | some (.ref _ :: _) => true
  | _ => false)))
theorem propB_ok {K : PySem.W.Frag} {c f : Str} (h : propB K c f = true) : PropF K (He.ga K c) f (He.ma K (He.ga K c) f) (gA K (c, some f)) := by
  unfold propB at h
  obtain ⟨h1, h⟩ := He.ba h
  obtain ⟨h2, h⟩ := He.ba h
  obtain ⟨h3, h4⟩ := He.ba h
  refine ⟨He.eqO_ok h1, of_decide_eq_true h2, of_decide_eq_true h3, ?_⟩
  split at h4
  · rename_i g rest e
    refine ⟨rest, ?_⟩
    have : gA K (c, some f) = g := by
      unfold gA
      show (match PySem.W.recIn K (He.ma K (He.ga K c) f) "property" with
        | some (.ref g :: _) => g
        | _ => 0) = g
      rw [e]
    rw [this]; exact e
  · cases h4
section
variable {X : Cx} {k : Nat} {C p g : Addr} {ps : List Str} {F : List D → Hd → Option (D × Hd)} {f : Str} {pos : Pos} {e : Expr} {me : M D}
def propO (c : Str) (F : List D → Hd → Option (D × Hd)) : D → Hd → Option (D × Hd) := fun d hp => match d with
  | .ref n => (match hp.get n with
    | some (.slt c' _) => if c' = c then F [.ref n] hp else none
    | _ => none)
  | _ => none
theorem le_prop {c : Str} (he : PE X e (rE (en X) me)) (hc : X.mg c = some (.ref C)) (cl : SlX.SCls X.K C) (P : PropF X.K C f p g) (G : Ok X.prog X.w X.K X.mg X.base k g ps F) (hr : Room (k + 1) X.A) (hb : attributeBase e f X.env (eval e X.env) = eval e X.env := by rfl) : PE X (.Attribute e f pos) (rE (en X) (mU (propO c F) me)) := by
  obtain ⟨fd, gg, b, kp⟩ := G
  refine PE.mono (SlX.pe_propSl (E := E0) he cl P.at_ P.get P.tk P.rc (fnR_of gg b) hr (fun _ _ _ _ z => z.elim) hb) fun σ H Q h => ?_
  obtain ⟨ρ, hp, ad, d, hp', st, e0, q⟩ := h
  obtain ⟨o1, h1, e1, e2⟩ := bnd_inv e0
  refine ⟨ρ, hp, ad, o1, h1, st, e1, fun v H1 ad1 x1 p1 r1 k1 => ?_⟩
  simp only [lft] at e2
  unfold propO at e2
  split at e2
  case h_2 => cases e2
  rename_i n
  split at e2
  case h_2 => cases e2
  rename_i c' fs eg
  split at e2
  case isFalse => cases e2
  rename_i ec
  subst ec
  obtain ⟨a, rfl, ha⟩ := k1.r
  obtain ⟨uo, eu, C', dx, vs, h4, h5, h6⟩ := r1.at_ ha eg
  have := hc.symm.trans h4
  cases this
  exact ⟨a, dx, vs, rfl, slt_H (ad := ad1) eu h5, ad1, h1, [.ref n], d, hp', r1, .cons k1 .nil, e2, q.next x1 p1⟩
end
end DL
namespace DL
open PySem PySem.Spec PyProof.Rows L2
def slcK (lo hi : Option Int) : D → Hd → Option (D × Hd)
  | .kl ns, hp => some (.ref hp.n, hp.push (.lst (cutD (ns.map .int) lo hi)))
  | d, hp => slcD lo hi d hp
def rSlK (E : En) : V → Option Int → Option Int → Hp → VK → Prop := fun x lo hi H Q => ∃ ad hp d1 d hp', HR E ad H hp ∧ RD E ad H d1 x ∧ slcK lo hi d1 hp = some (d, hp') ∧ PostE E ad H d hp' Q
section
variable {X : Cx} {a : Expr} {ma : M D} {p2 pos : Pos}
theorem sl_K : L2.SlR X (rSlK (en X)) := by
  intro pins s σ H x v vl vu lo hi sl Q I rx hs pl pu ⟨ad, hp, d1, d, hp', hr, k1, e, q⟩
  unfold slcK at e
  split at e
  · rename_i ns
    cases e
    rw [RD] at k1
    obtain ⟨a, ex, hq⟩ := k1
    exact sl_list pins s σ H x v vl vu lo hi sl Q I rx hs pl pu ⟨a, ns.map V.int, ex, hq.l, fun p n => lst_new hr n (cut_rd (rds_ints ns) lo hi) q⟩
  · exact sl_D pins s σ H x v vl vu lo hi sl Q I rx hs pl pu ⟨ad, hp, d1, d, hp', hr, k1, e, q⟩
def mSlcK (m : M D) (lo hi : M (Option Int)) : M D := bnd m fun d => bnd lo fun l => bnd hi fun u => lft (slcK l u d)
theorem le_slcK {lo hi : Option Expr} {ml mh : M (Option Int)} (he : PE X a (rE (en X) ma)) (hl : PO X lo (rO (en X) ml)) (hu : PO X hi (rO (en X) mh)) : PE X (.Subscript a (.Slice lo hi none p2) pos) (rE (en X) (mSlcK ma ml mh)) := by
  refine PE.mono (pe_slice sl_K he hl hu) fun σ H Q h => ?_
  obtain ⟨ρ, hp, ad, d, hp', st, e, q⟩ := h
  obtain ⟨d1, h1, e1, e⟩ := bnd_inv e
  obtain ⟨l, h2, e2, e⟩ := bnd_inv e
  obtain ⟨u, h3, e3, e⟩ := bnd_inv e
  refine ⟨ρ, hp, ad, d1, h1, st, e1, fun x H1 a1 x1 p1 r1 k1 => ?_⟩
  refine ⟨ρ, h1, a1, l, h2, st.next x1 p1 r1, e2, fun H2 a2 x2 p2 r2 => ?_⟩
  refine ⟨ρ, h2, a2, u, h3, st.next (x1.trans x2) (p1.trans p2) r2, e3, fun H3 a3 x3 p3 r3 => ?_⟩
  exact ⟨a3, h3, d1, d, hp', r3, k1.mono (x2.trans x3) (p2.trans p3), e, q.next ((x1.trans x2).trans x3) ((p1.trans p2).trans p3)⟩
end
end DL
namespace DL
open PySem PySem.Spec PyProof.Rows L2
section
variable {E : En} {ad ad' : List Addr} {H H' : Hp} {hp hp' : Hd} {a : Addr}
theorem pre_at {i : Nat} {x : Addr} (q : ad <+: ad') (h : ad[i]? = some x) : ad'[i]? = some x := by
  obtain ⟨t, rfl⟩ := q
  rw [List.getElem?_append_left (List.getElem?_eq_some_iff.mp h).1]; exact h
mutual
theorem rd_low (q : ad <+: ad') : ∀ {d : D} {v v0 : V}, RD E ad H d v0 → RD E ad' H' d v → RD E ad H' d v
  | .non, v, _, _, h => by rw [RD] at h ⊢; exact h
  | .bl _, v, _, _, h => by rw [RD] at h ⊢; exact h
  | .int _, v, _, _, h => by rw [RD] at h ⊢; exact h
  | .str _, v, _, _, h => by rw [RD] at h ⊢; exact h
  | .kl _, v, _, _, h => by rw [RD] at h ⊢; exact h
  | .ref n, v, _, h0, h => by
    rw [RD] at h0 h ⊢
    obtain ⟨a0, _, e0⟩ := h0
    obtain ⟨a, e, e1⟩ := h
    have := (pre_at q e0).symm.trans e1
    cases this
    exact ⟨a0, e, e0⟩
  | .tup ds, v, _, h0, h => by
    rw [RD] at h0 h ⊢
    obtain ⟨a0, vs0, _, _, r0⟩ := h0
    obtain ⟨a, vs, e, s, r⟩ := h
    exact ⟨a, vs, e, s, rds_low q r0 r⟩
theorem rds_low (q : ad <+: ad') : ∀ {ds : List D} {vs vs0 : List V}, RDs E ad H ds vs0 → RDs E ad' H' ds vs → RDs E ad H' ds vs
  | [], vs, _, _, h => by rw [RDs] at h ⊢; exact h
  | d :: ds, vs, _, h0, h => by
    rw [RDs] at h0 h ⊢
    obtain ⟨v0, r0, _, h1, h2⟩ := h0
    obtain ⟨v, r, e, h3, h4⟩ := h
    exact ⟨v, r, e, rd_low q h1 h3, rds_low q h2 h4⟩
end
theorem prs_low (q : ad <+: ad') : ∀ {ps : List (D × D)} {vs vs0 : List (V × Int × V)}, PRs E ad H ps vs0 → PRs E ad' H' ps vs → PRs E ad H' ps vs
  | [], _, _, _, h => h
  | p :: ps, _, _, h0, h => by
    obtain ⟨_, _, _, _, a1, _, _, a2, a3⟩ := h0
    obtain ⟨v, r, k, e, h1, h2, h3, h4, h5⟩ := h
    exact ⟨v, r, k, e, rd_low q a1 h1, h2, h3, rd_low q a2 h4, prs_low q a3 h5⟩
theorem hi_low (q : ad <+: ad') {b : O} {u u0 : HO} (h0 : HI E ad H a b u0) (h : HI E ad' H' a b u) : HI E ad H' a b u := by
  cases b with
  | lst ds => obtain ⟨_, _, r0⟩ := h0; obtain ⟨vs, e, r⟩ := h; exact ⟨vs, e, rds_low q r0 r⟩
  | dic kvs => obtain ⟨_, _, _, _, r0, _⟩ := h0; obtain ⟨vs, e, z, s, r, k⟩ := h; exact ⟨vs, e, z, s, prs_low q r0 r, k⟩
  | ins c fs =>
    obtain ⟨_, _, _, _, _, _, r0⟩ := h0
    obtain ⟨C, dx, gs, g, e, el, r⟩ := h
    refine ⟨C, dx, gs, g, e, el, fun f => ?_⟩
    have rf := r f
    have rf0 := r0 f
    cases e2 : fs.lookup f with
    | none => rw [e2] at rf; exact rf
    | some d => rw [e2] at rf rf0; obtain ⟨v, e3, r3⟩ := rf; obtain ⟨_, _, r4⟩ := rf0; exact ⟨v, e3, rd_low q r4 r3⟩
  | slt c fs =>
    obtain ⟨_, _, _, _, _, r0⟩ := h0
    obtain ⟨C, dx, vs, g, e, r⟩ := h
    refine ⟨C, dx, vs, g, e, fun f d l => ?_⟩
    obtain ⟨i, p, v, s, l2, r2⟩ := r f d l
    obtain ⟨_, _, _, _, _, r3⟩ := r0 f d l
    exact ⟨i, p, v, s, l2, rd_low q r3 r2⟩
  | lk o => exact h.elim
theorem or_low (q : ad <+: ad') {b : O} (h0 : OR E ad H a b) (h : OR E ad' H' a b) : OR E ad H' a b := by
  cases b with
  | lk o => obtain ⟨_, _, _, h0⟩ := h0; obtain ⟨ob, u, e, hi⟩ := h; exact ⟨ob, u, e, hi_low q h0 hi⟩
  | lst _ => obtain ⟨_, _, h0⟩ := h0; obtain ⟨u, e, hi⟩ := h; exact ⟨u, e, hi_low q h0 hi⟩
  | dic _ => obtain ⟨_, _, h0⟩ := h0; obtain ⟨u, e, hi⟩ := h; exact ⟨u, e, hi_low q h0 hi⟩
  | ins _ _ => obtain ⟨_, _, h0⟩ := h0; obtain ⟨u, e, hi⟩ := h; exact ⟨u, e, hi_low q h0 hi⟩
  | slt _ _ => obtain ⟨_, _, h0⟩ := h0; obtain ⟨u, e, hi⟩ := h; exact ⟨u, e, hi_low q h0 hi⟩
/-- the objects of hp stand in hp' as they were -/
def Same (hp hp' : Hd) : Prop := ∀ i, i < hp.n → hp'.get i = hp.get i
theorem HR.low (h0 : HR E ad H hp) (h : HR E ad' H' hp') (q : ad <+: ad') (s : Same hp hp') : HR E ad H' hp := by
  refine ⟨h0.len, h0.nd, fun i a e => ?_, fun p hp => ?_⟩
  · obtain ⟨o, e1, r1⟩ := h0.ob i a e
    obtain ⟨o', e2, r2⟩ := h.ob i a (pre_at q e)
    have : i < hp.n := by rw [← h0.len]; exact (List.getElem?_eq_some_iff.mp e).1
    rw [s i this, e1] at e2
    cases e2
    exact ⟨o, e1, or_low q r1 r2⟩
  · obtain ⟨ps, h1, h2, h3⟩ := h.tab p hp
    refine ⟨ps, h1, h2, fun pos cv hc => ?_⟩
    obtain ⟨c, e1, e2, e3⟩ := h3 pos cv hc
    exact ⟨c, e1, e2, fun m => e3 (q.subset m)⟩
end
open Classical in
/-- a test behind which what it made is let go -/
noncomputable def gcT (t : M Bool) : M Bool := fun ρ hp => match t ρ hp with
  | some (b, hp') => if Same hp hp' then some (b, hp) else some (b, hp')
  | none => none
theorem lt_gc {X : Cx} {e : Expr} {t : M Bool} (h : PT X e (rT (en X) t)) : PT X e (rT (en X) (gcT t)) := by
  refine PT.mono h fun σ H Q ⟨ρ, hp, ad, b, hp', st, e, q⟩ => ?_
  unfold gcT at e
  split at e
  · rename_i b' h1 e1
    split at e
    · rename_i s
      cases e
      exact ⟨ρ, hp, ad, _, h1, st, e1, fun H' ad' x p r => q H' ad x (List.prefix_refl _) (st.h.low r p s)⟩
    · cases e
      exact ⟨ρ, hp, ad, _, _, st, e1, q⟩
  · cases e
def objs (n : Nat) (hp : Hd) : List (Option O) := (List.range n).map hp.get
theorem gcT_ev {t : M Bool} {ρ : Rho} {hp : Hd} {b : Bool} (e : (t ρ hp).map (fun r => (r.1, objs hp.n r.2)) = some (b, objs hp.n hp)) : gcT t ρ hp = some (b, hp) := by
  obtain ⟨⟨b', h'⟩, e1, e2⟩ := Option.map_eq_some_iff.mp e
  simp only [Prod.mk.injEq] at e2
  obtain ⟨rfl, e3⟩ := e2
  have s : Same hp h' := fun i hi => by
    have := congrArg (·[i]?) e3
    simpa [objs, hi] using this
  unfold gcT
  rw [e1]
  simp only [if_pos s]
theorem seq_nx {m n : S} {ρ ρ' : Rho} {hp h' : Hd} (e : m ρ hp = some (.nx, ρ', h')) : sSeq m n ρ hp = n ρ' h' := by unfold sSeq; rw [e]
theorem if_f {t : M Bool} {m n : S} {ρ : Rho} {hp h' : Hd} (e : t ρ hp = some (false, h')) : sIf t m n ρ hp = n ρ h' := by unfold sIf; rw [e]
theorem if_t {t : M Bool} {m n : S} {ρ : Rho} {hp h' : Hd} (e : t ρ hp = some (true, h')) : sIf t m n ρ hp = m ρ h' := by unfold sIf; rw [e]
theorem or_f {t u : M Bool} {ρ : Rho} {hp h' : Hd} (e : t ρ hp = some (false, h')) : mOr t u ρ hp = u ρ h' := by unfold mOr bnd; rw [e]; rfl
end DL
namespace K06
open PySem PySem.Spec PyProof.Rows L2 DL
def top (i : Nat) : Stmt := PySem.Challenge.pw_whichfirm_k06_known.main.body.getD i (.Pass ⟨0, 0, 0, 0⟩)
def clsBody : Stmt → List Stmt
  | .ClassDef _ _ _ b .. => b
  | _ => []
def inCls (i j : Nat) : Stmt := (clsBody (top i)).getD j (.Pass ⟨0, 0, 0, 0⟩)

def tb_bool : List (String × Bool) := [("NoneType", false), ("bool", true), ("int", false), ("str", false), ("tuple", false), ("list", false), ("dict", false)]
def to_bool : List (Str × Bool) := [("Shelf", false), ("Way", false), ("Stuck", false), ("Bearable", false), ("Serves", false), ("Breaks", false), ("Search", false)]
def tb_int : List (String × Bool) := [("NoneType", false), ("bool", true), ("int", true), ("str", false), ("tuple", false), ("list", false), ("dict", false)]
def to_int : List (Str × Bool) := [("Shelf", false), ("Way", false), ("Stuck", false), ("Bearable", false), ("Serves", false), ("Breaks", false), ("Search", false)]
def tb_tuple : List (String × Bool) := [("NoneType", false), ("bool", false), ("int", false), ("str", false), ("tuple", true), ("list", false), ("dict", false)]
def to_tuple : List (Str × Bool) := [("Shelf", false), ("Way", false), ("Stuck", false), ("Bearable", false), ("Serves", false), ("Breaks", false), ("Search", false)]
def tb_Shelf : List (String × Bool) := [("NoneType", false), ("bool", false), ("int", false), ("str", false), ("tuple", false), ("list", false), ("dict", false)]
def to_Shelf : List (Str × Bool) := [("Shelf", true), ("Way", false), ("Stuck", false), ("Bearable", false), ("Serves", false), ("Breaks", false), ("Search", false)]
def tb_str : List (String × Bool) := [("NoneType", false), ("bool", false), ("int", false), ("str", true), ("tuple", false), ("list", false), ("dict", false)]
def to_str : List (Str × Bool) := [("Shelf", false), ("Way", false), ("Stuck", false), ("Bearable", false), ("Serves", false), ("Breaks", false), ("Search", false)]
def tb_Way : List (String × Bool) := [("NoneType", false), ("bool", false), ("int", false), ("str", false), ("tuple", false), ("list", false), ("dict", false)]
def to_Way : List (Str × Bool) := [("Shelf", false), ("Way", true), ("Stuck", false), ("Bearable", false), ("Serves", false), ("Breaks", false), ("Search", false)]
def tb_Stuck : List (String × Bool) := [("NoneType", false), ("bool", false), ("int", false), ("str", false), ("tuple", false), ("list", false), ("dict", false)]
def to_Stuck : List (Str × Bool) := [("Shelf", false), ("Way", false), ("Stuck", true), ("Bearable", false), ("Serves", false), ("Breaks", false), ("Search", false)]
def tb_Bearable : List (String × Bool) := [("NoneType", false), ("bool", false), ("int", false), ("str", false), ("tuple", false), ("list", false), ("dict", false)]
def to_Bearable : List (Str × Bool) := [("Shelf", false), ("Way", false), ("Stuck", false), ("Bearable", true), ("Serves", false), ("Breaks", false), ("Search", false)]
def tb_Serves : List (String × Bool) := [("NoneType", false), ("bool", false), ("int", false), ("str", false), ("tuple", false), ("list", false), ("dict", false)]
def to_Serves : List (Str × Bool) := [("Shelf", false), ("Way", false), ("Stuck", false), ("Bearable", false), ("Serves", true), ("Breaks", false), ("Search", false)]
def tb_Breaks : List (String × Bool) := [("NoneType", false), ("bool", false), ("int", false), ("str", false), ("tuple", false), ("list", false), ("dict", false)]
def to_Breaks : List (Str × Bool) := [("Shelf", false), ("Way", false), ("Stuck", false), ("Bearable", false), ("Serves", false), ("Breaks", true), ("Search", false)]
def tb_list_tuple : List (String × Bool) := [("NoneType", false), ("bool", false), ("int", false), ("str", false), ("tuple", true), ("list", true), ("dict", false)]
def to_list_tuple : List (Str × Bool) := [("Shelf", false), ("Way", false), ("Stuck", false), ("Bearable", false), ("Serves", false), ("Breaks", false), ("Search", false)]
def tb_list : List (String × Bool) := [("NoneType", false), ("bool", false), ("int", false), ("str", false), ("tuple", false), ("list", true), ("dict", false)]
def to_list : List (Str × Bool) := [("Shelf", false), ("Way", false), ("Stuck", false), ("Bearable", false), ("Serves", false), ("Breaks", false), ("Search", false)]

structure Fx (K : PySem.W.Frag) (mg : Str → Option Value) (base : Heap) : Prop where
  b_bool : mg "bool" = none
  an_bool : Ans0 K mg [.type "bool"] tb_bool to_bool
  b_isinstance : mg "isinstance" = none
  b_int : mg "int" = none
  an_int : Ans0 K mg [.type "int"] tb_int to_int
  f_is_integer : ∃ fd, FunD K "is_integer" "is_integer" (defArgs (top 13)) (defBody (top 13)) (defScope (top 13)) [] [] (He.fAd K ("is_integer", none)) fd
  b_len : mg "len" = none
  b_tuple : mg "tuple" = none
  an_tuple : Ans0 K mg [.type "tuple"] tb_tuple to_tuple
  g_is_integer : mg "is_integer" = some (.ref (He.fAd K ("is_integer", none)))
  c_MAX_REPLY : ∃ t, mg "MAX_REPLY" = some (.int 2 t)
  f_is_entry : ∃ fd, FunD K "is_entry" "is_entry" (defArgs (top 14)) (defBody (top 14)) (defScope (top 14)) [] [] (He.fAd K ("is_entry", none)) fd
  c_MAX_STATES : ∃ t, mg "MAX_STATES" = some (.int 3 t)
  g_is_entry : mg "is_entry" = some (.ref (He.fAd K ("is_entry", none)))
  b_all : mg "all" = none
  f_is_edition : ∃ fd, FunD K "is_edition" "is_edition" (defArgs (top 15)) (defBody (top 15)) (defScope (top 15)) [] [] (He.fAd K ("is_edition", none)) fd
  c_MAX_COMMANDS : ∃ t, mg "MAX_COMMANDS" = some (.int 3 t)
  f_commands_in : ∃ fd, FunD K "commands_in" "commands_in" (defArgs (top 16)) (defBody (top 16)) (defScope (top 16)) [] [] (He.fAd K ("commands_in", none)) fd
  c_MAX_EDITIONS : ∃ t, mg "MAX_EDITIONS" = some (.int 4 t)
  g_commands_in : mg "commands_in" = some (.ref (He.fAd K ("commands_in", none)))
  b_enumerate : mg "enumerate" = none
  g_is_edition : mg "is_edition" = some (.ref (He.fAd K ("is_edition", none)))
  c_MAX_PAIRS : ∃ t, mg "MAX_PAIRS" = some (.int 8 t)
  st_Shelf_rows : SetS K mg "Shelf" "rows" ["rows", "many"]
  st_Shelf_many : SetS K mg "Shelf" "many" ["rows", "many"]
  f_Shelf____init__ : ∃ fd, FunD K "__init__" "Shelf.__init__" (defArgs (inCls 17 1)) (defBody (inCls 17 1)) (defScope (inCls 17 1)) [] [] (He.fAd K ("Shelf", some "__init__")) fd
  f_Shelf____iter__ : ∃ fd, FunD K "__iter__" "Shelf.__iter__" (defArgs (inCls 17 2)) (defBody (inCls 17 2)) (defScope (inCls 17 2)) [] [] (He.fAd K ("Shelf", some "__iter__")) fd
  fs_Shelf_rows : FldS0 K mg "rows" "Shelf"
  b_iter : mg "iter" = none
  f_Shelf____len__ : ∃ fd, FunD K "__len__" "Shelf.__len__" (defArgs (inCls 17 3)) (defBody (inCls 17 3)) (defScope (inCls 17 3)) [] [] (He.fAd K ("Shelf", some "__len__")) fd
  fd_Search_rows : FldD0 K mg "rows" "Search"
  k_Shelf : mg "Shelf" = some (.ref (He.ga K "Shelf"))
  an_Shelf : Ans0 K mg [.ref (He.ga K "Shelf")] tb_Shelf to_Shelf
  f_Shelf____eq__ : ∃ fd, FunD K "__eq__" "Shelf.__eq__" (defArgs (inCls 17 4)) (defBody (inCls 17 4)) (defScope (inCls 17 4)) [] [] (He.fAd K ("Shelf", some "__eq__")) fd
  fs_Shelf_many : FldS0 K mg "many" "Shelf"
  f_Shelf__commands : ∃ fd, FunD K "commands" "Shelf.commands" (defArgs (inCls 17 6)) (defBody (inCls 17 6)) (defScope (inCls 17 6)) [] [] (He.fAd K ("Shelf", some "commands")) fd
  f_check_shelf : ∃ fd, FunD K "check_shelf" "check_shelf" (defArgs (top 18)) (defBody (top 18)) (defScope (top 18)) [] [] (He.fAd K ("check_shelf", none)) fd
  m_Shelf___iter__ : Meth K (He.ga K "Shelf") "__iter__" (He.fAd K ("Shelf", some "__iter__"))
  b_range : mg "range" = none
  f_pairs_of : ∃ fd, FunD K "pairs_of" "pairs_of" (defArgs (top 19)) (defBody (top 19)) (defScope (top 19)) [] [] (He.fAd K ("pairs_of", none)) fd
  f_entry_at : ∃ fd, FunD K "entry_at" "entry_at" (defArgs (top 20)) (defBody (top 20)) (defScope (top 20)) [] [] (He.fAd K ("entry_at", none)) fd
  m_Shelf___len__ : Meth K (He.ga K "Shelf") "__len__" (He.fAd K ("Shelf", some "__len__"))
  f_is_pair : ∃ fd, FunD K "is_pair" "is_pair" (defArgs (top 23)) (defBody (top 23)) (defScope (top 23)) [] [] (He.fAd K ("is_pair", none)) fd
  g_entry_at : mg "entry_at" = some (.ref (He.fAd K ("entry_at", none)))
  f_is_safe : ∃ fd, FunD K "is_safe" "is_safe" (defArgs (top 25)) (defBody (top 25)) (defScope (top 25)) [] [] (He.fAd K ("is_safe", none)) fd
  g_is_safe : mg "is_safe" = some (.ref (He.fAd K ("is_safe", none)))
  f_safe_in : ∃ fd, FunD K "safe_in" "safe_in" (defArgs (top 26)) (defBody (top 26)) (defScope (top 26)) [] [] (He.fAd K ("safe_in", none)) fd
  b_sorted : mg "sorted" = none
  f_parts_after : ∃ fd, FunD K "parts_after" "parts_after" (defArgs (top 27)) (defBody (top 27)) (defScope (top 27)) [] [] (He.fAd K ("parts_after", none)) fd
  f_is_told : ∃ fd, FunD K "is_told" "is_told" (defArgs (top 28)) (defBody (top 28)) (defScope (top 28)) [] [] (He.fAd K ("is_told", none)) fd
  g_pairs_of : mg "pairs_of" = some (.ref (He.fAd K ("pairs_of", none)))
  lam_all_doubts : LamF K mg base ("all_doubts", none) "all_doubts.<locals>.<lambda>"
  f_all_doubts : ∃ fd, FunD K "all_doubts" "all_doubts" (defArgs (top 29)) (defBody (top 29)) (defScope (top 29)) [] [] (He.fAd K ("all_doubts", none)) fd
  g_safe_in : mg "safe_in" = some (.ref (He.fAd K ("safe_in", none)))
  g_parts_after : mg "parts_after" = some (.ref (He.fAd K ("parts_after", none)))
  b_list : mg "list" = none
  f_reach_of : ∃ fd, FunD K "reach_of" "reach_of" (defArgs (top 30)) (defBody (top 30)) (defScope (top 30)) [] [] (He.fAd K ("reach_of", none)) fd
  b_str : mg "str" = none
  an_str : Ans0 K mg [.type "str"] tb_str to_str
  c_TELL : ∃ t, mg "TELL" = some (.str "tell" t)
  g_is_pair : mg "is_pair" = some (.ref (He.fAd K ("is_pair", none)))
  b_zip : mg "zip" = none
  f_is_aim : ∃ fd, FunD K "is_aim" "is_aim" (defArgs (top 36)) (defBody (top 36)) (defScope (top 36)) [] [] (He.fAd K ("is_aim", none)) fd
  g_is_aim : mg "is_aim" = some (.ref (He.fAd K ("is_aim", none)))
  f_check_aim : ∃ fd, FunD K "check_aim" "check_aim" (defArgs (top 37)) (defBody (top 37)) (defScope (top 37)) [] [] (He.fAd K ("check_aim", none)) fd
  g_is_told : mg "is_told" = some (.ref (He.fAd K ("is_told", none)))
  f_is_met : ∃ fd, FunD K "is_met" "is_met" (defArgs (top 38)) (defBody (top 38)) (defScope (top 38)) [] [] (He.fAd K ("is_met", none)) fd
  g_depth_of : mg "depth_of" = some (.ref (He.fAd K ("depth_of", none)))
  b_max : mg "max" = none
  f_depth_of : ∃ fd, FunD K "depth_of" "depth_of" (defArgs (top 39)) (defBody (top 39)) (defScope (top 39)) [] [] (He.fAd K ("depth_of", none)) fd
  g_is_met : mg "is_met" = some (.ref (He.fAd K ("is_met", none)))
  g_does_meet : mg "does_meet" = some (.ref (He.fAd K ("does_meet", none)))
  f_does_meet : ∃ fd, FunD K "does_meet" "does_meet" (defArgs (top 40)) (defBody (top 40)) (defScope (top 40)) [] [] (He.fAd K ("does_meet", none)) fd
  st_Way_tree : SetS K mg "Way" "tree" ["tree", "levels"]
  b_dict : mg "dict" = none
  st_Way_levels : SetS K mg "Way" "levels" ["tree", "levels"]
  f_Way____init__ : ∃ fd, FunD K "__init__" "Way.__init__" (defArgs (inCls 41 1)) (defBody (inCls 41 1)) (defScope (inCls 41 1)) [] [] (He.fAd K ("Way", some "__init__")) fd
  fs_Way_levels : FldS0 K mg "levels" "Way"
  fs_Way_tree : FldS0 K mg "tree" "Way"
  k_Way : mg "Way" = some (.ref (He.ga K "Way"))
  an_Way : Ans0 K mg [.ref (He.ga K "Way")] tb_Way to_Way
  f_Way____eq__ : ∃ fd, FunD K "__eq__" "Way.__eq__" (defArgs (inCls 41 2)) (defBody (inCls 41 2)) (defScope (inCls 41 2)) [] [] (He.fAd K ("Way", some "__eq__")) fd
  b_any : mg "any" = none
  f_Way__holds : ∃ fd, FunD K "holds" "Way.holds" (defArgs (inCls 41 4)) (defBody (inCls 41 4)) (defScope (inCls 41 4)) [] [] (He.fAd K ("Way", some "holds")) fd
  st_Stuck_doubts : SetS K mg "Stuck" "doubts" ["doubts"]
  f_Stuck____init__ : ∃ fd, FunD K "__init__" "Stuck.__init__" (defArgs (inCls 42 1)) (defBody (inCls 42 1)) (defScope (inCls 42 1)) [] [] (He.fAd K ("Stuck", some "__init__")) fd
  f_Stuck____iter__ : ∃ fd, FunD K "__iter__" "Stuck.__iter__" (defArgs (inCls 42 2)) (defBody (inCls 42 2)) (defScope (inCls 42 2)) [] [] (He.fAd K ("Stuck", some "__iter__")) fd
  fs_Stuck_doubts : FldS0 K mg "doubts" "Stuck"
  fs_Serves_doubts : FldS0 K mg "doubts" "Serves"
  k_Stuck : mg "Stuck" = some (.ref (He.ga K "Stuck"))
  an_Stuck : Ans0 K mg [.ref (He.ga K "Stuck")] tb_Stuck to_Stuck
  f_Stuck____eq__ : ∃ fd, FunD K "__eq__" "Stuck.__eq__" (defArgs (inCls 42 3)) (defBody (inCls 42 3)) (defScope (inCls 42 3)) [] [] (He.fAd K ("Stuck", some "__eq__")) fd
  f_are_stuck : ∃ fd, FunD K "are_stuck" "are_stuck" (defArgs (top 43)) (defBody (top 43)) (defScope (top 43)) [] [] (He.fAd K ("are_stuck", none)) fd
  b_min : mg "min" = none
  f_best_in : ∃ fd, FunD K "best_in" "best_in" (defArgs (top 46)) (defBody (top 46)) (defScope (top 46)) [] [] (He.fAd K ("best_in", none)) fd
  g_best_in : mg "best_in" = some (.ref (He.fAd K ("best_in", none)))
  g_tree_for : mg "tree_for" = some (.ref (He.fAd K ("tree_for", none)))
  f_tree_for : ∃ fd, FunD K "tree_for" "tree_for" (defArgs (top 47)) (defBody (top 47)) (defScope (top 47)) [] [] (He.fAd K ("tree_for", none)) fd
  f_contains : ∃ fd, FunD K "contains" "contains" (defArgs (top 51)) (defBody (top 51)) (defScope (top 51)) [] [] (He.fAd K ("contains", none)) fd
  st_Bearable_ways : SetS K mg "Bearable" "ways" ["ways", "stucks"]
  st_Bearable_stucks : SetS K mg "Bearable" "stucks" ["ways", "stucks"]
  f_Bearable____init__ : ∃ fd, FunD K "__init__" "Bearable.__init__" (defArgs (inCls 52 1)) (defBody (inCls 52 1)) (defScope (inCls 52 1)) [] [] (He.fAd K ("Bearable", some "__init__")) fd
  fs_Bearable_stucks : FldS0 K mg "stucks" "Bearable"
  fs_Bearable_ways : FldS0 K mg "ways" "Bearable"
  k_Bearable : mg "Bearable" = some (.ref (He.ga K "Bearable"))
  an_Bearable : Ans0 K mg [.ref (He.ga K "Bearable")] tb_Bearable to_Bearable
  f_Bearable____eq__ : ∃ fd, FunD K "__eq__" "Bearable.__eq__" (defArgs (inCls 52 2)) (defBody (inCls 52 2)) (defScope (inCls 52 2)) [] [] (He.fAd K ("Bearable", some "__eq__")) fd
  g_contains : mg "contains" = some (.ref (He.fAd K ("contains", none)))
  f_Bearable__is_known : ∃ fd, FunD K "is_known" "Bearable.is_known" (defArgs (inCls 52 4)) (defBody (inCls 52 4)) (defScope (inCls 52 4)) [] [] (He.fAd K ("Bearable", some "is_known")) fd
  f_are_apart : ∃ fd, FunD K "are_apart" "are_apart" (defArgs (top 53)) (defBody (top 53)) (defScope (top 53)) [] [] (He.fAd K ("are_apart", none)) fd
  f_is_duty : ∃ fd, FunD K "is_duty" "is_duty" (defArgs (top 58)) (defBody (top 58)) (defScope (top 58)) [] [] (He.fAd K ("is_duty", none)) fd
  f_answers_in : ∃ fd, FunD K "answers_in" "answers_in" (defArgs (top 60)) (defBody (top 60)) (defScope (top 60)) [] [] (He.fAd K ("answers_in", none)) fd
  st_Serves_doubts : SetS K mg "Serves" "doubts" ["doubts", "answers"]
  st_Serves_answers : SetS K mg "Serves" "answers" ["doubts", "answers"]
  f_Serves____init__ : ∃ fd, FunD K "__init__" "Serves.__init__" (defArgs (inCls 61 1)) (defBody (inCls 61 1)) (defScope (inCls 61 1)) [] [] (He.fAd K ("Serves", some "__init__")) fd
  fs_Serves_answers : FldS0 K mg "answers" "Serves"
  k_Serves : mg "Serves" = some (.ref (He.ga K "Serves"))
  an_Serves : Ans0 K mg [.ref (He.ga K "Serves")] tb_Serves to_Serves
  f_Serves____eq__ : ∃ fd, FunD K "__eq__" "Serves.__eq__" (defArgs (inCls 61 2)) (defBody (inCls 61 2)) (defScope (inCls 61 2)) [] [] (He.fAd K ("Serves", some "__eq__")) fd
  f_Serves__serves : ∃ fd, FunD K "serves" "Serves.serves" (defArgs (inCls 61 4)) (defBody (inCls 61 4)) (defScope (inCls 61 4)) [] [] (He.fAd K ("Serves", some "serves")) fd
  st_Breaks_plan : SetS K mg "Breaks" "plan" ["plan"]
  f_Breaks____init__ : ∃ fd, FunD K "__init__" "Breaks.__init__" (defArgs (inCls 62 1)) (defBody (inCls 62 1)) (defScope (inCls 62 1)) [] [] (He.fAd K ("Breaks", some "__init__")) fd
  fs_Breaks_plan : FldS0 K mg "plan" "Breaks"
  fd_Search_plan : FldD0 K mg "plan" "Search"
  k_Breaks : mg "Breaks" = some (.ref (He.ga K "Breaks"))
  an_Breaks : Ans0 K mg [.ref (He.ga K "Breaks")] tb_Breaks to_Breaks
  f_Breaks____eq__ : ∃ fd, FunD K "__eq__" "Breaks.__eq__" (defArgs (inCls 62 2)) (defBody (inCls 62 2)) (defScope (inCls 62 2)) [] [] (He.fAd K ("Breaks", some "__eq__")) fd
  g_answers_in : mg "answers_in" = some (.ref (He.fAd K ("answers_in", none)))
  f_Breaks__leads_down : ∃ fd, FunD K "leads_down" "Breaks.leads_down" (defArgs (inCls 62 4)) (defBody (inCls 62 4)) (defScope (inCls 62 4)) [] [] (He.fAd K ("Breaks", some "leads_down")) fd
  f_Search__ends_of : ∃ fd, FunD K "ends_of" "Search.ends_of" (defArgs (inCls 63 1)) (defBody (inCls 63 1)) (defScope (inCls 63 1)) [] [] (He.fAd K ("Search", some "ends_of")) fd
  f_Search__has_answer : ∃ fd, FunD K "has_answer" "Search.has_answer" (defArgs (inCls 63 3)) (defBody (inCls 63 3)) (defScope (inCls 63 3)) [] [] (He.fAd K ("Search", some "has_answer")) fd
  mk_Serves : Mk K (He.ga K "Serves") (He.fAd K ("Serves", some "__init__"))
  f_serving : ∃ fd, FunD K "serving" "serving" (defArgs (top 64)) (defBody (top 64)) (defScope (top 64)) [] [] (He.fAd K ("serving", none)) fd
  f_is_doubt : ∃ fd, FunD K "is_doubt" "is_doubt" (defArgs (top 22)) (defBody (top 22)) (defScope (top 22)) [] [] (He.fAd K ("is_doubt", none)) fd
  g_check_shelf : mg "check_shelf" = some (.ref (He.fAd K ("check_shelf", none)))
  g_is_doubt : mg "is_doubt" = some (.ref (He.fAd K ("is_doubt", none)))
  f_check_doubt : ∃ fd, FunD K "check_doubt" "check_doubt" (defArgs (top 24)) (defBody (top 24)) (defScope (top 24)) [] [] (He.fAd K ("check_doubt", none)) fd
  g_check_doubt : mg "check_doubt" = some (.ref (He.fAd K ("check_doubt", none)))
  f_safe : ∃ fd, FunD K "safe" "safe" (defArgs (top 31)) (defBody (top 31)) (defScope (top 31)) [] [] (He.fAd K ("safe", none)) fd
  f_after : ∃ fd, FunD K "after" "after" (defArgs (top 32)) (defBody (top 32)) (defScope (top 32)) [] [] (He.fAd K ("after", none)) fd
  g_reach_of : mg "reach_of" = some (.ref (He.fAd K ("reach_of", none)))
  lam_doubts : LamF K mg base ("doubts", none) "doubts.<locals>.<lambda>"
  f_doubts : ∃ fd, FunD K "doubts" "doubts" (defArgs (top 33)) (defBody (top 33)) (defScope (top 33)) [] [] (He.fAd K ("doubts", none)) fd
  g_check_aim : mg "check_aim" = some (.ref (He.fAd K ("check_aim", none)))
  sc_Way : SlX.SCls K (He.ga K "Way")
  m_Way_holds : Meth K (He.ga K "Way") "holds" (He.fAd K ("Way", some "holds"))
  f_Way__shows : ∃ fd, FunD K "shows" "Way.shows" (defArgs (inCls 41 3)) (defBody (inCls 41 3)) (defScope (inCls 41 3)) [] [] (He.fAd K ("Way", some "shows")) fd
  g_are_stuck : mg "are_stuck" = some (.ref (He.fAd K ("are_stuck", none)))
  f_Stuck__shows : ∃ fd, FunD K "shows" "Stuck.shows" (defArgs (inCls 42 4)) (defBody (inCls 42 4)) (defScope (inCls 42 4)) [] [] (He.fAd K ("Stuck", some "shows")) fd
  f_can_in : ∃ fd, FunD K "can_in" "can_in" (defArgs (top 45)) (defBody (top 45)) (defScope (top 45)) [] [] (He.fAd K ("can_in", none)) fd
  f_check_bearable : ∃ fd, FunD K "check_bearable" "check_bearable" (defArgs (top 54)) (defBody (top 54)) (defScope (top 54)) [] [] (He.fAd K ("check_bearable", none)) fd
  c_MAX_DUTIES : ∃ t, mg "MAX_DUTIES" = some (.int 3 t)
  an_list_tuple : Ans0 K mg [.type "list", .type "tuple"] tb_list_tuple to_list_tuple
  g_is_duty : mg "is_duty" = some (.ref (He.fAd K ("is_duty", none)))
  f_check_duties : ∃ fd, FunD K "check_duties" "check_duties" (defArgs (top 59)) (defBody (top 59)) (defScope (top 59)) [] [] (He.fAd K ("check_duties", none)) fd
  g_check_duties : mg "check_duties" = some (.ref (He.fAd K ("check_duties", none)))
  sc_Serves : SlX.SCls K (He.ga K "Serves")
  m_Serves_serves : Meth K (He.ga K "Serves") "serves" (He.fAd K ("Serves", some "serves"))
  f_Serves__shows : ∃ fd, FunD K "shows" "Serves.shows" (defArgs (inCls 61 3)) (defBody (inCls 61 3)) (defScope (inCls 61 3)) [] [] (He.fAd K ("Serves", some "shows")) fd
  sc_Breaks : SlX.SCls K (He.ga K "Breaks")
  m_Breaks_leads_down : Meth K (He.ga K "Breaks") "leads_down" (He.fAd K ("Breaks", some "leads_down"))
  f_Breaks__shows : ∃ fd, FunD K "shows" "Breaks.shows" (defArgs (inCls 62 3)) (defBody (inCls 62 3)) (defScope (inCls 62 3)) [] [] (He.fAd K ("Breaks", some "shows")) fd
  k_Search : mg "Search" = some (.ref (He.ga K "Search"))
  ic_Search : Cls K (He.ga K "Search")
  m_Search_has_answer : Meth K (He.ga K "Search") "has_answer" (He.fAd K ("Search", some "has_answer"))
  f_Search__lost : ∃ fd, FunD K "lost" "Search.lost" (defArgs (inCls 63 2)) (defBody (inCls 63 2)) (defScope (inCls 63 2)) [] [] (He.fAd K ("Search", some "lost")) fd
  mk_Shelf : Mk K (He.ga K "Shelf") (He.fAd K ("Shelf", some "__init__"))
  mk_Breaks : Mk K (He.ga K "Breaks") (He.fAd K ("Breaks", some "__init__"))
  m_Breaks_shows : Meth K (He.ga K "Breaks") "shows" (He.fAd K ("Breaks", some "shows"))
  m_Serves_shows : Meth K (He.ga K "Serves") "shows" (He.fAd K ("Serves", some "shows"))
  f__law_plans_right : ∃ fd, FunD K "_law_plans_right" "_law_plans_right" (defArgs (top 70)) (defBody (top 70)) (defScope (top 70)) [] [] (He.fAd K ("_law_plans_right", none)) fd
  mk_Way : Mk K (He.ga K "Way") (He.fAd K ("Way", some "__init__"))
  m_Way_shows : Meth K (He.ga K "Way") "shows" (He.fAd K ("Way", some "shows"))
  mk_Stuck : Mk K (He.ga K "Stuck") (He.fAd K ("Stuck", some "__init__"))
  m_Stuck___iter__ : Meth K (He.ga K "Stuck") "__iter__" (He.fAd K ("Stuck", some "__iter__"))
  mk_Bearable : Mk K (He.ga K "Bearable") (He.fAd K ("Bearable", some "__init__"))
  m_Serves___eq__ : Meth K (He.ga K "Serves") "__eq__" (He.fAd K ("Serves", some "__eq__"))
  nc_Serves : NeC K (He.ga K "Serves")
  m_Breaks___eq__ : Meth K (He.ga K "Breaks") "__eq__" (He.fAd K ("Breaks", some "__eq__"))
  nc_Breaks : NeC K (He.ga K "Breaks")
  m_Stuck___eq__ : Meth K (He.ga K "Stuck") "__eq__" (He.fAd K ("Stuck", some "__eq__"))
  nc_Stuck : NeC K (He.ga K "Stuck")
  m_Bearable___eq__ : Meth K (He.ga K "Bearable") "__eq__" (He.fAd K ("Bearable", some "__eq__"))
  f__law_levels_right : ∃ fd, FunD K "_law_levels_right" "_law_levels_right" (defArgs (top 71)) (defBody (top 71)) (defScope (top 71)) [] [] (He.fAd K ("_law_levels_right", none)) fd
  g_can_in : mg "can_in" = some (.ref (He.fAd K ("can_in", none)))
  f_numbers_for : ∃ fd, FunD K "numbers_for" "numbers_for" (defArgs (top 44)) (defBody (top 44)) (defScope (top 44)) [] [] (He.fAd K ("numbers_for", none)) fd
  g_numbers_for : mg "numbers_for" = some (.ref (He.fAd K ("numbers_for", none)))
  f_way_of : ∃ fd, FunD K "way_of" "way_of" (defArgs (top 48)) (defBody (top 48)) (defScope (top 48)) [] [] (He.fAd K ("way_of", none)) fd
  g_way_of : mg "way_of" = some (.ref (He.fAd K ("way_of", none)))
  f_way : ∃ fd, FunD K "way" "way" (defArgs (top 49)) (defBody (top 49)) (defScope (top 49)) [] [] (He.fAd K ("way", none)) fd
  g_way : mg "way" = some (.ref (He.fAd K ("way", none)))
  f_fewest : ∃ fd, FunD K "fewest" "fewest" (defArgs (top 50)) (defBody (top 50)) (defScope (top 50)) [] [] (He.fAd K ("fewest", none)) fd
  g_check_bearable : mg "check_bearable" = some (.ref (He.fAd K ("check_bearable", none)))
  g_are_apart : mg "are_apart" = some (.ref (He.fAd K ("are_apart", none)))
  sc_Stuck : SlX.SCls K (He.ga K "Stuck")
  m_Stuck_shows : Meth K (He.ga K "Stuck") "shows" (He.fAd K ("Stuck", some "shows"))
  g_all_doubts : mg "all_doubts" = some (.ref (He.fAd K ("all_doubts", none)))
  sc_Bearable : SlX.SCls K (He.ga K "Bearable")
  m_Bearable_is_known : Meth K (He.ga K "Bearable") "is_known" (He.fAd K ("Bearable", some "is_known"))
  f_Bearable__shows : ∃ fd, FunD K "shows" "Bearable.shows" (defArgs (inCls 52 3)) (defBody (inCls 52 3)) (defScope (inCls 52 3)) [] [] (He.fAd K ("Bearable", some "shows")) fd
  f_bearable : ∃ fd, FunD K "bearable" "bearable" (defArgs (top 55)) (defBody (top 55)) (defScope (top 55)) [] [] (He.fAd K ("bearable", none)) fd
  m_Search_ends_of : Meth K (He.ga K "Search") "ends_of" (He.fAd K ("Search", some "ends_of"))
  m_Search_lost : Meth K (He.ga K "Search") "lost" (He.fAd K ("Search", some "lost"))
  f_Search____init__ : ∃ fd, FunD K "__init__" "Search.__init__" (defArgs (inCls 63 0)) (defBody (inCls 63 0)) (defScope (inCls 63 0)) [] [] (He.fAd K ("Search", some "__init__")) fd
  mk_Search : Mk K (He.ga K "Search") (He.fAd K ("Search", some "__init__"))
  g_serving : mg "serving" = some (.ref (He.fAd K ("serving", none)))
  f_serve : ∃ fd, FunD K "serve" "serve" (defArgs (top 65)) (defBody (top 65)) (defScope (top 65)) [] [] (He.fAd K ("serve", none)) fd
  g_serve : mg "serve" = some (.ref (He.fAd K ("serve", none)))
  f_can_serve : ∃ fd, FunD K "can_serve" "can_serve" (defArgs (top 66)) (defBody (top 66)) (defScope (top 66)) [] [] (He.fAd K ("can_serve", none)) fd
  g_fewest : mg "fewest" = some (.ref (He.fAd K ("fewest", none)))
  g_after : mg "after" = some (.ref (He.fAd K ("after", none)))
  g_safe : mg "safe" = some (.ref (He.fAd K ("safe", none)))
  g_doubts : mg "doubts" = some (.ref (He.fAd K ("doubts", none)))
  g_bearable : mg "bearable" = some (.ref (He.fAd K ("bearable", none)))
  g_can_serve : mg "can_serve" = some (.ref (He.fAd K ("can_serve", none)))
  f__law_counters_right : ∃ fd, FunD K "_law_counters_right" "_law_counters_right" (defArgs (top 68)) (defBody (top 68)) (defScope (top 68)) [] [] (He.fAd K ("_law_counters_right", none)) fd
  m_Bearable_shows : Meth K (He.ga K "Bearable") "shows" (He.fAd K ("Bearable", some "shows"))
  f__law_harm_right : ∃ fd, FunD K "_law_harm_right" "_law_harm_right" (defArgs (top 69)) (defBody (top 69)) (defScope (top 69)) [] [] (He.fAd K ("_law_harm_right", none)) fd
  g__law_plans_right : mg "_law_plans_right" = some (.ref (He.fAd K ("_law_plans_right", none)))
  g__law_counters_right : mg "_law_counters_right" = some (.ref (He.fAd K ("_law_counters_right", none)))
  an_list : Ans0 K mg [.type "list"] tb_list to_list
  g__law_levels_right : mg "_law_levels_right" = some (.ref (He.fAd K ("_law_levels_right", none)))
  g__law_harm_right : mg "_law_harm_right" = some (.ref (He.fAd K ("_law_harm_right", none)))
  f_law : ∃ fd, FunD K "law" "law" (defArgs (top 72)) (defBody (top 72)) (defScope (top 72)) [] [] (He.fAd K ("law", none)) fd
section
variable {P : Program} {w : World} {K : PySem.W.Frag} {mg : Str → Option Value} {base : Heap}
-- is_integer
theorem sc_is_integer : FnScope ["value", "low", "high"] ["value", "low", "high"] (defScope (top 13)) := ⟨rfl, rfl, rfl, by decide +kernel, rfl, by decide +kernel, by decide +kernel⟩
def m_is_integer : S := sRet (mAndV (mU (isiA tb_int to_int) (mVar 0)) (mAndV (mU notD (mU (isiA tb_bool to_bool) (mVar 0))) (mChain leD leD (mVar 1) (mVar 0) (mVar 2))))
def f_is_integer : List D → Hd → Option (D × Hd) := runB 3 3 m_is_integer
theorem ok_is_integer (g : Fx K mg base) : Ok P w K mg base 1 (He.fAd K ("is_integer", none)) ["value", "low", "high"] f_is_integer :=
  ok_of (k := 0) g.f_is_integer sc_is_integer (fun _ _ _ _ _ _ us hl => match us, hl with | [_, _, _], _ => rfl) fun cdv A outer s H E hr => by
    have sc := sc_is_integer
    exact ls_one (ls_ret (le_and (le_isi (le_var (i := 0) rfl (vis_by rfl)) (pe_bltn (v := .ty "int") (u := .type "int") rfl (g.b_int) (by decide +kernel) rfl) (.ty _) (ans_of (g.an_int)) rfl (g.b_isinstance) (by decide +kernel)) (le_and (le_not (le_isi (le_var (i := 0) rfl (vis_by rfl)) (pe_bltn (v := .ty "bool") (u := .type "bool") rfl (g.b_bool) (by decide +kernel) rfl) (.ty _) (ans_of (g.an_bool)) rfl (g.b_isinstance) (by decide +kernel))) (le_one (le_chain (op_leD) (op_leD) (le_var (i := 1) rfl (vis_by rfl)) (le_var (i := 0) rfl (vis_by rfl)) (le_var (i := 2) rfl (vis_by rfl)))))))

-- is_entry
theorem sc_is_entry : FnScope ["value", "states"] ["value", "states"] (defScope (top 14)) := ⟨rfl, rfl, rfl, by decide +kernel, rfl, by decide +kernel, by decide +kernel⟩
def m_is_entry : S := sSeq (sIf (mTst (mB isD (mVar 0) (pur .non))) (sRet (pur (.bl true))) (sNil)) (sSeq (sIf (mOr (mNot (mTst (mU (isiA tb_tuple to_tuple) (mVar 0)))) (mTst (mB (eqA not) (mCall lenF (mCons (mVar 0) (pur []))) (pur (.int 2))))) (sRet (pur (.bl false))) (sNil)) (sRet (mAndV (mCall f_is_integer (mCons (mB ixA (mVar 0) (pur (.int 0))) (mCons (pur (.int 0)) (mCons (pur (.int 2)) (pur []))))) (mCall f_is_integer (mCons (mB ixA (mVar 0) (pur (.int 1))) (mCons (pur (.int 0)) (mCons (mB subD (mVar 1) (pur (.int 1))) (pur []))))))))
def f_is_entry : List D → Hd → Option (D × Hd) := runB 2 2 m_is_entry
theorem ok_is_entry (g : Fx K mg base) : Ok P w K mg base 2 (He.fAd K ("is_entry", none)) ["value", "states"] f_is_entry :=
  ok_of (k := 1) g.f_is_entry sc_is_entry (fun _ _ _ _ _ _ us hl => match us, hl with | [_, _], _ => rfl) fun cdv A outer s H E hr => by
    have sc := sc_is_entry
    exact ls_cons (ls_if (lt_cmp (op_isD) (le_var (i := 0) rfl (vis_by rfl)) (le_cN)) (ls_one (ls_ret (le_cB))) (ls_nil)) (ls_cons (ls_if (lt_w (lw_or (lt_not (lt_val (le_isi (le_var (i := 0) rfl (vis_by rfl)) (pe_bltn (v := .ty "tuple") (u := .type "tuple") rfl (g.b_tuple) (by decide +kernel) rfl) (.ty _) (ans_of (g.an_tuple)) rfl (g.b_isinstance) (by decide +kernel)))) (lw_or1 (lt_cmp (op_neA (ru5 hr)) (le_callB (call_lenF) rfl (g.b_len) (by decide +kernel) (la_cons (le_var (i := 0) rfl (vis_by rfl)) (la_nil))) (le_cI))))) (ls_one (ls_ret (le_cB))) (ls_nil)) (ls_one (ls_ret (le_and (le_callO (ok_is_integer g) (hr.mono (by omega)) rfl (g.g_is_integer) (la_cons (le_ix (ix_A (ru4 hr)) (le_var (i := 0) rfl (vis_by rfl)) (le_cI)) (la_cons (le_cI) (la_cons (le_gI rfl (g.c_MAX_REPLY)) (la_nil))))) (le_one (le_callO (ok_is_integer g) (hr.mono (by omega)) rfl (g.g_is_integer) (la_cons (le_ix (ix_A (ru4 hr)) (le_var (i := 0) rfl (vis_by rfl)) (le_cI)) (la_cons (le_cI) (la_cons (le_bin op_subD (le_var (i := 1) rfl (vis_by rfl)) (le_cI)) (la_nil))))))))))

-- is_edition
theorem sc_is_edition : FnScope ["value", "commands", "row", "entry"] ["value", "commands"] (defScope (top 15)) := ⟨rfl, rfl, rfl, by decide +kernel, rfl, by decide +kernel, by decide +kernel⟩
def m_is_edition : S := sSeq (sIf (mOr (mNot (mTst (mU (isiA tb_tuple to_tuple) (mVar 0)))) (mNot (mTst (mChain leD leD (pur (.int 1)) (mCall lenF (mCons (mVar 0) (pur []))) (pur (.int 3)))))) (sRet (pur (.bl false))) (sNil)) (sSeq (sFr 2000 (mSrc (mVar 0)) (gName 2) (sSeq (sIf (mOr (mNot (mTst (mU (isiA tb_tuple to_tuple) (mVar 2)))) (mTst (mB (eqA not) (mCall lenF (mCons (mVar 2) (pur []))) (mVar 1)))) (sRet (pur (.bl false))) (sNil)) (sIf (mNot (mTst (mCall allF (mCons (mLc 2000 [3] (mSrc (mVar 2)) (gName 3) (pur true) (mCall f_is_entry (mCons (mVar 3) (mCons (mCall lenF (mCons (mVar 0) (pur []))) (pur []))))) (pur []))))) (sRet (pur (.bl false))) (sNil)))) (sRet (pur (.bl true))))
def f_is_edition : List D → Hd → Option (D × Hd) := runB 2 4 m_is_edition
theorem ok_is_edition (g : Fx K mg base) : Ok P w K mg base 3 (He.fAd K ("is_edition", none)) ["value", "commands"] f_is_edition :=
  ok_of (k := 2) g.f_is_edition sc_is_edition (fun _ _ _ _ _ _ us hl => match us, hl with | [_, _], _ => rfl) fun cdv A outer s H E hr => by
    have sc := sc_is_edition
    exact ls_cons (ls_if (lt_w (lw_or (lt_not (lt_val (le_isi (le_var (i := 0) rfl (vis_by rfl)) (pe_bltn (v := .ty "tuple") (u := .type "tuple") rfl (g.b_tuple) (by decide +kernel) rfl) (.ty _) (ans_of (g.an_tuple)) rfl (g.b_isinstance) (by decide +kernel)))) (lw_or1 (lt_not (lt_chain (op_leD) (op_leD) (le_cI) (le_callB (call_lenF) rfl (g.b_len) (by decide +kernel) (la_cons (le_var (i := 0) rfl (vis_by rfl)) (la_nil))) (le_gI rfl (g.c_MAX_STATES))))))) (ls_one (ls_ret (le_cB))) (ls_nil)) (ls_cons (ls_for PassesOwn.never rfl (li_any (le_var (i := 0) rfl (vis_by rfl))) (lg_name sc.nd rfl (loc_by rfl)) (ls_cons (ls_if (lt_w (lw_or (lt_not (lt_val (le_isi (le_var (i := 2) rfl (vis_by rfl)) (pe_bltn (v := .ty "tuple") (u := .type "tuple") rfl (g.b_tuple) (by decide +kernel) rfl) (.ty _) (ans_of (g.an_tuple)) rfl (g.b_isinstance) (by decide +kernel)))) (lw_or1 (lt_cmp (op_neA (ru5 hr)) (le_callB (call_lenF) rfl (g.b_len) (by decide +kernel) (la_cons (le_var (i := 2) rfl (vis_by rfl)) (la_nil))) (le_var (i := 1) rfl (vis_by rfl)))))) (ls_one (ls_ret (le_cB))) (ls_nil)) (ls_one (ls_if (lt_not (lt_val (le_callB (call_allF rfl) rfl (g.b_all) (by decide +kernel) (la_cons (le_lc (own := [("entry", 3)]) rfl sc.nd (li_any (le_var (i := 2) rfl (vis_by rfl))) (blkOk_by (own := [("entry", 3)]) (by kernel_rfl)) (fun _ _ _ _ _ => lgc_name (by decide) sc.nd rfl (loc_by rfl)) (fun _ _ _ _ _ => lts_nil) (fun _ _ _ _ _ => le_callO (ok_is_entry g) (hr.mono (by omega)) rfl (g.g_is_entry) (la_cons (le_var (i := 3) rfl (vis_by rfl)) (la_cons (le_callB (call_lenF) rfl (g.b_len) (by decide +kernel) (la_cons (le_var (i := 0) rfl (vis_by rfl)) (la_nil))) (la_nil))))) (la_nil))))) (ls_one (ls_ret (le_cB))) (ls_nil))))) (ls_one (ls_ret (le_cB))))

-- commands_in
theorem sc_commands_in : FnScope ["value", "first"] ["value"] (defScope (top 16)) := ⟨rfl, rfl, rfl, by decide +kernel, rfl, by decide +kernel, by decide +kernel⟩
def m_commands_in : S := sSeq (sAsg (mB ixA (mVar 0) (pur (.int 0))) (gName 1)) (sSeq (sIf (mOr (mNot (mTst (mU (isiA tb_tuple to_tuple) (mVar 1)))) (mOr (mTst (mB (eqA id) (mVar 1) (mTup (pur [])))) (mNot (mTst (mU (isiA tb_tuple to_tuple) (mB ixA (mVar 1) (pur (.int 0)))))))) (sRet (pur (.int 0))) (sNil)) (sRet (mIf (mTst (mB leD (mCall lenF (mCons (mB ixA (mVar 1) (pur (.int 0))) (pur []))) (pur (.int 3)))) (mCall lenF (mCons (mB ixA (mVar 1) (pur (.int 0))) (pur []))) (pur (.int 0)))))
def f_commands_in : List D → Hd → Option (D × Hd) := runB 1 2 m_commands_in
theorem ok_commands_in (g : Fx K mg base) : Ok P w K mg base 1 (He.fAd K ("commands_in", none)) ["value"] f_commands_in :=
  ok_of (k := 0) g.f_commands_in sc_commands_in (fun _ _ _ _ _ _ us hl => match us, hl with | [_], _ => rfl) fun cdv A outer s H E hr => by
    have sc := sc_commands_in
    exact ls_cons (ls_set sc.nd rfl (loc_by rfl) (le_ix (ix_A (ru4 hr)) (le_var (i := 0) rfl (vis_by rfl)) (le_cI))) (ls_cons (ls_if (lt_w (lw_or (lt_not (lt_val (le_isi (le_var (i := 1) rfl (vis_by rfl)) (pe_bltn (v := .ty "tuple") (u := .type "tuple") rfl (g.b_tuple) (by decide +kernel) rfl) (.ty _) (ans_of (g.an_tuple)) rfl (g.b_isinstance) (by decide +kernel)))) (lw_or (lt_cmp (op_eqA (ru5 hr)) (le_var (i := 1) rfl (vis_by rfl)) (le_tup (la_nil))) (lw_or1 (lt_not (lt_val (le_isi (le_ix (ix_A (ru4 hr)) (le_var (i := 1) rfl (vis_by rfl)) (le_cI)) (pe_bltn (v := .ty "tuple") (u := .type "tuple") rfl (g.b_tuple) (by decide +kernel) rfl) (.ty _) (ans_of (g.an_tuple)) rfl (g.b_isinstance) (by decide +kernel)))))))) (ls_one (ls_ret (le_cI))) (ls_nil)) (ls_one (ls_ret (le_if (lt_cmp (op_leD) (le_callB (call_lenF) rfl (g.b_len) (by decide +kernel) (la_cons (le_ix (ix_A (ru4 hr)) (le_var (i := 1) rfl (vis_by rfl)) (le_cI)) (la_nil))) (le_gI rfl (g.c_MAX_COMMANDS))) (le_callB (call_lenF) rfl (g.b_len) (by decide +kernel) (la_cons (le_ix (ix_A (ru4 hr)) (le_var (i := 1) rfl (vis_by rfl)) (le_cI)) (la_nil))) (le_cI)))))

-- Shelf____init__
theorem sc_Shelf____init__ : FnScope ["self", "editions", "commands", "total", "index", "edition"] ["self", "editions"] (defScope (inCls 17 1)) := ⟨rfl, rfl, rfl, by decide +kernel, rfl, by decide +kernel, by decide +kernel⟩
def m_Shelf____init__ : S := sSeq (sIf (mOr (mNot (mTst (mU (isiA tb_tuple to_tuple) (mVar 1)))) (mNot (mTst (mChain leD leD (pur (.int 2)) (mCall lenF (mCons (mVar 1) (pur []))) (pur (.int 4)))))) (sNone) (sNil)) (sSeq (sAsg (mCall f_commands_in (mCons (mVar 1) (pur []))) (gName 2)) (sSeq (sAsg (pur (.int 0)) (gName 3)) (sSeq (sFr 2000 (mEnu (mCons (mVar 1) (pur []))) (gTup 2 (gCons (gName 4) (gCons (gName 5) (gNil)))) (sSeq (sIf (mOr (mTst (mB (eqA id) (mVar 2) (pur (.int 0)))) (mNot (mTst (mCall f_is_edition (mCons (mVar 5) (mCons (mVar 2) (pur []))))))) (sNone) (sNil)) (sSeq (sAug 3 subAdd (mCall lenF (mCons (mVar 5) (pur [])))) (sIf (mTst (mB gtD (mVar 3) (pur (.int 8)))) (sNone) (sNil))))) (sSeq (sAtt (setD "Shelf" "rows" ["rows", "many"]) (mVar 0) (mVar 1)) (sAtt (setD "Shelf" "many" ["rows", "many"]) (mVar 0) (mVar 2))))))
def f_Shelf____init__ : List D → Hd → Option (D × Hd) := runB 2 6 m_Shelf____init__
theorem ok_Shelf____init__ (g : Fx K mg base) : Ok P w K mg base 4 (He.fAd K ("Shelf", some "__init__")) ["self", "editions"] f_Shelf____init__ :=
  ok_of (k := 3) g.f_Shelf____init__ sc_Shelf____init__ (fun _ _ _ _ _ _ us hl => match us, hl with | [_, _], _ => rfl) fun cdv A outer s H E hr => by
    have sc := sc_Shelf____init__
    exact ls_cons (ls_if (lt_w (lw_or (lt_not (lt_val (le_isi (le_var (i := 1) rfl (vis_by rfl)) (pe_bltn (v := .ty "tuple") (u := .type "tuple") rfl (g.b_tuple) (by decide +kernel) rfl) (.ty _) (ans_of (g.an_tuple)) rfl (g.b_isinstance) (by decide +kernel)))) (lw_or1 (lt_not (lt_chain (op_leD) (op_leD) (le_cI) (le_callB (call_lenF) rfl (g.b_len) (by decide +kernel) (la_cons (le_var (i := 1) rfl (vis_by rfl)) (la_nil))) (le_gI rfl (g.c_MAX_EDITIONS))))))) (ls_one (ls_none)) (ls_nil)) (ls_cons (ls_set sc.nd rfl (loc_by rfl) (le_callO (ok_commands_in g) (hr.mono (by omega)) rfl (g.g_commands_in) (la_cons (le_var (i := 1) rfl (vis_by rfl)) (la_nil)))) (ls_cons (ls_set sc.nd rfl (loc_by rfl) (le_cI)) (ls_cons (ls_for PassesOwn.never rfl (li_enum rfl (g.b_enumerate) (la_cons (le_var (i := 1) rfl (vis_by rfl)) (la_nil))) (lg_tup rfl (lgs_cons (lg_name sc.nd rfl (loc_by rfl)) (lgs_cons (lg_name sc.nd rfl (loc_by rfl)) (lgs_nil)))) (ls_cons (ls_if (lt_w (lw_or (lt_cmp (op_eqA (ru5 hr)) (le_var (i := 2) rfl (vis_by rfl)) (le_cI)) (lw_or1 (lt_not (lt_val (le_callO (ok_is_edition g) (hr.mono (by omega)) rfl (g.g_is_edition) (la_cons (le_var (i := 5) rfl (vis_by rfl)) (la_cons (le_var (i := 2) rfl (vis_by rfl)) (la_nil))))))))) (ls_one (ls_none)) (ls_nil)) (ls_cons (ls_aug sc.nd rfl (loc_by rfl) (le_callB (call_lenF) rfl (g.b_len) (by decide +kernel) (la_cons (le_var (i := 5) rfl (vis_by rfl)) (la_nil))) iop_addD) (ls_one (ls_if (lt_cmp (op_gtD) (le_var (i := 3) rfl (vis_by rfl)) (le_gI rfl (g.c_MAX_PAIRS))) (ls_one (ls_none)) (ls_nil)))))) (ls_cons (ls_slot (g.st_Shelf_rows) (le_var (i := 0) rfl (vis_by rfl)) (le_var (i := 1) rfl (vis_by rfl))) (ls_one (ls_slot (g.st_Shelf_many) (le_var (i := 0) rfl (vis_by rfl)) (le_var (i := 2) rfl (vis_by rfl))))))))

-- Shelf____iter__
theorem sc_Shelf____iter__ : FnScope ["self"] ["self"] (defScope (inCls 17 2)) := ⟨rfl, rfl, rfl, by decide +kernel, rfl, by decide +kernel, by decide +kernel⟩
theorem oki_Shelf (g : Fx K mg base) : OkI P w K mg ["Shelf"] [] "rows" (He.fAd K ("Shelf", some "__iter__")) :=
  okI_of (F := g.f_Shelf____iter__) sc_Shelf____iter__ (fun _ _ _ _ _ _ us hl => match us, hl with | [_], _ => rfl) (fun c hc => by simp only [List.mem_cons, List.not_mem_nil, or_false] at hc; subst hc; exact g.fs_Shelf_rows) (fun c hc => by cases hc) (g.b_iter) (fun _ _ _ _ _ _ _ => rfl) (fun _ _ => vis_by rfl) (fun _ _ => rfl) (fun _ _ => rfl)

-- Shelf____len__
theorem sc_Shelf____len__ : FnScope ["self"] ["self"] (defScope (inCls 17 3)) := ⟨rfl, rfl, rfl, by decide +kernel, rfl, by decide +kernel, by decide +kernel⟩
def m_Shelf____len__ : S := sRet (mCall lenF (mCons (mU (attrD ["Shelf"] [] "rows") (mVar 0)) (pur [])))
def f_Shelf____len__ : List D → Hd → Option (D × Hd) := runB 1 1 m_Shelf____len__
theorem ok_Shelf____len__ (g : Fx K mg base) : Ok P w K mg base 1 (He.fAd K ("Shelf", some "__len__")) ["self"] f_Shelf____len__ :=
  ok_of (k := 0) g.f_Shelf____len__ sc_Shelf____len__ (fun _ _ _ _ _ _ us hl => match us, hl with | [_], _ => rfl) fun cdv A outer s H E hr => by
    have sc := sc_Shelf____len__
    exact ls_one (ls_ret (le_callB (call_lenF) rfl (g.b_len) (by decide +kernel) (la_cons (le_attr (fun c hc => by simp only [List.mem_cons, List.not_mem_nil, or_false] at hc; subst hc; exact g.fs_Shelf_rows) (fun c hc => by cases hc) (le_var (i := 0) rfl (vis_by rfl))) (la_nil))))

-- Shelf____eq__
theorem sc_Shelf____eq__ : FnScope ["self", "other"] ["self", "other"] (defScope (inCls 17 4)) := ⟨rfl, rfl, rfl, by decide +kernel, rfl, by decide +kernel, by decide +kernel⟩
def m_Shelf____eq__ : S := sRet (mAndV (mU (isiA tb_Shelf to_Shelf) (mVar 1)) (mB (eqA id) (mU (attrD ["Shelf"] [] "rows") (mVar 0)) (mU (attrD ["Shelf"] ["Search"] "rows") (mVar 1))))
def f_Shelf____eq__ : List D → Hd → Option (D × Hd) := runB 2 2 m_Shelf____eq__
theorem ok_Shelf____eq__ (g : Fx K mg base) : Ok P w K mg base 1 (He.fAd K ("Shelf", some "__eq__")) ["self", "other"] f_Shelf____eq__ :=
  ok_of (k := 0) g.f_Shelf____eq__ sc_Shelf____eq__ (fun _ _ _ _ _ _ us hl => match us, hl with | [_, _], _ => rfl) fun cdv A outer s H E hr => by
    have sc := sc_Shelf____eq__
    exact ls_one (ls_ret (le_and (le_isi (le_var (i := 1) rfl (vis_by rfl)) (pe_glob (v := .ref (He.ga K "Shelf")) rfl (g.k_Shelf) rfl) (.own _) (ans_of (g.an_Shelf)) rfl (g.b_isinstance) (by decide +kernel)) (le_one (le_cmp (op_eqA (ru5 hr)) (le_attr (fun c hc => by simp only [List.mem_cons, List.not_mem_nil, or_false] at hc; subst hc; exact g.fs_Shelf_rows) (fun c hc => by cases hc) (le_var (i := 0) rfl (vis_by rfl))) (le_attr (fun c hc => by simp only [List.mem_cons, List.not_mem_nil, or_false] at hc; subst hc; exact g.fs_Shelf_rows) (fun c hc => by simp only [List.mem_cons, List.not_mem_nil, or_false] at hc; subst hc; exact g.fd_Search_rows) (le_var (i := 1) rfl (vis_by rfl)))))))

-- Shelf__commands
theorem sc_Shelf__commands : FnScope ["self"] ["self"] (defScope (inCls 17 6)) := ⟨rfl, rfl, rfl, by decide +kernel, rfl, by decide +kernel, by decide +kernel⟩
def m_Shelf__commands : S := sRet (mU (attrD ["Shelf"] [] "many") (mVar 0))
def f_Shelf__commands : List D → Hd → Option (D × Hd) := runB 1 1 m_Shelf__commands
theorem ok_Shelf__commands (g : Fx K mg base) : Ok P w K mg base 1 (He.fAd K ("Shelf", some "commands")) ["self"] f_Shelf__commands :=
  ok_of (k := 0) g.f_Shelf__commands sc_Shelf__commands (fun _ _ _ _ _ _ us hl => match us, hl with | [_], _ => rfl) fun cdv A outer s H E hr => by
    have sc := sc_Shelf__commands
    exact ls_one (ls_ret (le_attr (fun c hc => by simp only [List.mem_cons, List.not_mem_nil, or_false] at hc; subst hc; exact g.fs_Shelf_many) (fun c hc => by cases hc) (le_var (i := 0) rfl (vis_by rfl))))

-- check_shelf
theorem sc_check_shelf : FnScope ["shelf"] ["shelf"] (defScope (top 18)) := ⟨rfl, rfl, rfl, by decide +kernel, rfl, by decide +kernel, by decide +kernel⟩
def m_check_shelf : S := sIf (mNot (mTst (mU (isiA tb_Shelf to_Shelf) (mVar 0)))) (sNone) (sNil)
def f_check_shelf : List D → Hd → Option (D × Hd) := runB 1 1 m_check_shelf
theorem ok_check_shelf (g : Fx K mg base) : Ok P w K mg base 1 (He.fAd K ("check_shelf", none)) ["shelf"] f_check_shelf :=
  ok_of (k := 0) g.f_check_shelf sc_check_shelf (fun _ _ _ _ _ _ us hl => match us, hl with | [_], _ => rfl) fun cdv A outer s H E hr => by
    have sc := sc_check_shelf
    exact ls_one (ls_if (lt_not (lt_val (le_isi (le_var (i := 0) rfl (vis_by rfl)) (pe_glob (v := .ref (He.ga K "Shelf")) rfl (g.k_Shelf) rfl) (.own _) (ans_of (g.an_Shelf)) rfl (g.b_isinstance) (by decide +kernel)))) (ls_one (ls_none)) (ls_nil))

-- pairs_of
theorem sc_pairs_of : FnScope ["shelf", "edition", "rows", "state"] ["shelf"] (defScope (top 19)) := ⟨rfl, rfl, rfl, by decide +kernel, rfl, by decide +kernel, by decide +kernel⟩
def m_pairs_of : S := sRet (mLc2 2000 2000 [1, 2, 3] (mEnuO ["Shelf"] [] "rows" (mVar 0)) (gTup 2 (gCons (gName 1) (gCons (gName 2) (gNil)))) (pur true) ⟨mRng (mCons (mCall lenF (mCons (mVar 2) (pur []))) (pur [])), gName 3, pur true, [3]⟩ (mTup (mCons (mVar 1) (mCons (mVar 3) (pur [])))))
def f_pairs_of : List D → Hd → Option (D × Hd) := runB 1 4 m_pairs_of
theorem ok_pairs_of (g : Fx K mg base) : Ok P w K mg base 4 (He.fAd K ("pairs_of", none)) ["shelf"] f_pairs_of :=
  ok_of (k := 3) g.f_pairs_of sc_pairs_of (fun _ _ _ _ _ _ us hl => match us, hl with | [_], _ => rfl) fun cdv A outer s H E hr => by
    have sc := sc_pairs_of
    exact ls_one (ls_ret (le_lc2 (own := [("edition", 1), ("rows", 2), ("state", 3)]) rfl sc.nd (li_enumO ⟨oki_Shelf g, (fun c hc => by simp only [List.mem_cons, List.not_mem_nil, or_false] at hc; subst hc; exact ⟨_, g.k_Shelf, g.m_Shelf___iter__⟩), (fun c hc => by cases hc)⟩ (hr.mono (by omega)) rfl (g.b_enumerate) (le_var (i := 0) rfl (vis_by rfl)) (.inl ⟨_, _, _, rfl⟩)) (blkOk_by (own := [("edition", 1), ("rows", 2), ("state", 3)]) (by kernel_rfl)) (by decide) (fun _ _ _ _ _ => lgc_tup rfl (lgcs_cons (lgc_name (by decide) sc.nd rfl (loc_by rfl)) (lgcs_cons (lgc_name (by decide) sc.nd rfl (loc_by rfl)) (lgcs_nil)))) (fun _ _ _ _ _ => lts_nil) (fun _ _ _ _ _ => li_range rfl (g.b_range) (la_cons (le_callB (call_lenF) rfl (g.b_len) (by decide +kernel) (la_cons (le_var (i := 2) rfl (vis_by rfl)) (la_nil))) (la_nil))) (fun _ _ _ _ _ => lgc_name (by decide) sc.nd rfl (loc_by rfl)) (fun _ _ _ _ _ => lts_nil) (fun _ _ _ _ _ => le_tup (la_cons (le_var (i := 1) rfl (vis_by rfl)) (la_cons (le_var (i := 3) rfl (vis_by rfl)) (la_nil))))))

-- entry_at
theorem sc_entry_at : FnScope ["shelf", "pair", "command"] ["shelf", "pair", "command"] (defScope (top 20)) := ⟨rfl, rfl, rfl, by decide +kernel, rfl, by decide +kernel, by decide +kernel⟩
def m_entry_at : S := sRet (mB ixA (mB ixA (mB ixA (mU (attrD ["Shelf"] ["Search"] "rows") (mVar 0)) (mB ixA (mVar 1) (pur (.int 0)))) (mB ixA (mVar 1) (pur (.int 1)))) (mVar 2))
def f_entry_at : List D → Hd → Option (D × Hd) := runB 3 3 m_entry_at
theorem ok_entry_at (g : Fx K mg base) : Ok P w K mg base 1 (He.fAd K ("entry_at", none)) ["shelf", "pair", "command"] f_entry_at :=
  ok_of (k := 0) g.f_entry_at sc_entry_at (fun _ _ _ _ _ _ us hl => match us, hl with | [_, _, _], _ => rfl) fun cdv A outer s H E hr => by
    have sc := sc_entry_at
    exact ls_one (ls_ret (le_ix (ix_A (ru4 hr)) (le_ix (ix_A (ru4 hr)) (le_ix (ix_A (ru4 hr)) (le_attr (fun c hc => by simp only [List.mem_cons, List.not_mem_nil, or_false] at hc; subst hc; exact g.fs_Shelf_rows) (fun c hc => by simp only [List.mem_cons, List.not_mem_nil, or_false] at hc; subst hc; exact g.fd_Search_rows) (le_var (i := 0) rfl (vis_by rfl))) (le_ix (ix_A (ru4 hr)) (le_var (i := 1) rfl (vis_by rfl)) (le_cI))) (le_ix (ix_A (ru4 hr)) (le_var (i := 1) rfl (vis_by rfl)) (le_cI))) (le_var (i := 2) rfl (vis_by rfl))))

-- is_pair
theorem sc_is_pair : FnScope ["shelf", "value"] ["shelf", "value"] (defScope (top 23)) := ⟨rfl, rfl, rfl, by decide +kernel, rfl, by decide +kernel, by decide +kernel⟩
def m_is_pair : S := sSeq (sIf (mOr (mNot (mTst (mU (isiA tb_tuple to_tuple) (mVar 1)))) (mOr (mTst (mB (eqA not) (mCall lenF (mCons (mVar 1) (pur []))) (pur (.int 2)))) (mNot (mTst (mCall f_is_integer (mCons (mB ixA (mVar 1) (pur (.int 0))) (mCons (pur (.int 0)) (mCons (mB subD (mCall (lenO "Shelf" f_Shelf____len__) (mCons (mVar 0) (pur []))) (pur (.int 1))) (pur []))))))))) (sRet (pur (.bl false))) (sNil)) (sRet (mCall f_is_integer (mCons (mB ixA (mVar 1) (pur (.int 1))) (mCons (pur (.int 0)) (mCons (mB subD (mCall lenF (mCons (mB ixA (mU (attrD ["Shelf"] ["Search"] "rows") (mVar 0)) (mB ixA (mVar 1) (pur (.int 0)))) (pur []))) (pur (.int 1))) (pur []))))))
def f_is_pair : List D → Hd → Option (D × Hd) := runB 2 2 m_is_pair
theorem ok_is_pair (g : Fx K mg base) : Ok P w K mg base 3 (He.fAd K ("is_pair", none)) ["shelf", "value"] f_is_pair :=
  ok_of (k := 2) g.f_is_pair sc_is_pair (fun _ _ _ _ _ _ us hl => match us, hl with | [_, _], _ => rfl) fun cdv A outer s H E hr => by
    have sc := sc_is_pair
    exact ls_cons (ls_if (lt_w (lw_or (lt_not (lt_val (le_isi (le_var (i := 1) rfl (vis_by rfl)) (pe_bltn (v := .ty "tuple") (u := .type "tuple") rfl (g.b_tuple) (by decide +kernel) rfl) (.ty _) (ans_of (g.an_tuple)) rfl (g.b_isinstance) (by decide +kernel)))) (lw_or (lt_cmp (op_neA (ru5 hr)) (le_callB (call_lenF) rfl (g.b_len) (by decide +kernel) (la_cons (le_var (i := 1) rfl (vis_by rfl)) (la_nil))) (le_cI)) (lw_or1 (lt_not (lt_val (le_callO (ok_is_integer g) (hr.mono (by omega)) rfl (g.g_is_integer) (la_cons (le_ix (ix_A (ru4 hr)) (le_var (i := 1) rfl (vis_by rfl)) (le_cI)) (la_cons (le_cI) (la_cons (le_bin op_subD (le_callB (call_lenO (g.k_Shelf) (g.m_Shelf___len__) (ok_Shelf____len__ g) (hr.mono (by omega))) rfl (g.b_len) (by decide +kernel) (la_cons (le_var (i := 0) rfl (vis_by rfl)) (la_nil))) (le_cI)) (la_nil))))))))))) (ls_one (ls_ret (le_cB))) (ls_nil)) (ls_one (ls_ret (le_callO (ok_is_integer g) (hr.mono (by omega)) rfl (g.g_is_integer) (la_cons (le_ix (ix_A (ru4 hr)) (le_var (i := 1) rfl (vis_by rfl)) (le_cI)) (la_cons (le_cI) (la_cons (le_bin op_subD (le_callB (call_lenF) rfl (g.b_len) (by decide +kernel) (la_cons (le_ix (ix_A (ru4 hr)) (le_attr (fun c hc => by simp only [List.mem_cons, List.not_mem_nil, or_false] at hc; subst hc; exact g.fs_Shelf_rows) (fun c hc => by simp only [List.mem_cons, List.not_mem_nil, or_false] at hc; subst hc; exact g.fd_Search_rows) (le_var (i := 0) rfl (vis_by rfl))) (le_ix (ix_A (ru4 hr)) (le_var (i := 1) rfl (vis_by rfl)) (le_cI))) (la_nil))) (le_cI)) (la_nil)))))))

-- is_safe
theorem sc_is_safe : FnScope ["shelf", "doubt", "command", "pair"] ["shelf", "doubt", "command"] (defScope (top 25)) := ⟨rfl, rfl, rfl, by decide +kernel, rfl, by decide +kernel, by decide +kernel⟩
def m_is_safe : S := sRet (mCall allF (mCons (mLc 2000 [3] (mSrc (mVar 1)) (gName 3) (pur true) (mB isntD (mCall f_entry_at (mCons (mVar 0) (mCons (mVar 3) (mCons (mVar 2) (pur []))))) (pur .non))) (pur [])))
def f_is_safe : List D → Hd → Option (D × Hd) := runB 3 4 m_is_safe
theorem ok_is_safe (g : Fx K mg base) : Ok P w K mg base 2 (He.fAd K ("is_safe", none)) ["shelf", "doubt", "command"] f_is_safe :=
  ok_of (k := 1) g.f_is_safe sc_is_safe (fun _ _ _ _ _ _ us hl => match us, hl with | [_, _, _], _ => rfl) fun cdv A outer s H E hr => by
    have sc := sc_is_safe
    exact ls_one (ls_ret (le_callB (call_allF rfl) rfl (g.b_all) (by decide +kernel) (la_cons (le_lc (own := [("pair", 3)]) rfl sc.nd (li_any (le_var (i := 1) rfl (vis_by rfl))) (blkOk_by (own := [("pair", 3)]) (by kernel_rfl)) (fun _ _ _ _ _ => lgc_name (by decide) sc.nd rfl (loc_by rfl)) (fun _ _ _ _ _ => lts_nil) (fun _ _ _ _ _ => le_cmp (op_isntD) (le_callO (ok_entry_at g) (hr.mono (by omega)) rfl (g.g_entry_at) (la_cons (le_var (i := 0) rfl (vis_by rfl)) (la_cons (le_var (i := 3) rfl (vis_by rfl)) (la_cons (le_var (i := 2) rfl (vis_by rfl)) (la_nil))))) (le_cN))) (la_nil))))

-- safe_in
theorem sc_safe_in : FnScope ["shelf", "doubt", "command"] ["shelf", "doubt"] (defScope (top 26)) := ⟨rfl, rfl, rfl, by decide +kernel, rfl, by decide +kernel, by decide +kernel⟩
def m_safe_in : S := sRet (mLc 2000 [2] (mRng (mCons (mU (attrD ["Shelf"] [] "many") (mVar 0)) (pur []))) (gName 2) (mTst (mCall f_is_safe (mCons (mVar 0) (mCons (mVar 1) (mCons (mVar 2) (pur [])))))) (mVar 2))
def f_safe_in : List D → Hd → Option (D × Hd) := runB 2 3 m_safe_in
theorem ok_safe_in (g : Fx K mg base) : Ok P w K mg base 3 (He.fAd K ("safe_in", none)) ["shelf", "doubt"] f_safe_in :=
  ok_of (k := 2) g.f_safe_in sc_safe_in (fun _ _ _ _ _ _ us hl => match us, hl with | [_, _], _ => rfl) fun cdv A outer s H E hr => by
    have sc := sc_safe_in
    exact ls_one (ls_ret (le_lc (own := [("command", 2)]) rfl sc.nd (li_range rfl (g.b_range) (la_cons (le_attr (fun c hc => by simp only [List.mem_cons, List.not_mem_nil, or_false] at hc; subst hc; exact g.fs_Shelf_many) (fun c hc => by cases hc) (le_var (i := 0) rfl (vis_by rfl))) (la_nil))) (blkOk_by (own := [("command", 2)]) (by kernel_rfl)) (fun _ _ _ _ _ => lgc_name (by decide) sc.nd rfl (loc_by rfl)) (fun _ _ _ _ _ => lts_one (lt_val (le_callO (ok_is_safe g) (hr.mono (by omega)) rfl (g.g_is_safe) (la_cons (le_var (i := 0) rfl (vis_by rfl)) (la_cons (le_var (i := 1) rfl (vis_by rfl)) (la_cons (le_var (i := 2) rfl (vis_by rfl)) (la_nil))))))) (fun _ _ _ _ _ => le_var (i := 2) rfl (vis_by rfl))))

-- parts_after
theorem sc_parts_after : FnScope ["shelf", "doubt", "command", "found", "pair", "reply", "state"] ["shelf", "doubt", "command"] (defScope (top 27)) := ⟨rfl, rfl, rfl, by decide +kernel, rfl, by decide +kernel, by decide +kernel⟩
def m_parts_after : S := sSeq (sAsg (mDic0) (gName 3)) (sSeq (sFr 2000 (mSrc (mVar 1)) (gName 4) (sSeq (sAsg (mCall f_entry_at (mCons (mVar 0) (mCons (mVar 4) (mCons (mVar 2) (pur []))))) (gTup 2 (gCons (gName 5) (gCons (gName 6) (gNil))))) (sAsg (pur (.bl true)) (gSubD (mMeth "dict" setdM (mVar 3) (mCons (mVar 5) (mCons (mDic0) (pur [])))) (mTup (mCons (mB ixA (mVar 4) (pur (.int 0))) (mCons (mVar 6) (pur [])))))))) (sRet (mDc 2000 [5] (mSrc (mCall sortF (mCons (mVar 3) (pur [])))) (gName 5) (pur true) (mVar 5) (mCall tupleF (mCons (mCall sortF (mCons (mB ixA (mVar 3) (mVar 5)) (pur []))) (pur []))))))
def f_parts_after : List D → Hd → Option (D × Hd) := runB 3 7 m_parts_after
theorem ok_parts_after (g : Fx K mg base) : Ok P w K mg base 2 (He.fAd K ("parts_after", none)) ["shelf", "doubt", "command"] f_parts_after :=
  ok_of (k := 1) g.f_parts_after sc_parts_after (fun _ _ _ _ _ _ us hl => match us, hl with | [_, _, _], _ => rfl) fun cdv A outer s H E hr => by
    have sc := sc_parts_after
    exact ls_cons (ls_set sc.nd rfl (loc_by rfl) (le_dic0)) (ls_cons (ls_for PassesOwn.never rfl (li_any (le_var (i := 1) rfl (vis_by rfl))) (lg_name sc.nd rfl (loc_by rfl)) (ls_cons (ls_asg (le_callO (ok_entry_at g) (hr.mono (by omega)) rfl (g.g_entry_at) (la_cons (le_var (i := 0) rfl (vis_by rfl)) (la_cons (le_var (i := 4) rfl (vis_by rfl)) (la_cons (le_var (i := 2) rfl (vis_by rfl)) (la_nil))))) (lg_tup rfl (lgs_cons (lg_name sc.nd rfl (loc_by rfl)) (lgs_cons (lg_name sc.nd rfl (loc_by rfl)) (lgs_nil))))) (ls_one (ls_asg (le_cB) (lg_sub (ru4 hr) (le_bm PySem.F.plainAttrs_dict PySem.F.slot_dict_setdefault PySem.F.type_dict_setdefault (mt_setdM (ru4 hr)) (le_var (i := 3) rfl (vis_by rfl)) (la_cons (le_var (i := 5) rfl (vis_by rfl)) (la_cons (le_dic0) (la_nil)))) (le_tup (la_cons (le_ix (ix_A (ru4 hr)) (le_var (i := 4) rfl (vis_by rfl)) (le_cI)) (la_cons (le_var (i := 6) rfl (vis_by rfl)) (la_nil))))))))) (ls_one (ls_ret (le_dc (own := [("reply", 5)]) (ru4 hr) rfl sc.nd (li_any (le_callB (call_sortF rfl (ru4 hr)) rfl (g.b_sorted) (by decide +kernel) (la_cons (le_var (i := 3) rfl (vis_by rfl)) (la_nil)))) (blkOk_by (own := [("reply", 5)]) (by kernel_rfl)) (fun _ _ _ _ _ => lgc_name (by decide) sc.nd rfl (loc_by rfl)) (fun _ _ _ _ _ => lts_nil) (fun _ _ _ _ _ => le_var (i := 5) rfl (vis_by rfl)) (fun _ _ _ _ _ => le_callTy (call_tupleF) rfl (g.b_tuple) (by decide +kernel) (la_cons (le_callB (call_sortF rfl (ru4 hr)) rfl (g.b_sorted) (by decide +kernel) (la_cons (le_ix (ix_A (ru4 hr)) (le_var (i := 3) rfl (vis_by rfl)) (le_var (i := 5) rfl (vis_by rfl))) (la_nil))) (la_nil)))))))

-- is_told
theorem sc_is_told : FnScope ["doubt", "edition", "state"] ["doubt"] (defScope (top 28)) := ⟨rfl, rfl, rfl, by decide +kernel, rfl, by decide +kernel, by decide +kernel⟩
def m_is_told : S := sRet (mB (eqA id) (mCall lenF (mCons (mDc 2000 [1, 2] (mSrc (mVar 0)) (gTup 2 (gCons (gName 1) (gCons (gName 2) (gNil)))) (pur true) (mVar 1) (pur (.bl true))) (pur []))) (pur (.int 1)))
def f_is_told : List D → Hd → Option (D × Hd) := runB 1 3 m_is_told
theorem ok_is_told (g : Fx K mg base) : Ok P w K mg base 1 (He.fAd K ("is_told", none)) ["doubt"] f_is_told :=
  ok_of (k := 0) g.f_is_told sc_is_told (fun _ _ _ _ _ _ us hl => match us, hl with | [_], _ => rfl) fun cdv A outer s H E hr => by
    have sc := sc_is_told
    exact ls_one (ls_ret (le_cmp (op_eqA (ru5 hr)) (le_callB (call_lenF) rfl (g.b_len) (by decide +kernel) (la_cons (le_dc (own := [("edition", 1), ("state", 2)]) (ru4 hr) rfl sc.nd (li_any (le_var (i := 0) rfl (vis_by rfl))) (blkOk_by (own := [("edition", 1), ("state", 2)]) (by kernel_rfl)) (fun _ _ _ _ _ => lgc_tup rfl (lgcs_cons (lgc_name (by decide) sc.nd rfl (loc_by rfl)) (lgcs_cons (lgc_name (by decide) sc.nd rfl (loc_by rfl)) (lgcs_nil)))) (fun _ _ _ _ _ => lts_nil) (fun _ _ _ _ _ => le_var (i := 1) rfl (vis_by rfl)) (fun _ _ _ _ _ => le_cB)) (la_nil))) (le_cI)))

-- all_doubts
theorem sc_all_doubts : FnScope ["shelf", "found", "pair", "some"] ["shelf"] (defScope (top 29)) := ⟨rfl, rfl, rfl, by decide +kernel, rfl, by decide +kernel, by decide +kernel⟩
def m_all_doubts : S := sSeq (sAsg (mLst (mCons (mTup (pur [])) (pur []))) (gName 1)) (sSeq (sFr 2000 (mSrc (mCall f_pairs_of (mCons (mVar 0) (pur [])))) (gName 2) (sExp (mMeth "list" extM (mVar 1) (mCons (mLc 2000 [3] (mSrc (mVar 1)) (gName 3) (pur true) (mTup (mStar (mVar 3) (mCons (mVar 2) (pur []))))) (pur []))))) (sRet (mSortL (mLc 2000 [3] (mSrc (mVar 1)) (gName 3) (mTst (mB (eqA not) (mVar 3) (mTup (pur [])))) (mVar 3)))))
def f_all_doubts : List D → Hd → Option (D × Hd) := runB 1 4 m_all_doubts
theorem ok_all_doubts (g : Fx K mg base) : Ok P w K mg base 5 (He.fAd K ("all_doubts", none)) ["shelf"] f_all_doubts :=
  ok_ofL (k := 4) g.f_all_doubts sc_all_doubts (fun _ _ _ _ _ _ us hl => match us, hl with | [_], _ => rfl) fun cdv A outer s H E hcd hr => by
    have sc := sc_all_doubts
    exact ls_cons (ls_set sc.nd rfl (loc_by rfl) (le_lst (la_cons (le_tup (la_nil)) (la_nil)))) (ls_cons (ls_for PassesOwn.never rfl (li_any (le_callO (ok_pairs_of g) (hr.mono (by omega)) rfl (g.g_pairs_of) (la_cons (le_var (i := 0) rfl (vis_by rfl)) (la_nil)))) (lg_name sc.nd rfl (loc_by rfl)) (ls_one (ls_exp (le_bm PySem.F.plainAttrs_list PySem.F.slot_list_extend PySem.F.type_list_extend (mt_extM) (le_var (i := 1) rfl (vis_by rfl)) (la_cons (le_lc (own := [("some", 3)]) rfl sc.nd (li_any (le_var (i := 1) rfl (vis_by rfl))) (blkOk_by (own := [("some", 3)]) (by kernel_rfl)) (fun _ _ _ _ _ => lgc_name (by decide) sc.nd rfl (loc_by rfl)) (fun _ _ _ _ _ => lts_nil) (fun _ _ _ _ _ => le_tup (la_star (le_var (i := 3) rfl (vis_by rfl)) (la_cons (le_var (i := 2) rfl (vis_by rfl)) (la_nil))))) (la_nil)))))) (ls_one (ls_ret (le_sortL rfl (rdp hr) (ru4 hr) (lamM_of (p := ("all_doubts", none)) hcd (g.lam_all_doubts)) (le_lc (own := [("some", 3)]) rfl sc.nd (li_any (le_var (i := 1) rfl (vis_by rfl))) (blkOk_by (own := [("some", 3)]) (by kernel_rfl)) (fun _ _ _ _ _ => lgc_name (by decide) sc.nd rfl (loc_by rfl)) (fun _ _ _ _ _ => lts_one (lt_cmp (op_neA (ru5 hr)) (le_var (i := 3) rfl (vis_by rfl)) (le_tup (la_nil)))) (fun _ _ _ _ _ => le_var (i := 3) rfl (vis_by rfl))) rfl (g.b_sorted) (by decide +kernel) (g.b_len) rfl rfl rfl (by decide +kernel) (by decide +kernel) rfl rfl rfl (by intros; rfl)))))

-- reach_of
theorem sc_reach_of : FnScope ["shelf", "doubt", "found", "waiting", "here", "command", "later"] ["shelf", "doubt"] (defScope (top 30)) := ⟨rfl, rfl, rfl, by decide +kernel, rfl, by decide +kernel, by decide +kernel⟩
def m_reach_of : S := sSeq (sPar 2 3 (mCons (mDisp (mPcons (mVar 1) (pur (.bl true)) (pur []))) (mCons (mLst (mCons (mVar 1) (pur []))) (pur [])))) (sSeq (sWhile (mTst (mB (eqA not) (mVar 3) (mLst (pur [])))) (sSeq (sAsg (mMeth "list" pop0M (mVar 3) (mCons (pur (.int 0)) (pur []))) (gName 4)) (sFr 2000 (mSrc (mCall f_safe_in (mCons (mVar 0) (mCons (mVar 4) (pur []))))) (gName 5) (sFr 2000 (mDsr .val (mCall f_parts_after (mCons (mVar 0) (mCons (mVar 4) (mCons (mVar 5) (pur [])))))) (gName 6) (sIf (mTst (mB (inA not) (mVar 6) (mVar 2))) (sSeq (sAsg (pur (.bl true)) (gSubD (mVar 2) (mVar 6))) (sExp (mMeth "list" appM (mVar 3) (mCons (mVar 6) (pur []))))) (sNil))))) 2000) (sRet (mCall listA (mCons (mVar 2) (pur [])))))
def f_reach_of : List D → Hd → Option (D × Hd) := runB 2 7 m_reach_of
theorem ok_reach_of (g : Fx K mg base) : Ok P w K mg base 4 (He.fAd K ("reach_of", none)) ["shelf", "doubt"] f_reach_of :=
  ok_of (k := 3) g.f_reach_of sc_reach_of (fun _ _ _ _ _ _ us hl => match us, hl with | [_, _], _ => rfl) fun cdv A outer s H E hr => by
    have sc := sc_reach_of
    exact ls_cons (ls_par rfl sc.nd rfl rfl (by decide) rfl rfl (la_cons (le_disp (ru4 hr) (lp_cons (le_var (i := 1) rfl (vis_by rfl)) (le_cB) (lp_nil))) (la_cons (le_lst (la_cons (le_var (i := 1) rfl (vis_by rfl)) (la_nil))) (la_nil))) rfl) (ls_cons (ls_while PassesOwn.never (lt_cmp (op_neA (ru5 hr)) (le_var (i := 3) rfl (vis_by rfl)) (le_lst (la_nil))) (ls_cons (ls_set sc.nd rfl (loc_by rfl) (le_bm PySem.F.plainAttrs_list PySem.F.slot_list_pop PySem.F.type_list_pop (mt_pop0M) (le_var (i := 3) rfl (vis_by rfl)) (la_cons (le_cI) (la_nil)))) (ls_one (ls_for PassesOwn.never rfl (li_any (le_callO (ok_safe_in g) (hr.mono (by omega)) rfl (g.g_safe_in) (la_cons (le_var (i := 0) rfl (vis_by rfl)) (la_cons (le_var (i := 4) rfl (vis_by rfl)) (la_nil))))) (lg_name sc.nd rfl (loc_by rfl)) (ls_one (ls_for PassesOwn.never rfl (li_values (le_callO (ok_parts_after g) (hr.mono (by omega)) rfl (g.g_parts_after) (la_cons (le_var (i := 0) rfl (vis_by rfl)) (la_cons (le_var (i := 4) rfl (vis_by rfl)) (la_cons (le_var (i := 5) rfl (vis_by rfl)) (la_nil)))))) (lg_name sc.nd rfl (loc_by rfl)) (ls_one (ls_if (lt_cmp (op_notInA (ru5 hr)) (le_var (i := 6) rfl (vis_by rfl)) (le_var (i := 2) rfl (vis_by rfl))) (ls_cons (ls_asg (le_cB) (lg_sub (ru4 hr) (le_var (i := 2) rfl (vis_by rfl)) (le_var (i := 6) rfl (vis_by rfl)))) (ls_one (ls_exp (le_bm PySem.F.plainAttrs_list PySem.F.slot_list_append PySem.F.type_list_append (mt_appM) (le_var (i := 3) rfl (vis_by rfl)) (la_cons (le_var (i := 6) rfl (vis_by rfl)) (la_nil)))))) (ls_nil))))))))) (ls_one (ls_ret (le_callTy (call_listA rfl) rfl (g.b_list) (by decide +kernel) (la_cons (le_var (i := 2) rfl (vis_by rfl)) (la_nil))))))

-- is_aim
theorem sc_is_aim : FnScope ["shelf", "value", "pair", "one", "other"] ["shelf", "value"] (defScope (top 36)) := ⟨rfl, rfl, rfl, by decide +kernel, rfl, by decide +kernel, by decide +kernel⟩
def m_is_aim : S := sSeq (sIf (mTst (mU (isiA tb_str to_str) (mVar 1))) (sRet (mB (eqA id) (mVar 1) (pur (.str "tell")))) (sNil)) (sSeq (sIf (mOr (mNot (mTst (mU (isiA tb_tuple to_tuple) (mVar 1)))) (mNot (mTst (mCall allF (mCons (mLc 2000 [2] (mSrc (mVar 1)) (gName 2) (pur true) (mCall f_is_pair (mCons (mVar 0) (mCons (mVar 2) (pur []))))) (pur [])))))) (sRet (pur (.bl false))) (sNil)) (sRet (mCall allF (mCons (mLc 2000 [3, 4] (mZip (mCons (mVar 1) (mCons (mSlc (mVar 1) (mPart (pur (.int 1))) (pur none)) (pur [])))) (gTup 2 (gCons (gName 3) (gCons (gName 4) (gNil)))) (pur true) (mB ltD (mVar 3) (mVar 4))) (pur [])))))
def f_is_aim : List D → Hd → Option (D × Hd) := runB 2 5 m_is_aim
theorem ok_is_aim (g : Fx K mg base) : Ok P w K mg base 4 (He.fAd K ("is_aim", none)) ["shelf", "value"] f_is_aim :=
  ok_of (k := 3) g.f_is_aim sc_is_aim (fun _ _ _ _ _ _ us hl => match us, hl with | [_, _], _ => rfl) fun cdv A outer s H E hr => by
    have sc := sc_is_aim
    exact ls_cons (ls_if (lt_val (le_isi (le_var (i := 1) rfl (vis_by rfl)) (pe_bltn (v := .ty "str") (u := .type "str") rfl (g.b_str) (by decide +kernel) rfl) (.ty _) (ans_of (g.an_str)) rfl (g.b_isinstance) (by decide +kernel))) (ls_one (ls_ret (le_cmp (op_eqA (ru5 hr)) (le_var (i := 1) rfl (vis_by rfl)) (le_gS rfl (g.c_TELL))))) (ls_nil)) (ls_cons (ls_if (lt_w (lw_or (lt_not (lt_val (le_isi (le_var (i := 1) rfl (vis_by rfl)) (pe_bltn (v := .ty "tuple") (u := .type "tuple") rfl (g.b_tuple) (by decide +kernel) rfl) (.ty _) (ans_of (g.an_tuple)) rfl (g.b_isinstance) (by decide +kernel)))) (lw_or1 (lt_not (lt_val (le_callB (call_allF rfl) rfl (g.b_all) (by decide +kernel) (la_cons (le_lc (own := [("pair", 2)]) rfl sc.nd (li_any (le_var (i := 1) rfl (vis_by rfl))) (blkOk_by (own := [("pair", 2)]) (by kernel_rfl)) (fun _ _ _ _ _ => lgc_name (by decide) sc.nd rfl (loc_by rfl)) (fun _ _ _ _ _ => lts_nil) (fun _ _ _ _ _ => le_callO (ok_is_pair g) (hr.mono (by omega)) rfl (g.g_is_pair) (la_cons (le_var (i := 0) rfl (vis_by rfl)) (la_cons (le_var (i := 2) rfl (vis_by rfl)) (la_nil))))) (la_nil)))))))) (ls_one (ls_ret (le_cB))) (ls_nil)) (ls_one (ls_ret (le_callB (call_allF rfl) rfl (g.b_all) (by decide +kernel) (la_cons (le_lc (own := [("one", 3), ("other", 4)]) rfl sc.nd (li_zip rfl (g.b_zip) (la_cons (le_var (i := 1) rfl (vis_by rfl)) (la_cons (le_slc (le_var (i := 1) rfl (vis_by rfl)) (lo_some (le_cI)) (lo_none)) (la_nil)))) (blkOk_by (own := [("one", 3), ("other", 4)]) (by kernel_rfl)) (fun _ _ _ _ _ => lgc_tup rfl (lgcs_cons (lgc_name (by decide) sc.nd rfl (loc_by rfl)) (lgcs_cons (lgc_name (by decide) sc.nd rfl (loc_by rfl)) (lgcs_nil)))) (fun _ _ _ _ _ => lts_nil) (fun _ _ _ _ _ => le_cmp (op_ltD (ru0 hr)) (le_var (i := 3) rfl (vis_by rfl)) (le_var (i := 4) rfl (vis_by rfl)))) (la_nil))))))

-- check_aim
theorem sc_check_aim : FnScope ["shelf", "aim"] ["shelf", "aim"] (defScope (top 37)) := ⟨rfl, rfl, rfl, by decide +kernel, rfl, by decide +kernel, by decide +kernel⟩
def m_check_aim : S := sIf (mNot (mTst (mCall f_is_aim (mCons (mVar 0) (mCons (mVar 1) (pur [])))))) (sNone) (sNil)
def f_check_aim : List D → Hd → Option (D × Hd) := runB 2 2 m_check_aim
theorem ok_check_aim (g : Fx K mg base) : Ok P w K mg base 5 (He.fAd K ("check_aim", none)) ["shelf", "aim"] f_check_aim :=
  ok_of (k := 4) g.f_check_aim sc_check_aim (fun _ _ _ _ _ _ us hl => match us, hl with | [_, _], _ => rfl) fun cdv A outer s H E hr => by
    have sc := sc_check_aim
    exact ls_one (ls_if (lt_not (lt_val (le_callO (ok_is_aim g) (hr.mono (by omega)) rfl (g.g_is_aim) (la_cons (le_var (i := 0) rfl (vis_by rfl)) (la_cons (le_var (i := 1) rfl (vis_by rfl)) (la_nil)))))) (ls_one (ls_none)) (ls_nil))

-- is_met
theorem sc_is_met : FnScope ["doubt", "aim", "pair"] ["doubt", "aim"] (defScope (top 38)) := ⟨rfl, rfl, rfl, by decide +kernel, rfl, by decide +kernel, by decide +kernel⟩
def m_is_met : S := sRet (mIf (mTst (mB (eqA id) (mVar 1) (pur (.str "tell")))) (mCall f_is_told (mCons (mVar 0) (pur []))) (mCall allF (mCons (mLc 2000 [2] (mSrc (mVar 0)) (gName 2) (pur true) (mB (inA id) (mVar 2) (mVar 1))) (pur []))))
def f_is_met : List D → Hd → Option (D × Hd) := runB 2 3 m_is_met
theorem ok_is_met (g : Fx K mg base) : Ok P w K mg base 2 (He.fAd K ("is_met", none)) ["doubt", "aim"] f_is_met :=
  ok_of (k := 1) g.f_is_met sc_is_met (fun _ _ _ _ _ _ us hl => match us, hl with | [_, _], _ => rfl) fun cdv A outer s H E hr => by
    have sc := sc_is_met
    exact ls_one (ls_ret (le_if (lt_cmp (op_eqA (ru5 hr)) (le_var (i := 1) rfl (vis_by rfl)) (le_gS rfl (g.c_TELL))) (le_callO (ok_is_told g) (hr.mono (by omega)) rfl (g.g_is_told) (la_cons (le_var (i := 0) rfl (vis_by rfl)) (la_nil))) (le_callB (call_allF rfl) rfl (g.b_all) (by decide +kernel) (la_cons (le_lc (own := [("pair", 2)]) rfl sc.nd (li_any (le_var (i := 0) rfl (vis_by rfl))) (blkOk_by (own := [("pair", 2)]) (by kernel_rfl)) (fun _ _ _ _ _ => lgc_name (by decide) sc.nd rfl (loc_by rfl)) (fun _ _ _ _ _ => lts_nil) (fun _ _ _ _ _ => le_cmp (op_inA (ru5 hr)) (le_var (i := 2) rfl (vis_by rfl)) (le_var (i := 1) rfl (vis_by rfl)))) (la_nil)))))

-- depth_of
theorem sc_depth_of : FnScope ["tree", "reply", "branch"] ["tree"] (defScope (top 39)) := ⟨rfl, rfl, rfl, by decide +kernel, rfl, by decide +kernel, by decide +kernel⟩
def m_depth_of (rec : List D → Hd → Option (D × Hd)) : S := sRet (mIf (mTst (mB isD (mVar 0) (pur .non))) (pur (.int 0)) (mB addD (pur (.int 1)) (mCall maxF (mCons (mLc 2000 [1, 2] (mSrc (mB ixA (mVar 0) (pur (.int 1)))) (gTup 2 (gCons (gName 1) (gCons (gName 2) (gNil)))) (pur true) (mCall rec (mCons (mVar 2) (pur [])))) (pur [])))))
def f_depth_of : Nat → List D → Hd → Option (D × Hd)
  | 0 => fun _ _ => none
  | n + 1 => runB 1 3 (m_depth_of (f_depth_of n))
theorem ok_depth_of (g : Fx K mg base) : ∀ n : Nat, Ok P w K mg base (1 + n) (He.fAd K ("depth_of", none)) ["tree"] (f_depth_of n)
  | 0 => ok_none g.f_depth_of (fun _ _ _ _ _ _ us hl => match us, hl with | [_], _ => rfl)
  | n + 1 => ok_of (k := 1 + n) g.f_depth_of sc_depth_of (fun _ _ _ _ _ _ us hl => match us, hl with | [_], _ => rfl) fun cdv A outer s H E hr => by
    have ih := ok_depth_of g n
    have sc := sc_depth_of
    exact ls_one (ls_ret (le_if (lt_cmp (op_isD) (le_var (i := 0) rfl (vis_by rfl)) (le_cN)) (le_cI) (le_bin op_addD (le_cI) (le_callB (call_maxF rfl) rfl (g.b_max) (by decide +kernel) (la_cons (le_lc (own := [("reply", 1), ("branch", 2)]) rfl sc.nd (li_any (le_ix (ix_A (ru4 hr)) (le_var (i := 0) rfl (vis_by rfl)) (le_cI))) (blkOk_by (own := [("reply", 1), ("branch", 2)]) (by kernel_rfl)) (fun _ _ _ _ _ => lgc_tup rfl (lgcs_cons (lgc_name (by decide) sc.nd rfl (loc_by rfl)) (lgcs_cons (lgc_name (by decide) sc.nd rfl (loc_by rfl)) (lgcs_nil)))) (fun _ _ _ _ _ => lts_nil) (fun _ _ _ _ _ => le_callO (ih) (hr.mono (by omega)) rfl (g.g_depth_of) (la_cons (le_var (i := 2) rfl (vis_by rfl)) (la_nil)))) (la_nil))))))

-- does_meet
theorem sc_does_meet : FnScope ["shelf", "doubt", "aim", "tree", "command", "branches", "parts", "reply", "branch"] ["shelf", "doubt", "aim", "tree"] (defScope (top 40)) := ⟨rfl, rfl, rfl, by decide +kernel, rfl, by decide +kernel, by decide +kernel⟩
def m_does_meet (rec : List D → Hd → Option (D × Hd)) : S := sSeq (sIf (mTst (mB isD (mVar 3) (pur .non))) (sRet (mCall f_is_met (mCons (mVar 1) (mCons (mVar 2) (pur []))))) (sNil)) (sSeq (sAsg (mVar 3) (gTup 2 (gCons (gName 4) (gCons (gName 5) (gNil))))) (sSeq (sIf (mOr (mNot (mTst (mCall f_is_integer (mCons (mVar 4) (mCons (pur (.int 0)) (mCons (mB subD (mU (attrD ["Shelf"] [] "many") (mVar 0)) (pur (.int 1))) (pur []))))))) (mNot (mTst (mCall f_is_safe (mCons (mVar 0) (mCons (mVar 1) (mCons (mVar 4) (pur [])))))))) (sRet (pur (.bl false))) (sNil)) (sSeq (sAsg (mCall f_parts_after (mCons (mVar 0) (mCons (mVar 1) (mCons (mVar 4) (pur []))))) (gName 6)) (sSeq (sIf (mTst (mB (eqA not) (mLc 2000 [7, 8] (mSrc (mVar 5)) (gTup 2 (gCons (gName 7) (gCons (gName 8) (gNil)))) (pur true) (mVar 7)) (mCall listA (mCons (mVar 6) (pur []))))) (sRet (pur (.bl false))) (sNil)) (sRet (mCall allF (mCons (mLc 2000 [7, 8] (mSrc (mVar 5)) (gTup 2 (gCons (gName 7) (gCons (gName 8) (gNil)))) (pur true) (mCall rec (mCons (mVar 0) (mCons (mB ixA (mVar 6) (mVar 7)) (mCons (mVar 2) (mCons (mVar 8) (pur []))))))) (pur []))))))))
def f_does_meet : Nat → List D → Hd → Option (D × Hd)
  | 0 => fun _ _ => none
  | n + 1 => runB 4 9 (m_does_meet (f_does_meet n))
theorem ok_does_meet (g : Fx K mg base) : ∀ n : Nat, Ok P w K mg base (3 + n) (He.fAd K ("does_meet", none)) ["shelf", "doubt", "aim", "tree"] (f_does_meet n)
  | 0 => ok_none g.f_does_meet (fun _ _ _ _ _ _ us hl => match us, hl with | [_, _, _, _], _ => rfl)
  | n + 1 => ok_of (k := 3 + n) g.f_does_meet sc_does_meet (fun _ _ _ _ _ _ us hl => match us, hl with | [_, _, _, _], _ => rfl) fun cdv A outer s H E hr => by
    have ih := ok_does_meet g n
    have sc := sc_does_meet
    exact ls_cons (ls_if (lt_cmp (op_isD) (le_var (i := 3) rfl (vis_by rfl)) (le_cN)) (ls_one (ls_ret (le_callO (ok_is_met g) (hr.mono (by omega)) rfl (g.g_is_met) (la_cons (le_var (i := 1) rfl (vis_by rfl)) (la_cons (le_var (i := 2) rfl (vis_by rfl)) (la_nil)))))) (ls_nil)) (ls_cons (ls_asg (le_var (i := 3) rfl (vis_by rfl)) (lg_tup rfl (lgs_cons (lg_name sc.nd rfl (loc_by rfl)) (lgs_cons (lg_name sc.nd rfl (loc_by rfl)) (lgs_nil))))) (ls_cons (ls_if (lt_w (lw_or (lt_not (lt_val (le_callO (ok_is_integer g) (hr.mono (by omega)) rfl (g.g_is_integer) (la_cons (le_var (i := 4) rfl (vis_by rfl)) (la_cons (le_cI) (la_cons (le_bin op_subD (le_attr (fun c hc => by simp only [List.mem_cons, List.not_mem_nil, or_false] at hc; subst hc; exact g.fs_Shelf_many) (fun c hc => by cases hc) (le_var (i := 0) rfl (vis_by rfl))) (le_cI)) (la_nil))))))) (lw_or1 (lt_not (lt_val (le_callO (ok_is_safe g) (hr.mono (by omega)) rfl (g.g_is_safe) (la_cons (le_var (i := 0) rfl (vis_by rfl)) (la_cons (le_var (i := 1) rfl (vis_by rfl)) (la_cons (le_var (i := 4) rfl (vis_by rfl)) (la_nil)))))))))) (ls_one (ls_ret (le_cB))) (ls_nil)) (ls_cons (ls_set sc.nd rfl (loc_by rfl) (le_callO (ok_parts_after g) (hr.mono (by omega)) rfl (g.g_parts_after) (la_cons (le_var (i := 0) rfl (vis_by rfl)) (la_cons (le_var (i := 1) rfl (vis_by rfl)) (la_cons (le_var (i := 4) rfl (vis_by rfl)) (la_nil)))))) (ls_cons (ls_if (lt_cmp (op_neA (ru5 hr)) (le_lc (own := [("reply", 7), ("branch", 8)]) rfl sc.nd (li_any (le_var (i := 5) rfl (vis_by rfl))) (blkOk_by (own := [("reply", 7), ("branch", 8)]) (by kernel_rfl)) (fun _ _ _ _ _ => lgc_tup rfl (lgcs_cons (lgc_name (by decide) sc.nd rfl (loc_by rfl)) (lgcs_cons (lgc_name (by decide) sc.nd rfl (loc_by rfl)) (lgcs_nil)))) (fun _ _ _ _ _ => lts_nil) (fun _ _ _ _ _ => le_var (i := 7) rfl (vis_by rfl))) (le_callTy (call_listA rfl) rfl (g.b_list) (by decide +kernel) (la_cons (le_var (i := 6) rfl (vis_by rfl)) (la_nil)))) (ls_one (ls_ret (le_cB))) (ls_nil)) (ls_one (ls_ret (le_callB (call_allF rfl) rfl (g.b_all) (by decide +kernel) (la_cons (le_lc (own := [("reply", 7), ("branch", 8)]) rfl sc.nd (li_any (le_var (i := 5) rfl (vis_by rfl))) (blkOk_by (own := [("reply", 7), ("branch", 8)]) (by kernel_rfl)) (fun _ _ _ _ _ => lgc_tup rfl (lgcs_cons (lgc_name (by decide) sc.nd rfl (loc_by rfl)) (lgcs_cons (lgc_name (by decide) sc.nd rfl (loc_by rfl)) (lgcs_nil)))) (fun _ _ _ _ _ => lts_nil) (fun _ _ _ _ _ => le_callO (ih) (hr.mono (by omega)) rfl (g.g_does_meet) (la_cons (le_var (i := 0) rfl (vis_by rfl)) (la_cons (le_ix (ix_A (ru4 hr)) (le_var (i := 6) rfl (vis_by rfl)) (le_var (i := 7) rfl (vis_by rfl))) (la_cons (le_var (i := 2) rfl (vis_by rfl)) (la_cons (le_var (i := 8) rfl (vis_by rfl)) (la_nil))))))) (la_nil)))))))))

-- Way____init__
theorem sc_Way____init__ : FnScope ["self", "tree", "levels"] ["self", "tree", "levels"] (defScope (inCls 41 1)) := ⟨rfl, rfl, rfl, by decide +kernel, rfl, by decide +kernel, by decide +kernel⟩
def m_Way____init__ : S := sSeq (sAtt (setD "Way" "tree" ["tree", "levels"]) (mVar 0) (mVar 1)) (sAtt (setD "Way" "levels" ["tree", "levels"]) (mVar 0) (mCall dictF (mCons (mVar 2) (pur []))))
def f_Way____init__ : List D → Hd → Option (D × Hd) := runB 3 3 m_Way____init__
theorem ok_Way____init__ (g : Fx K mg base) : Ok P w K mg base 1 (He.fAd K ("Way", some "__init__")) ["self", "tree", "levels"] f_Way____init__ :=
  ok_of (k := 0) g.f_Way____init__ sc_Way____init__ (fun _ _ _ _ _ _ us hl => match us, hl with | [_, _, _], _ => rfl) fun cdv A outer s H E hr => by
    have sc := sc_Way____init__
    exact ls_cons (ls_slot (g.st_Way_tree) (le_var (i := 0) rfl (vis_by rfl)) (le_var (i := 1) rfl (vis_by rfl))) (ls_one (ls_slot (g.st_Way_levels) (le_var (i := 0) rfl (vis_by rfl)) (le_callTy (call_dictF (ru4 hr)) rfl (g.b_dict) (by decide +kernel) (la_cons (le_var (i := 2) rfl (vis_by rfl)) (la_nil)))))

-- Way____eq__
theorem sc_Way____eq__ : FnScope ["self", "other"] ["self", "other"] (defScope (inCls 41 2)) := ⟨rfl, rfl, rfl, by decide +kernel, rfl, by decide +kernel, by decide +kernel⟩
def m_Way____eq__ : S := sRet (mAndV (mU (isiA tb_Way to_Way) (mVar 1)) (mAndV (mB (eqA id) (mU (attrD ["Way"] [] "tree") (mVar 0)) (mU (attrD ["Way"] [] "tree") (mVar 1))) (mB (eqA id) (mU (attrD ["Way"] [] "levels") (mVar 0)) (mU (attrD ["Way"] [] "levels") (mVar 1)))))
def f_Way____eq__ : List D → Hd → Option (D × Hd) := runB 2 2 m_Way____eq__
theorem ok_Way____eq__ (g : Fx K mg base) : Ok P w K mg base 1 (He.fAd K ("Way", some "__eq__")) ["self", "other"] f_Way____eq__ :=
  ok_of (k := 0) g.f_Way____eq__ sc_Way____eq__ (fun _ _ _ _ _ _ us hl => match us, hl with | [_, _], _ => rfl) fun cdv A outer s H E hr => by
    have sc := sc_Way____eq__
    exact ls_one (ls_ret (le_and (le_isi (le_var (i := 1) rfl (vis_by rfl)) (pe_glob (v := .ref (He.ga K "Way")) rfl (g.k_Way) rfl) (.own _) (ans_of (g.an_Way)) rfl (g.b_isinstance) (by decide +kernel)) (le_and (le_cmp (op_eqA (ru5 hr)) (le_attr (fun c hc => by simp only [List.mem_cons, List.not_mem_nil, or_false] at hc; subst hc; exact g.fs_Way_tree) (fun c hc => by cases hc) (le_var (i := 0) rfl (vis_by rfl))) (le_attr (fun c hc => by simp only [List.mem_cons, List.not_mem_nil, or_false] at hc; subst hc; exact g.fs_Way_tree) (fun c hc => by cases hc) (le_var (i := 1) rfl (vis_by rfl)))) (le_one (le_cmp (op_eqA (ru5 hr)) (le_attr (fun c hc => by simp only [List.mem_cons, List.not_mem_nil, or_false] at hc; subst hc; exact g.fs_Way_levels) (fun c hc => by cases hc) (le_var (i := 0) rfl (vis_by rfl))) (le_attr (fun c hc => by simp only [List.mem_cons, List.not_mem_nil, or_false] at hc; subst hc; exact g.fs_Way_levels) (fun c hc => by cases hc) (le_var (i := 1) rfl (vis_by rfl))))))))

-- Way__holds
theorem sc_Way__holds : FnScope ["self", "shelf", "doubt", "aim", "level", "command", "later", "one"] ["self", "shelf", "doubt", "aim"] (defScope (inCls 41 4)) := ⟨rfl, rfl, rfl, by decide +kernel, rfl, by decide +kernel, by decide +kernel⟩
def m_Way__holds : S := sSeq (sAsg (mB ixA (mU (attrD ["Way"] [] "levels") (mVar 0)) (mVar 2)) (gName 4)) (sSeq (sIf (mTst (mB leD (mVar 4) (pur (.int 0)))) (sRet (pur (.bl true))) (sNil)) (sSeq (sIf (mTst (mCall f_is_met (mCons (mVar 2) (mCons (mVar 3) (pur []))))) (sRet (pur (.bl false))) (sNil)) (sSeq (sFr 2000 (mSrc (mCall f_safe_in (mCons (mVar 1) (mCons (mVar 2) (pur []))))) (gName 5) (sSeq (sAsg (mLstV (mCall f_parts_after (mCons (mVar 1) (mCons (mVar 2) (mCons (mVar 5) (pur [])))))) (gName 6)) (sIf (mAnd (mTst (mB gtD (mVar 4) (pur (.int 1)))) (mNot (mTst (mCall anyF (mCons (mLc 2000 [7] (mSrc (mVar 6)) (gName 7) (pur true) (mB geD (mMeth "dict" getM (mU (attrD ["Way"] [] "levels") (mVar 0)) (mCons (mVar 7) (mCons (pur (.int 0)) (pur [])))) (mB subD (mVar 4) (pur (.int 1))))) (pur [])))))) (sRet (pur (.bl false))) (sNil)))) (sRet (pur (.bl true))))))
def f_Way__holds : List D → Hd → Option (D × Hd) := runB 4 8 m_Way__holds
theorem ok_Way__holds (g : Fx K mg base) : Ok P w K mg base 4 (He.fAd K ("Way", some "holds")) ["self", "shelf", "doubt", "aim"] f_Way__holds :=
  ok_of (k := 3) g.f_Way__holds sc_Way__holds (fun _ _ _ _ _ _ us hl => match us, hl with | [_, _, _, _], _ => rfl) fun cdv A outer s H E hr => by
    have sc := sc_Way__holds
    exact ls_cons (ls_set sc.nd rfl (loc_by rfl) (le_ix (ix_A (ru4 hr)) (le_attr (fun c hc => by simp only [List.mem_cons, List.not_mem_nil, or_false] at hc; subst hc; exact g.fs_Way_levels) (fun c hc => by cases hc) (le_var (i := 0) rfl (vis_by rfl))) (le_var (i := 2) rfl (vis_by rfl)))) (ls_cons (ls_if (lt_cmp (op_leD) (le_var (i := 4) rfl (vis_by rfl)) (le_cI)) (ls_one (ls_ret (le_cB))) (ls_nil)) (ls_cons (ls_if (lt_val (le_callO (ok_is_met g) (hr.mono (by omega)) rfl (g.g_is_met) (la_cons (le_var (i := 2) rfl (vis_by rfl)) (la_cons (le_var (i := 3) rfl (vis_by rfl)) (la_nil))))) (ls_one (ls_ret (le_cB))) (ls_nil)) (ls_cons (ls_for PassesOwn.never rfl (li_any (le_callO (ok_safe_in g) (hr.mono (by omega)) rfl (g.g_safe_in) (la_cons (le_var (i := 1) rfl (vis_by rfl)) (la_cons (le_var (i := 2) rfl (vis_by rfl)) (la_nil))))) (lg_name sc.nd rfl (loc_by rfl)) (ls_cons (ls_set sc.nd rfl (loc_by rfl) (le_listV rfl (le_callO (ok_parts_after g) (hr.mono (by omega)) rfl (g.g_parts_after) (la_cons (le_var (i := 1) rfl (vis_by rfl)) (la_cons (le_var (i := 2) rfl (vis_by rfl)) (la_cons (le_var (i := 5) rfl (vis_by rfl)) (la_nil))))) rfl (g.b_list) (by decide +kernel))) (ls_one (ls_if (lt_w (lw_and (lt_cmp (op_gtD) (le_var (i := 4) rfl (vis_by rfl)) (le_cI)) (lw_and1 (lt_not (lt_val (le_callB (call_anyF rfl) rfl (g.b_any) (by decide +kernel) (la_cons (le_lc (own := [("one", 7)]) rfl sc.nd (li_any (le_var (i := 6) rfl (vis_by rfl))) (blkOk_by (own := [("one", 7)]) (by kernel_rfl)) (fun _ _ _ _ _ => lgc_name (by decide) sc.nd rfl (loc_by rfl)) (fun _ _ _ _ _ => lts_nil) (fun _ _ _ _ _ => le_cmp (op_geD) (le_bm PySem.F.plainAttrs_dict PySem.F.slot_dict_get PySem.F.type_dict_get (mt_getM (ru4 hr)) (le_attr (fun c hc => by simp only [List.mem_cons, List.not_mem_nil, or_false] at hc; subst hc; exact g.fs_Way_levels) (fun c hc => by cases hc) (le_var (i := 0) rfl (vis_by rfl))) (la_cons (le_var (i := 7) rfl (vis_by rfl)) (la_cons (le_cI) (la_nil)))) (le_bin op_subD (le_var (i := 4) rfl (vis_by rfl)) (le_cI)))) (la_nil)))))))) (ls_one (ls_ret (le_cB))) (ls_nil))))) (ls_one (ls_ret (le_cB))))))

-- Stuck____init__
theorem sc_Stuck____init__ : FnScope ["self", "doubts"] ["self", "doubts"] (defScope (inCls 42 1)) := ⟨rfl, rfl, rfl, by decide +kernel, rfl, by decide +kernel, by decide +kernel⟩
def m_Stuck____init__ : S := sAtt (setD "Stuck" "doubts" ["doubts"]) (mVar 0) (mCall listA (mCons (mVar 1) (pur [])))
def f_Stuck____init__ : List D → Hd → Option (D × Hd) := runB 2 2 m_Stuck____init__
theorem ok_Stuck____init__ (g : Fx K mg base) : Ok P w K mg base 1 (He.fAd K ("Stuck", some "__init__")) ["self", "doubts"] f_Stuck____init__ :=
  ok_of (k := 0) g.f_Stuck____init__ sc_Stuck____init__ (fun _ _ _ _ _ _ us hl => match us, hl with | [_, _], _ => rfl) fun cdv A outer s H E hr => by
    have sc := sc_Stuck____init__
    exact ls_one (ls_slot (g.st_Stuck_doubts) (le_var (i := 0) rfl (vis_by rfl)) (le_callTy (call_listA rfl) rfl (g.b_list) (by decide +kernel) (la_cons (le_var (i := 1) rfl (vis_by rfl)) (la_nil))))

-- Stuck____iter__
theorem sc_Stuck____iter__ : FnScope ["self"] ["self"] (defScope (inCls 42 2)) := ⟨rfl, rfl, rfl, by decide +kernel, rfl, by decide +kernel, by decide +kernel⟩
theorem oki_Stuck (g : Fx K mg base) : OkI P w K mg ["Stuck"] [] "doubts" (He.fAd K ("Stuck", some "__iter__")) :=
  okI_of (F := g.f_Stuck____iter__) sc_Stuck____iter__ (fun _ _ _ _ _ _ us hl => match us, hl with | [_], _ => rfl) (fun c hc => by simp only [List.mem_cons, List.not_mem_nil, or_false] at hc; subst hc; exact g.fs_Stuck_doubts) (fun c hc => by cases hc) (g.b_iter) (fun _ _ _ _ _ _ _ => rfl) (fun _ _ => vis_by rfl) (fun _ _ => rfl) (fun _ _ => rfl)

-- Stuck____eq__
theorem sc_Stuck____eq__ : FnScope ["self", "other"] ["self", "other"] (defScope (inCls 42 3)) := ⟨rfl, rfl, rfl, by decide +kernel, rfl, by decide +kernel, by decide +kernel⟩
def m_Stuck____eq__ : S := sRet (mAndV (mU (isiA tb_Stuck to_Stuck) (mVar 1)) (mB (eqA id) (mU (attrD ["Stuck"] [] "doubts") (mVar 0)) (mU (attrD ["Stuck", "Serves"] [] "doubts") (mVar 1))))
def f_Stuck____eq__ : List D → Hd → Option (D × Hd) := runB 2 2 m_Stuck____eq__
theorem ok_Stuck____eq__ (g : Fx K mg base) : Ok P w K mg base 1 (He.fAd K ("Stuck", some "__eq__")) ["self", "other"] f_Stuck____eq__ :=
  ok_of (k := 0) g.f_Stuck____eq__ sc_Stuck____eq__ (fun _ _ _ _ _ _ us hl => match us, hl with | [_, _], _ => rfl) fun cdv A outer s H E hr => by
    have sc := sc_Stuck____eq__
    exact ls_one (ls_ret (le_and (le_isi (le_var (i := 1) rfl (vis_by rfl)) (pe_glob (v := .ref (He.ga K "Stuck")) rfl (g.k_Stuck) rfl) (.own _) (ans_of (g.an_Stuck)) rfl (g.b_isinstance) (by decide +kernel)) (le_one (le_cmp (op_eqA (ru5 hr)) (le_attr (fun c hc => by simp only [List.mem_cons, List.not_mem_nil, or_false] at hc; subst hc; exact g.fs_Stuck_doubts) (fun c hc => by cases hc) (le_var (i := 0) rfl (vis_by rfl))) (le_attr (fun c hc => by simp only [List.mem_cons, List.not_mem_nil, or_false] at hc; rcases hc with rfl | rfl <;> first | exact g.fs_Stuck_doubts | exact g.fs_Serves_doubts) (fun c hc => by cases hc) (le_var (i := 1) rfl (vis_by rfl)))))))

-- are_stuck
theorem sc_are_stuck : FnScope ["shelf", "aim", "lots", "known", "one", "command", "later"] ["shelf", "aim", "lots"] (defScope (top 43)) := ⟨rfl, rfl, rfl, by decide +kernel, rfl, by decide +kernel, by decide +kernel⟩
def m_are_stuck : S := sSeq (sAsg (mDc 2000 [4] (mSrc (mVar 2)) (gName 4) (pur true) (mVar 4) (pur (.bl true))) (gName 3)) (sSeq (sFr 2000 (mSrc (mVar 3)) (gName 4) (sSeq (sIf (mTst (mCall f_is_met (mCons (mVar 4) (mCons (mVar 1) (pur []))))) (sRet (pur (.bl false))) (sNil)) (sFr 2000 (mSrc (mCall f_safe_in (mCons (mVar 0) (mCons (mVar 4) (pur []))))) (gName 5) (sIf (mNot (mTst (mCall anyF (mCons (mLc 2000 [6] (mDsr .val (mCall f_parts_after (mCons (mVar 0) (mCons (mVar 4) (mCons (mVar 5) (pur [])))))) (gName 6) (pur true) (mB (inA id) (mVar 6) (mVar 3))) (pur []))))) (sRet (pur (.bl false))) (sNil))))) (sRet (pur (.bl true))))
def f_are_stuck : List D → Hd → Option (D × Hd) := runB 3 7 m_are_stuck
theorem ok_are_stuck (g : Fx K mg base) : Ok P w K mg base 4 (He.fAd K ("are_stuck", none)) ["shelf", "aim", "lots"] f_are_stuck :=
  ok_of (k := 3) g.f_are_stuck sc_are_stuck (fun _ _ _ _ _ _ us hl => match us, hl with | [_, _, _], _ => rfl) fun cdv A outer s H E hr => by
    have sc := sc_are_stuck
    exact ls_cons (ls_set sc.nd rfl (loc_by rfl) (le_dc (own := [("one", 4)]) (ru4 hr) rfl sc.nd (li_any (le_var (i := 2) rfl (vis_by rfl))) (blkOk_by (own := [("one", 4)]) (by kernel_rfl)) (fun _ _ _ _ _ => lgc_name (by decide) sc.nd rfl (loc_by rfl)) (fun _ _ _ _ _ => lts_nil) (fun _ _ _ _ _ => le_var (i := 4) rfl (vis_by rfl)) (fun _ _ _ _ _ => le_cB))) (ls_cons (ls_for PassesOwn.never rfl (li_any (le_var (i := 3) rfl (vis_by rfl))) (lg_name sc.nd rfl (loc_by rfl)) (ls_cons (ls_if (lt_val (le_callO (ok_is_met g) (hr.mono (by omega)) rfl (g.g_is_met) (la_cons (le_var (i := 4) rfl (vis_by rfl)) (la_cons (le_var (i := 1) rfl (vis_by rfl)) (la_nil))))) (ls_one (ls_ret (le_cB))) (ls_nil)) (ls_one (ls_for PassesOwn.never rfl (li_any (le_callO (ok_safe_in g) (hr.mono (by omega)) rfl (g.g_safe_in) (la_cons (le_var (i := 0) rfl (vis_by rfl)) (la_cons (le_var (i := 4) rfl (vis_by rfl)) (la_nil))))) (lg_name sc.nd rfl (loc_by rfl)) (ls_one (ls_if (lt_not (lt_val (le_callB (call_anyF rfl) rfl (g.b_any) (by decide +kernel) (la_cons (le_lc (own := [("later", 6)]) rfl sc.nd (li_values (le_callO (ok_parts_after g) (hr.mono (by omega)) rfl (g.g_parts_after) (la_cons (le_var (i := 0) rfl (vis_by rfl)) (la_cons (le_var (i := 4) rfl (vis_by rfl)) (la_cons (le_var (i := 5) rfl (vis_by rfl)) (la_nil)))))) (blkOk_by (own := [("later", 6)]) (by kernel_rfl)) (fun _ _ _ _ _ => lgc_name (by decide) sc.nd rfl (loc_by rfl)) (fun _ _ _ _ _ => lts_nil) (fun _ _ _ _ _ => le_cmp (op_inA (ru5 hr)) (le_var (i := 6) rfl (vis_by rfl)) (le_var (i := 3) rfl (vis_by rfl)))) (la_nil))))) (ls_one (ls_ret (le_cB))) (ls_nil))))))) (ls_one (ls_ret (le_cB))))

-- best_in
theorem sc_best_in : FnScope ["shelf", "doubt", "found", "rows", "command", "later", "one"] ["shelf", "doubt", "found"] (defScope (top 46)) := ⟨rfl, rfl, rfl, by decide +kernel, rfl, by decide +kernel, by decide +kernel⟩
def m_best_in : S := sSeq (sAsg (mLst (pur [])) (gName 3)) (sSeq (sFr 2000 (mSrc (mCall f_safe_in (mCons (mVar 0) (mCons (mVar 1) (pur []))))) (gName 4) (sSeq (sAsg (mLstV (mCall f_parts_after (mCons (mVar 0) (mCons (mVar 1) (mCons (mVar 4) (pur [])))))) (gName 5)) (sIf (mTst (mCall allF (mCons (mLc 2000 [6] (mSrc (mVar 5)) (gName 6) (pur true) (mB (inA id) (mVar 6) (mVar 2))) (pur [])))) (sExp (mMeth "list" appM (mVar 3) (mCons (mTup (mCons (mCall maxF (mCons (mLc 2000 [6] (mSrc (mVar 5)) (gName 6) (pur true) (mB ixA (mVar 2) (mVar 6))) (pur []))) (mCons (mVar 4) (pur [])))) (pur [])))) (sNil)))) (sRet (mIf (mTst (mB (eqA not) (mVar 3) (mLst (pur [])))) (mB ixA (mCall minA (mCons (mVar 3) (pur []))) (pur (.int 1))) (pur .non))))
def f_best_in : List D → Hd → Option (D × Hd) := runB 3 7 m_best_in
theorem ok_best_in (g : Fx K mg base) : Ok P w K mg base 4 (He.fAd K ("best_in", none)) ["shelf", "doubt", "found"] f_best_in :=
  ok_of (k := 3) g.f_best_in sc_best_in (fun _ _ _ _ _ _ us hl => match us, hl with | [_, _, _], _ => rfl) fun cdv A outer s H E hr => by
    have sc := sc_best_in
    exact ls_cons (ls_set sc.nd rfl (loc_by rfl) (le_lst (la_nil))) (ls_cons (ls_for PassesOwn.never rfl (li_any (le_callO (ok_safe_in g) (hr.mono (by omega)) rfl (g.g_safe_in) (la_cons (le_var (i := 0) rfl (vis_by rfl)) (la_cons (le_var (i := 1) rfl (vis_by rfl)) (la_nil))))) (lg_name sc.nd rfl (loc_by rfl)) (ls_cons (ls_set sc.nd rfl (loc_by rfl) (le_listV rfl (le_callO (ok_parts_after g) (hr.mono (by omega)) rfl (g.g_parts_after) (la_cons (le_var (i := 0) rfl (vis_by rfl)) (la_cons (le_var (i := 1) rfl (vis_by rfl)) (la_cons (le_var (i := 4) rfl (vis_by rfl)) (la_nil))))) rfl (g.b_list) (by decide +kernel))) (ls_one (ls_if (lt_val (le_callB (call_allF rfl) rfl (g.b_all) (by decide +kernel) (la_cons (le_lc (own := [("one", 6)]) rfl sc.nd (li_any (le_var (i := 5) rfl (vis_by rfl))) (blkOk_by (own := [("one", 6)]) (by kernel_rfl)) (fun _ _ _ _ _ => lgc_name (by decide) sc.nd rfl (loc_by rfl)) (fun _ _ _ _ _ => lts_nil) (fun _ _ _ _ _ => le_cmp (op_inA (ru5 hr)) (le_var (i := 6) rfl (vis_by rfl)) (le_var (i := 2) rfl (vis_by rfl)))) (la_nil)))) (ls_one (ls_exp (le_bm PySem.F.plainAttrs_list PySem.F.slot_list_append PySem.F.type_list_append (mt_appM) (le_var (i := 3) rfl (vis_by rfl)) (la_cons (le_tup (la_cons (le_callB (call_maxF rfl) rfl (g.b_max) (by decide +kernel) (la_cons (le_lc (own := [("one", 6)]) rfl sc.nd (li_any (le_var (i := 5) rfl (vis_by rfl))) (blkOk_by (own := [("one", 6)]) (by kernel_rfl)) (fun _ _ _ _ _ => lgc_name (by decide) sc.nd rfl (loc_by rfl)) (fun _ _ _ _ _ => lts_nil) (fun _ _ _ _ _ => le_ix (ix_A (ru4 hr)) (le_var (i := 2) rfl (vis_by rfl)) (le_var (i := 6) rfl (vis_by rfl)))) (la_nil))) (la_cons (le_var (i := 4) rfl (vis_by rfl)) (la_nil)))) (la_nil))))) (ls_nil))))) (ls_one (ls_ret (le_if (lt_cmp (op_neA (ru5 hr)) (le_var (i := 3) rfl (vis_by rfl)) (le_lst (la_nil))) (le_ix (ix_A (ru4 hr)) (le_callB (call_minA rfl (ru4 hr)) rfl (g.b_min) (by decide +kernel) (la_cons (le_var (i := 3) rfl (vis_by rfl)) (la_nil))) (le_cI)) (le_cN)))))

-- tree_for
theorem sc_tree_for : FnScope ["shelf", "doubt", "found", "command", "parts", "reply", "later"] ["shelf", "doubt", "found"] (defScope (top 47)) := ⟨rfl, rfl, rfl, by decide +kernel, rfl, by decide +kernel, by decide +kernel⟩
def m_tree_for (rec : List D → Hd → Option (D × Hd)) : S := sSeq (sIf (mTst (mB (eqA id) (mB ixA (mVar 2) (mVar 1)) (pur (.int 0)))) (sRet (pur .non)) (sNil)) (sSeq (sAsg (mCall f_best_in (mCons (mVar 0) (mCons (mVar 1) (mCons (mVar 2) (pur []))))) (gName 3)) (sSeq (sAsg (mCall f_parts_after (mCons (mVar 0) (mCons (mVar 1) (mCons (mVar 3) (pur []))))) (gName 4)) (sRet (mTup (mCons (mVar 3) (mCons (mCall tupleF (mCons (mLc 2000 [5, 6] (mDsr .itm (mVar 4)) (gTup 2 (gCons (gName 5) (gCons (gName 6) (gNil)))) (pur true) (mTup (mCons (mVar 5) (mCons (mCall rec (mCons (mVar 0) (mCons (mVar 6) (mCons (mVar 2) (pur []))))) (pur []))))) (pur []))) (pur [])))))))
def f_tree_for : Nat → List D → Hd → Option (D × Hd)
  | 0 => fun _ _ => none
  | n + 1 => runB 3 7 (m_tree_for (f_tree_for n))
theorem ok_tree_for (g : Fx K mg base) : ∀ n : Nat, Ok P w K mg base (5 + n) (He.fAd K ("tree_for", none)) ["shelf", "doubt", "found"] (f_tree_for n)
  | 0 => ok_none g.f_tree_for (fun _ _ _ _ _ _ us hl => match us, hl with | [_, _, _], _ => rfl)
  | n + 1 => ok_of (k := 5 + n) g.f_tree_for sc_tree_for (fun _ _ _ _ _ _ us hl => match us, hl with | [_, _, _], _ => rfl) fun cdv A outer s H E hr => by
    have ih := ok_tree_for g n
    have sc := sc_tree_for
    exact ls_cons (ls_if (lt_cmp (op_eqA (ru5 hr)) (le_ix (ix_A (ru4 hr)) (le_var (i := 2) rfl (vis_by rfl)) (le_var (i := 1) rfl (vis_by rfl))) (le_cI)) (ls_one (ls_ret (le_cN))) (ls_nil)) (ls_cons (ls_set sc.nd rfl (loc_by rfl) (le_callO (ok_best_in g) (hr.mono (by omega)) rfl (g.g_best_in) (la_cons (le_var (i := 0) rfl (vis_by rfl)) (la_cons (le_var (i := 1) rfl (vis_by rfl)) (la_cons (le_var (i := 2) rfl (vis_by rfl)) (la_nil)))))) (ls_cons (ls_set sc.nd rfl (loc_by rfl) (le_callO (ok_parts_after g) (hr.mono (by omega)) rfl (g.g_parts_after) (la_cons (le_var (i := 0) rfl (vis_by rfl)) (la_cons (le_var (i := 1) rfl (vis_by rfl)) (la_cons (le_var (i := 3) rfl (vis_by rfl)) (la_nil)))))) (ls_one (ls_ret (le_tup (la_cons (le_var (i := 3) rfl (vis_by rfl)) (la_cons (le_callTy (call_tupleF) rfl (g.b_tuple) (by decide +kernel) (la_cons (le_lc (own := [("reply", 5), ("later", 6)]) rfl sc.nd (li_items (le_var (i := 4) rfl (vis_by rfl))) (blkOk_by (own := [("reply", 5), ("later", 6)]) (by kernel_rfl)) (fun _ _ _ _ _ => lgc_tup rfl (lgcs_cons (lgc_name (by decide) sc.nd rfl (loc_by rfl)) (lgcs_cons (lgc_name (by decide) sc.nd rfl (loc_by rfl)) (lgcs_nil)))) (fun _ _ _ _ _ => lts_nil) (fun _ _ _ _ _ => le_tup (la_cons (le_var (i := 5) rfl (vis_by rfl)) (la_cons (le_callO (ih) (hr.mono (by omega)) rfl (g.g_tree_for) (la_cons (le_var (i := 0) rfl (vis_by rfl)) (la_cons (le_var (i := 6) rfl (vis_by rfl)) (la_cons (le_var (i := 2) rfl (vis_by rfl)) (la_nil))))) (la_nil))))) (la_nil))) (la_nil))))))))

-- contains
theorem sc_contains : FnScope ["some", "part", "pair"] ["some", "part"] (defScope (top 51)) := ⟨rfl, rfl, rfl, by decide +kernel, rfl, by decide +kernel, by decide +kernel⟩
def m_contains : S := sRet (mCall allF (mCons (mLc 2000 [2] (mSrc (mVar 1)) (gName 2) (pur true) (mB (inA id) (mVar 2) (mVar 0))) (pur [])))
def f_contains : List D → Hd → Option (D × Hd) := runB 2 3 m_contains
theorem ok_contains (g : Fx K mg base) : Ok P w K mg base 1 (He.fAd K ("contains", none)) ["some", "part"] f_contains :=
  ok_of (k := 0) g.f_contains sc_contains (fun _ _ _ _ _ _ us hl => match us, hl with | [_, _], _ => rfl) fun cdv A outer s H E hr => by
    have sc := sc_contains
    exact ls_one (ls_ret (le_callB (call_allF rfl) rfl (g.b_all) (by decide +kernel) (la_cons (le_lc (own := [("pair", 2)]) rfl sc.nd (li_any (le_var (i := 1) rfl (vis_by rfl))) (blkOk_by (own := [("pair", 2)]) (by kernel_rfl)) (fun _ _ _ _ _ => lgc_name (by decide) sc.nd rfl (loc_by rfl)) (fun _ _ _ _ _ => lts_nil) (fun _ _ _ _ _ => le_cmp (op_inA (ru5 hr)) (le_var (i := 2) rfl (vis_by rfl)) (le_var (i := 0) rfl (vis_by rfl)))) (la_nil))))

-- Bearable____init__
theorem sc_Bearable____init__ : FnScope ["self", "ways", "stucks"] ["self", "ways", "stucks"] (defScope (inCls 52 1)) := ⟨rfl, rfl, rfl, by decide +kernel, rfl, by decide +kernel, by decide +kernel⟩
def m_Bearable____init__ : S := sSeq (sAtt (setD "Bearable" "ways" ["ways", "stucks"]) (mVar 0) (mCall dictF (mCons (mVar 1) (pur [])))) (sAtt (setD "Bearable" "stucks" ["ways", "stucks"]) (mVar 0) (mCall dictF (mCons (mVar 2) (pur []))))
def f_Bearable____init__ : List D → Hd → Option (D × Hd) := runB 3 3 m_Bearable____init__
theorem ok_Bearable____init__ (g : Fx K mg base) : Ok P w K mg base 1 (He.fAd K ("Bearable", some "__init__")) ["self", "ways", "stucks"] f_Bearable____init__ :=
  ok_of (k := 0) g.f_Bearable____init__ sc_Bearable____init__ (fun _ _ _ _ _ _ us hl => match us, hl with | [_, _, _], _ => rfl) fun cdv A outer s H E hr => by
    have sc := sc_Bearable____init__
    exact ls_cons (ls_slot (g.st_Bearable_ways) (le_var (i := 0) rfl (vis_by rfl)) (le_callTy (call_dictF (ru4 hr)) rfl (g.b_dict) (by decide +kernel) (la_cons (le_var (i := 1) rfl (vis_by rfl)) (la_nil)))) (ls_one (ls_slot (g.st_Bearable_stucks) (le_var (i := 0) rfl (vis_by rfl)) (le_callTy (call_dictF (ru4 hr)) rfl (g.b_dict) (by decide +kernel) (la_cons (le_var (i := 2) rfl (vis_by rfl)) (la_nil)))))

-- Bearable____eq__
theorem sc_Bearable____eq__ : FnScope ["self", "other"] ["self", "other"] (defScope (inCls 52 2)) := ⟨rfl, rfl, rfl, by decide +kernel, rfl, by decide +kernel, by decide +kernel⟩
def m_Bearable____eq__ : S := sRet (mAndV (mU (isiA tb_Bearable to_Bearable) (mVar 1)) (mAndV (mB (eqA id) (mU (attrD ["Bearable"] [] "ways") (mVar 0)) (mU (attrD ["Bearable"] [] "ways") (mVar 1))) (mB (eqA id) (mU (attrD ["Bearable"] [] "stucks") (mVar 0)) (mU (attrD ["Bearable"] [] "stucks") (mVar 1)))))
def f_Bearable____eq__ : List D → Hd → Option (D × Hd) := runB 2 2 m_Bearable____eq__
theorem ok_Bearable____eq__ (g : Fx K mg base) : Ok P w K mg base 1 (He.fAd K ("Bearable", some "__eq__")) ["self", "other"] f_Bearable____eq__ :=
  ok_of (k := 0) g.f_Bearable____eq__ sc_Bearable____eq__ (fun _ _ _ _ _ _ us hl => match us, hl with | [_, _], _ => rfl) fun cdv A outer s H E hr => by
    have sc := sc_Bearable____eq__
    exact ls_one (ls_ret (le_and (le_isi (le_var (i := 1) rfl (vis_by rfl)) (pe_glob (v := .ref (He.ga K "Bearable")) rfl (g.k_Bearable) rfl) (.own _) (ans_of (g.an_Bearable)) rfl (g.b_isinstance) (by decide +kernel)) (le_and (le_cmp (op_eqA (ru5 hr)) (le_attr (fun c hc => by simp only [List.mem_cons, List.not_mem_nil, or_false] at hc; subst hc; exact g.fs_Bearable_ways) (fun c hc => by cases hc) (le_var (i := 0) rfl (vis_by rfl))) (le_attr (fun c hc => by simp only [List.mem_cons, List.not_mem_nil, or_false] at hc; subst hc; exact g.fs_Bearable_ways) (fun c hc => by cases hc) (le_var (i := 1) rfl (vis_by rfl)))) (le_one (le_cmp (op_eqA (ru5 hr)) (le_attr (fun c hc => by simp only [List.mem_cons, List.not_mem_nil, or_false] at hc; subst hc; exact g.fs_Bearable_stucks) (fun c hc => by cases hc) (le_var (i := 0) rfl (vis_by rfl))) (le_attr (fun c hc => by simp only [List.mem_cons, List.not_mem_nil, or_false] at hc; subst hc; exact g.fs_Bearable_stucks) (fun c hc => by cases hc) (le_var (i := 1) rfl (vis_by rfl))))))))

-- Bearable__is_known
theorem sc_Bearable__is_known : FnScope ["self", "doubt", "one"] ["self", "doubt"] (defScope (inCls 52 4)) := ⟨rfl, rfl, rfl, by decide +kernel, rfl, by decide +kernel, by decide +kernel⟩
def m_Bearable__is_known : S := sSeq (sIf (mTst (mCall anyF (mCons (mLc 2000 [2] (mSrc (mU (attrD ["Bearable"] [] "ways") (mVar 0))) (gName 2) (pur true) (mCall f_contains (mCons (mVar 2) (mCons (mVar 1) (pur []))))) (pur [])))) (sRet (pur (.bl true))) (sNil)) (sRet (mCall anyF (mCons (mLc 2000 [2] (mSrc (mU (attrD ["Bearable"] [] "stucks") (mVar 0))) (gName 2) (pur true) (mCall f_contains (mCons (mVar 1) (mCons (mVar 2) (pur []))))) (pur []))))
def f_Bearable__is_known : List D → Hd → Option (D × Hd) := runB 2 3 m_Bearable__is_known
theorem ok_Bearable__is_known (g : Fx K mg base) : Ok P w K mg base 2 (He.fAd K ("Bearable", some "is_known")) ["self", "doubt"] f_Bearable__is_known :=
  ok_of (k := 1) g.f_Bearable__is_known sc_Bearable__is_known (fun _ _ _ _ _ _ us hl => match us, hl with | [_, _], _ => rfl) fun cdv A outer s H E hr => by
    have sc := sc_Bearable__is_known
    exact ls_cons (ls_if (lt_val (le_callB (call_anyF rfl) rfl (g.b_any) (by decide +kernel) (la_cons (le_lc (own := [("one", 2)]) rfl sc.nd (li_any (le_attr (fun c hc => by simp only [List.mem_cons, List.not_mem_nil, or_false] at hc; subst hc; exact g.fs_Bearable_ways) (fun c hc => by cases hc) (le_var (i := 0) rfl (vis_by rfl)))) (blkOk_by (own := [("one", 2)]) (by kernel_rfl)) (fun _ _ _ _ _ => lgc_name (by decide) sc.nd rfl (loc_by rfl)) (fun _ _ _ _ _ => lts_nil) (fun _ _ _ _ _ => le_callO (ok_contains g) (hr.mono (by omega)) rfl (g.g_contains) (la_cons (le_var (i := 2) rfl (vis_by rfl)) (la_cons (le_var (i := 1) rfl (vis_by rfl)) (la_nil))))) (la_nil)))) (ls_one (ls_ret (le_cB))) (ls_nil)) (ls_one (ls_ret (le_callB (call_anyF rfl) rfl (g.b_any) (by decide +kernel) (la_cons (le_lc (own := [("one", 2)]) rfl sc.nd (li_any (le_attr (fun c hc => by simp only [List.mem_cons, List.not_mem_nil, or_false] at hc; subst hc; exact g.fs_Bearable_stucks) (fun c hc => by cases hc) (le_var (i := 0) rfl (vis_by rfl)))) (blkOk_by (own := [("one", 2)]) (by kernel_rfl)) (fun _ _ _ _ _ => lgc_name (by decide) sc.nd rfl (loc_by rfl)) (fun _ _ _ _ _ => lts_nil) (fun _ _ _ _ _ => le_callO (ok_contains g) (hr.mono (by omega)) rfl (g.g_contains) (la_cons (le_var (i := 1) rfl (vis_by rfl)) (la_cons (le_var (i := 2) rfl (vis_by rfl)) (la_nil))))) (la_nil)))))

-- are_apart
theorem sc_are_apart : FnScope ["lots", "one", "other"] ["lots"] (defScope (top 53)) := ⟨rfl, rfl, rfl, by decide +kernel, rfl, by decide +kernel, by decide +kernel⟩
def m_are_apart : S := sRet (mU notD (mCall anyF (mCons (mLc2 2000 2000 [1, 2] (mSrc (mVar 0)) (gName 1) (pur true) ⟨mSrc (mVar 0), gName 2, pur true, [2]⟩ (mAndV (mB (eqA not) (mVar 1) (mVar 2)) (mCall f_contains (mCons (mVar 1) (mCons (mVar 2) (pur [])))))) (pur []))))
def f_are_apart : List D → Hd → Option (D × Hd) := runB 1 3 m_are_apart
theorem ok_are_apart (g : Fx K mg base) : Ok P w K mg base 2 (He.fAd K ("are_apart", none)) ["lots"] f_are_apart :=
  ok_of (k := 1) g.f_are_apart sc_are_apart (fun _ _ _ _ _ _ us hl => match us, hl with | [_], _ => rfl) fun cdv A outer s H E hr => by
    have sc := sc_are_apart
    exact ls_one (ls_ret (le_not (le_callB (call_anyF rfl) rfl (g.b_any) (by decide +kernel) (la_cons (le_lc2 (own := [("one", 1), ("other", 2)]) rfl sc.nd (li_any (le_var (i := 0) rfl (vis_by rfl))) (blkOk_by (own := [("one", 1), ("other", 2)]) (by kernel_rfl)) (by decide) (fun _ _ _ _ _ => lgc_name (by decide) sc.nd rfl (loc_by rfl)) (fun _ _ _ _ _ => lts_nil) (fun _ _ _ _ _ => li_any (le_var (i := 0) rfl (vis_by rfl))) (fun _ _ _ _ _ => lgc_name (by decide) sc.nd rfl (loc_by rfl)) (fun _ _ _ _ _ => lts_nil) (fun _ _ _ _ _ => le_and (le_cmp (op_neA (ru5 hr)) (le_var (i := 1) rfl (vis_by rfl)) (le_var (i := 2) rfl (vis_by rfl))) (le_one (le_callO (ok_contains g) (hr.mono (by omega)) rfl (g.g_contains) (la_cons (le_var (i := 1) rfl (vis_by rfl)) (la_cons (le_var (i := 2) rfl (vis_by rfl)) (la_nil))))))) (la_nil)))))

-- is_duty
theorem sc_is_duty : FnScope ["shelf", "value", "command", "one", "other"] ["shelf", "value"] (defScope (top 58)) := ⟨rfl, rfl, rfl, by decide +kernel, rfl, by decide +kernel, by decide +kernel⟩
def m_is_duty : S := sSeq (sIf (mOr (mNot (mTst (mU (isiA tb_tuple to_tuple) (mVar 1)))) (mTst (mB (eqA id) (mVar 1) (mTup (pur []))))) (sRet (pur (.bl false))) (sNil)) (sSeq (sIf (mNot (mTst (mCall allF (mCons (mLc 2000 [2] (mSrc (mVar 1)) (gName 2) (pur true) (mCall f_is_integer (mCons (mVar 2) (mCons (pur (.int 0)) (mCons (mB subD (mU (attrD ["Shelf"] [] "many") (mVar 0)) (pur (.int 1))) (pur [])))))) (pur []))))) (sRet (pur (.bl false))) (sNil)) (sRet (mCall allF (mCons (mLc 2000 [3, 4] (mZip (mCons (mVar 1) (mCons (mSlc (mVar 1) (mPart (pur (.int 1))) (pur none)) (pur [])))) (gTup 2 (gCons (gName 3) (gCons (gName 4) (gNil)))) (pur true) (mB ltD (mVar 3) (mVar 4))) (pur [])))))
def f_is_duty : List D → Hd → Option (D × Hd) := runB 2 5 m_is_duty
theorem ok_is_duty (g : Fx K mg base) : Ok P w K mg base 2 (He.fAd K ("is_duty", none)) ["shelf", "value"] f_is_duty :=
  ok_of (k := 1) g.f_is_duty sc_is_duty (fun _ _ _ _ _ _ us hl => match us, hl with | [_, _], _ => rfl) fun cdv A outer s H E hr => by
    have sc := sc_is_duty
    exact ls_cons (ls_if (lt_w (lw_or (lt_not (lt_val (le_isi (le_var (i := 1) rfl (vis_by rfl)) (pe_bltn (v := .ty "tuple") (u := .type "tuple") rfl (g.b_tuple) (by decide +kernel) rfl) (.ty _) (ans_of (g.an_tuple)) rfl (g.b_isinstance) (by decide +kernel)))) (lw_or1 (lt_cmp (op_eqA (ru5 hr)) (le_var (i := 1) rfl (vis_by rfl)) (le_tup (la_nil)))))) (ls_one (ls_ret (le_cB))) (ls_nil)) (ls_cons (ls_if (lt_not (lt_val (le_callB (call_allF rfl) rfl (g.b_all) (by decide +kernel) (la_cons (le_lc (own := [("command", 2)]) rfl sc.nd (li_any (le_var (i := 1) rfl (vis_by rfl))) (blkOk_by (own := [("command", 2)]) (by kernel_rfl)) (fun _ _ _ _ _ => lgc_name (by decide) sc.nd rfl (loc_by rfl)) (fun _ _ _ _ _ => lts_nil) (fun _ _ _ _ _ => le_callO (ok_is_integer g) (hr.mono (by omega)) rfl (g.g_is_integer) (la_cons (le_var (i := 2) rfl (vis_by rfl)) (la_cons (le_cI) (la_cons (le_bin op_subD (le_attr (fun c hc => by simp only [List.mem_cons, List.not_mem_nil, or_false] at hc; subst hc; exact g.fs_Shelf_many) (fun c hc => by cases hc) (le_var (i := 0) rfl (vis_by rfl))) (le_cI)) (la_nil)))))) (la_nil))))) (ls_one (ls_ret (le_cB))) (ls_nil)) (ls_one (ls_ret (le_callB (call_allF rfl) rfl (g.b_all) (by decide +kernel) (la_cons (le_lc (own := [("one", 3), ("other", 4)]) rfl sc.nd (li_zip rfl (g.b_zip) (la_cons (le_var (i := 1) rfl (vis_by rfl)) (la_cons (le_slc (le_var (i := 1) rfl (vis_by rfl)) (lo_some (le_cI)) (lo_none)) (la_nil)))) (blkOk_by (own := [("one", 3), ("other", 4)]) (by kernel_rfl)) (fun _ _ _ _ _ => lgc_tup rfl (lgcs_cons (lgc_name (by decide) sc.nd rfl (loc_by rfl)) (lgcs_cons (lgc_name (by decide) sc.nd rfl (loc_by rfl)) (lgcs_nil)))) (fun _ _ _ _ _ => lts_nil) (fun _ _ _ _ _ => le_cmp (op_ltD (ru0 hr)) (le_var (i := 3) rfl (vis_by rfl)) (le_var (i := 4) rfl (vis_by rfl)))) (la_nil))))))

-- answers_in
theorem sc_answers_in : FnScope ["shelf", "doubt", "duty", "able", "command"] ["shelf", "doubt", "duty"] (defScope (top 60)) := ⟨rfl, rfl, rfl, by decide +kernel, rfl, by decide +kernel, by decide +kernel⟩
def m_answers_in : S := sSeq (sAsg (mLc 2000 [4] (mSrc (mVar 2)) (gName 4) (mTst (mCall f_is_safe (mCons (mVar 0) (mCons (mVar 1) (mCons (mVar 4) (pur [])))))) (mVar 4)) (gName 3)) (sRet (mLc 2000 [4] (mSrc (mVar 3)) (gName 4) (pur true) (mTup (mCons (mVar 4) (mCons (mLstV (mCall f_parts_after (mCons (mVar 0) (mCons (mVar 1) (mCons (mVar 4) (pur [])))))) (pur []))))))
def f_answers_in : List D → Hd → Option (D × Hd) := runB 3 5 m_answers_in
theorem ok_answers_in (g : Fx K mg base) : Ok P w K mg base 3 (He.fAd K ("answers_in", none)) ["shelf", "doubt", "duty"] f_answers_in :=
  ok_of (k := 2) g.f_answers_in sc_answers_in (fun _ _ _ _ _ _ us hl => match us, hl with | [_, _, _], _ => rfl) fun cdv A outer s H E hr => by
    have sc := sc_answers_in
    exact ls_cons (ls_setLc (own := [("command", 4)]) rfl sc.nd rfl rfl (sw_true rfl rfl rfl rfl) (li_any (le_var (i := 2) rfl (vis_by rfl))) (blkOk_by (own := [("command", 4)]) (by kernel_rfl)) (fun _ _ _ _ _ => lgc_name (by decide) sc.nd rfl (loc_by rfl)) (fun _ _ _ _ _ => lts_one (lt_val (le_callO (ok_is_safe g) (hr.mono (by omega)) rfl (g.g_is_safe) (la_cons (le_var (i := 0) rfl (vis_by rfl)) (la_cons (le_var (i := 1) rfl (vis_by rfl)) (la_cons (le_var (i := 4) rfl (vis_by rfl)) (la_nil))))))) (fun _ _ _ _ _ => le_var (i := 4) rfl (vis_by rfl))) (ls_one (ls_ret (le_lc (own := [("command", 4)]) rfl sc.nd (li_any (le_var (i := 3) rfl (vis_by rfl))) (blkOk_by (own := [("command", 4)]) (by kernel_rfl)) (fun _ _ _ _ _ => lgc_name (by decide) sc.nd rfl (loc_by rfl)) (fun _ _ _ _ _ => lts_nil) (fun _ _ _ _ _ => le_tup (la_cons (le_var (i := 4) rfl (vis_by rfl)) (la_cons (le_listV rfl (le_callO (ok_parts_after g) (hr.mono (by omega)) rfl (g.g_parts_after) (la_cons (le_var (i := 0) rfl (vis_by rfl)) (la_cons (le_var (i := 1) rfl (vis_by rfl)) (la_cons (le_var (i := 4) rfl (vis_by rfl)) (la_nil))))) rfl (g.b_list) (by decide +kernel)) (la_nil)))))))

-- Serves____init__
theorem sc_Serves____init__ : FnScope ["self", "doubts", "answers"] ["self", "doubts", "answers"] (defScope (inCls 61 1)) := ⟨rfl, rfl, rfl, by decide +kernel, rfl, by decide +kernel, by decide +kernel⟩
def m_Serves____init__ : S := sSeq (sAtt (setD "Serves" "doubts" ["doubts", "answers"]) (mVar 0) (mCall listA (mCons (mVar 1) (pur [])))) (sAtt (setD "Serves" "answers" ["doubts", "answers"]) (mVar 0) (mCall dictF (mCons (mVar 2) (pur []))))
def f_Serves____init__ : List D → Hd → Option (D × Hd) := runB 3 3 m_Serves____init__
theorem ok_Serves____init__ (g : Fx K mg base) : Ok P w K mg base 1 (He.fAd K ("Serves", some "__init__")) ["self", "doubts", "answers"] f_Serves____init__ :=
  ok_of (k := 0) g.f_Serves____init__ sc_Serves____init__ (fun _ _ _ _ _ _ us hl => match us, hl with | [_, _, _], _ => rfl) fun cdv A outer s H E hr => by
    have sc := sc_Serves____init__
    exact ls_cons (ls_slot (g.st_Serves_doubts) (le_var (i := 0) rfl (vis_by rfl)) (le_callTy (call_listA rfl) rfl (g.b_list) (by decide +kernel) (la_cons (le_var (i := 1) rfl (vis_by rfl)) (la_nil)))) (ls_one (ls_slot (g.st_Serves_answers) (le_var (i := 0) rfl (vis_by rfl)) (le_callTy (call_dictF (ru4 hr)) rfl (g.b_dict) (by decide +kernel) (la_cons (le_var (i := 2) rfl (vis_by rfl)) (la_nil)))))

-- Serves____eq__
theorem sc_Serves____eq__ : FnScope ["self", "other"] ["self", "other"] (defScope (inCls 61 2)) := ⟨rfl, rfl, rfl, by decide +kernel, rfl, by decide +kernel, by decide +kernel⟩
def m_Serves____eq__ : S := sRet (mAndV (mU (isiA tb_Serves to_Serves) (mVar 1)) (mAndV (mB (eqA id) (mU (attrD ["Serves"] [] "doubts") (mVar 0)) (mU (attrD ["Stuck", "Serves"] [] "doubts") (mVar 1))) (mB (eqA id) (mU (attrD ["Serves"] [] "answers") (mVar 0)) (mU (attrD ["Serves"] [] "answers") (mVar 1)))))
def f_Serves____eq__ : List D → Hd → Option (D × Hd) := runB 2 2 m_Serves____eq__
theorem ok_Serves____eq__ (g : Fx K mg base) : Ok P w K mg base 1 (He.fAd K ("Serves", some "__eq__")) ["self", "other"] f_Serves____eq__ :=
  ok_of (k := 0) g.f_Serves____eq__ sc_Serves____eq__ (fun _ _ _ _ _ _ us hl => match us, hl with | [_, _], _ => rfl) fun cdv A outer s H E hr => by
    have sc := sc_Serves____eq__
    exact ls_one (ls_ret (le_and (le_isi (le_var (i := 1) rfl (vis_by rfl)) (pe_glob (v := .ref (He.ga K "Serves")) rfl (g.k_Serves) rfl) (.own _) (ans_of (g.an_Serves)) rfl (g.b_isinstance) (by decide +kernel)) (le_and (le_cmp (op_eqA (ru5 hr)) (le_attr (fun c hc => by simp only [List.mem_cons, List.not_mem_nil, or_false] at hc; subst hc; exact g.fs_Serves_doubts) (fun c hc => by cases hc) (le_var (i := 0) rfl (vis_by rfl))) (le_attr (fun c hc => by simp only [List.mem_cons, List.not_mem_nil, or_false] at hc; rcases hc with rfl | rfl <;> first | exact g.fs_Stuck_doubts | exact g.fs_Serves_doubts) (fun c hc => by cases hc) (le_var (i := 1) rfl (vis_by rfl)))) (le_one (le_cmp (op_eqA (ru5 hr)) (le_attr (fun c hc => by simp only [List.mem_cons, List.not_mem_nil, or_false] at hc; subst hc; exact g.fs_Serves_answers) (fun c hc => by cases hc) (le_var (i := 0) rfl (vis_by rfl))) (le_attr (fun c hc => by simp only [List.mem_cons, List.not_mem_nil, or_false] at hc; subst hc; exact g.fs_Serves_answers) (fun c hc => by cases hc) (le_var (i := 1) rfl (vis_by rfl))))))))

-- Serves__serves
theorem sc_Serves__serves : FnScope ["self", "shelf", "doubt", "duty", "known", "number", "commands", "command", "later"] ["self", "shelf", "doubt", "duty", "known"] (defScope (inCls 61 4)) := ⟨rfl, rfl, rfl, by decide +kernel, rfl, by decide +kernel, by decide +kernel⟩
def m_Serves__serves : S := sSeq (sAsg (mVar 3) (gTup 2 (gCons (gName 5) (gCons (gName 6) (gNil))))) (sSeq (sAsg (mMeth "dict" getM (mU (attrD ["Serves"] [] "answers") (mVar 0)) (mCons (mTup (mCons (mVar 2) (mCons (mVar 5) (pur [])))) (mCons (pur .non) (pur [])))) (gName 7)) (sSeq (sIf (mOr (mTst (mB (inA not) (mVar 7) (mVar 6))) (mNot (mTst (mCall f_is_safe (mCons (mVar 1) (mCons (mVar 2) (mCons (mVar 7) (pur [])))))))) (sRet (pur (.bl false))) (sNil)) (sRet (mCall allF (mCons (mLc 2000 [8] (mDsr .val (mCall f_parts_after (mCons (mVar 1) (mCons (mVar 2) (mCons (mVar 7) (pur [])))))) (gName 8) (pur true) (mB (inA id) (mVar 8) (mVar 4))) (pur []))))))
def f_Serves__serves : List D → Hd → Option (D × Hd) := runB 5 9 m_Serves__serves
theorem ok_Serves__serves (g : Fx K mg base) : Ok P w K mg base 3 (He.fAd K ("Serves", some "serves")) ["self", "shelf", "doubt", "duty", "known"] f_Serves__serves :=
  ok_of (k := 2) g.f_Serves__serves sc_Serves__serves (fun _ _ _ _ _ _ us hl => match us, hl with | [_, _, _, _, _], _ => rfl) fun cdv A outer s H E hr => by
    have sc := sc_Serves__serves
    exact ls_cons (ls_asg (le_var (i := 3) rfl (vis_by rfl)) (lg_tup rfl (lgs_cons (lg_name sc.nd rfl (loc_by rfl)) (lgs_cons (lg_name sc.nd rfl (loc_by rfl)) (lgs_nil))))) (ls_cons (ls_set sc.nd rfl (loc_by rfl) (le_bm PySem.F.plainAttrs_dict PySem.F.slot_dict_get PySem.F.type_dict_get (mt_getM (ru4 hr)) (le_attr (fun c hc => by simp only [List.mem_cons, List.not_mem_nil, or_false] at hc; subst hc; exact g.fs_Serves_answers) (fun c hc => by cases hc) (le_var (i := 0) rfl (vis_by rfl))) (la_cons (le_tup (la_cons (le_var (i := 2) rfl (vis_by rfl)) (la_cons (le_var (i := 5) rfl (vis_by rfl)) (la_nil)))) (la_cons (le_cN) (la_nil))))) (ls_cons (ls_if (lt_w (lw_or (lt_cmp (op_notInA (ru5 hr)) (le_var (i := 7) rfl (vis_by rfl)) (le_var (i := 6) rfl (vis_by rfl))) (lw_or1 (lt_not (lt_val (le_callO (ok_is_safe g) (hr.mono (by omega)) rfl (g.g_is_safe) (la_cons (le_var (i := 1) rfl (vis_by rfl)) (la_cons (le_var (i := 2) rfl (vis_by rfl)) (la_cons (le_var (i := 7) rfl (vis_by rfl)) (la_nil)))))))))) (ls_one (ls_ret (le_cB))) (ls_nil)) (ls_one (ls_ret (le_callB (call_allF rfl) rfl (g.b_all) (by decide +kernel) (la_cons (le_lc (own := [("later", 8)]) rfl sc.nd (li_values (le_callO (ok_parts_after g) (hr.mono (by omega)) rfl (g.g_parts_after) (la_cons (le_var (i := 1) rfl (vis_by rfl)) (la_cons (le_var (i := 2) rfl (vis_by rfl)) (la_cons (le_var (i := 7) rfl (vis_by rfl)) (la_nil)))))) (blkOk_by (own := [("later", 8)]) (by kernel_rfl)) (fun _ _ _ _ _ => lgc_name (by decide) sc.nd rfl (loc_by rfl)) (fun _ _ _ _ _ => lts_nil) (fun _ _ _ _ _ => le_cmp (op_inA (ru5 hr)) (le_var (i := 8) rfl (vis_by rfl)) (le_var (i := 4) rfl (vis_by rfl)))) (la_nil)))))))

-- Breaks____init__
theorem sc_Breaks____init__ : FnScope ["self", "plan"] ["self", "plan"] (defScope (inCls 62 1)) := ⟨rfl, rfl, rfl, by decide +kernel, rfl, by decide +kernel, by decide +kernel⟩
def m_Breaks____init__ : S := sAtt (setD "Breaks" "plan" ["plan"]) (mVar 0) (mCall dictF (mCons (mVar 1) (pur [])))
def f_Breaks____init__ : List D → Hd → Option (D × Hd) := runB 2 2 m_Breaks____init__
theorem ok_Breaks____init__ (g : Fx K mg base) : Ok P w K mg base 1 (He.fAd K ("Breaks", some "__init__")) ["self", "plan"] f_Breaks____init__ :=
  ok_of (k := 0) g.f_Breaks____init__ sc_Breaks____init__ (fun _ _ _ _ _ _ us hl => match us, hl with | [_, _], _ => rfl) fun cdv A outer s H E hr => by
    have sc := sc_Breaks____init__
    exact ls_one (ls_slot (g.st_Breaks_plan) (le_var (i := 0) rfl (vis_by rfl)) (le_callTy (call_dictF (ru4 hr)) rfl (g.b_dict) (by decide +kernel) (la_cons (le_var (i := 1) rfl (vis_by rfl)) (la_nil))))

-- Breaks____eq__
theorem sc_Breaks____eq__ : FnScope ["self", "other"] ["self", "other"] (defScope (inCls 62 2)) := ⟨rfl, rfl, rfl, by decide +kernel, rfl, by decide +kernel, by decide +kernel⟩
def m_Breaks____eq__ : S := sRet (mAndV (mU (isiA tb_Breaks to_Breaks) (mVar 1)) (mB (eqA id) (mU (attrD ["Breaks"] [] "plan") (mVar 0)) (mU (attrD ["Breaks"] ["Search"] "plan") (mVar 1))))
def f_Breaks____eq__ : List D → Hd → Option (D × Hd) := runB 2 2 m_Breaks____eq__
theorem ok_Breaks____eq__ (g : Fx K mg base) : Ok P w K mg base 1 (He.fAd K ("Breaks", some "__eq__")) ["self", "other"] f_Breaks____eq__ :=
  ok_of (k := 0) g.f_Breaks____eq__ sc_Breaks____eq__ (fun _ _ _ _ _ _ us hl => match us, hl with | [_, _], _ => rfl) fun cdv A outer s H E hr => by
    have sc := sc_Breaks____eq__
    exact ls_one (ls_ret (le_and (le_isi (le_var (i := 1) rfl (vis_by rfl)) (pe_glob (v := .ref (He.ga K "Breaks")) rfl (g.k_Breaks) rfl) (.own _) (ans_of (g.an_Breaks)) rfl (g.b_isinstance) (by decide +kernel)) (le_one (le_cmp (op_eqA (ru5 hr)) (le_attr (fun c hc => by simp only [List.mem_cons, List.not_mem_nil, or_false] at hc; subst hc; exact g.fs_Breaks_plan) (fun c hc => by cases hc) (le_var (i := 0) rfl (vis_by rfl))) (le_attr (fun c hc => by simp only [List.mem_cons, List.not_mem_nil, or_false] at hc; subst hc; exact g.fs_Breaks_plan) (fun c hc => by simp only [List.mem_cons, List.not_mem_nil, or_false] at hc; subst hc; exact g.fd_Search_plan) (le_var (i := 1) rfl (vis_by rfl)))))))

-- Breaks__leads_down
theorem sc_Breaks__leads_down : FnScope ["self", "shelf", "doubt", "duties", "rank", "number", "command", "lots", "one"] ["self", "shelf", "doubt", "duties"] (defScope (inCls 62 4)) := ⟨rfl, rfl, rfl, by decide +kernel, rfl, by decide +kernel, by decide +kernel⟩
def m_Breaks__leads_down : S := sSeq (sAsg (mB ixA (mU (attrD ["Breaks"] [] "plan") (mVar 0)) (mVar 2)) (gTup 2 (gCons (gName 4) (gCons (gName 5) (gNil))))) (sSeq (sIf (mOr (mTst (mB ltD (mVar 4) (pur (.int 0)))) (mNot (mTst (mCall f_is_integer (mCons (mVar 5) (mCons (pur (.int 0)) (mCons (mB subD (mCall lenF (mCons (mVar 3) (pur []))) (pur (.int 1))) (pur [])))))))) (sRet (pur (.bl false))) (sNil)) (sSeq (sFr 2000 (mSrc (mCall f_answers_in (mCons (mVar 1) (mCons (mVar 2) (mCons (mB ixA (mVar 3) (mVar 5)) (pur [])))))) (gTup 2 (gCons (gName 6) (gCons (gName 7) (gNil)))) (sIf (mNot (mTst (mCall anyF (mCons (mLc 2000 [8] (mSrc (mVar 7)) (gName 8) (pur true) (mAndV (mB (inA id) (mVar 8) (mU (attrD ["Breaks"] [] "plan") (mVar 0))) (mB ltD (mB ixA (mB ixA (mU (attrD ["Breaks"] [] "plan") (mVar 0)) (mVar 8)) (pur (.int 0))) (mVar 4)))) (pur []))))) (sRet (pur (.bl false))) (sNil))) (sRet (pur (.bl true)))))
def f_Breaks__leads_down : List D → Hd → Option (D × Hd) := runB 4 9 m_Breaks__leads_down
theorem ok_Breaks__leads_down (g : Fx K mg base) : Ok P w K mg base 4 (He.fAd K ("Breaks", some "leads_down")) ["self", "shelf", "doubt", "duties"] f_Breaks__leads_down :=
  ok_of (k := 3) g.f_Breaks__leads_down sc_Breaks__leads_down (fun _ _ _ _ _ _ us hl => match us, hl with | [_, _, _, _], _ => rfl) fun cdv A outer s H E hr => by
    have sc := sc_Breaks__leads_down
    exact ls_cons (ls_asg (le_ix (ix_A (ru4 hr)) (le_attr (fun c hc => by simp only [List.mem_cons, List.not_mem_nil, or_false] at hc; subst hc; exact g.fs_Breaks_plan) (fun c hc => by cases hc) (le_var (i := 0) rfl (vis_by rfl))) (le_var (i := 2) rfl (vis_by rfl))) (lg_tup rfl (lgs_cons (lg_name sc.nd rfl (loc_by rfl)) (lgs_cons (lg_name sc.nd rfl (loc_by rfl)) (lgs_nil))))) (ls_cons (ls_if (lt_w (lw_or (lt_cmp (op_ltD (ru0 hr)) (le_var (i := 4) rfl (vis_by rfl)) (le_cI)) (lw_or1 (lt_not (lt_val (le_callO (ok_is_integer g) (hr.mono (by omega)) rfl (g.g_is_integer) (la_cons (le_var (i := 5) rfl (vis_by rfl)) (la_cons (le_cI) (la_cons (le_bin op_subD (le_callB (call_lenF) rfl (g.b_len) (by decide +kernel) (la_cons (le_var (i := 3) rfl (vis_by rfl)) (la_nil))) (le_cI)) (la_nil)))))))))) (ls_one (ls_ret (le_cB))) (ls_nil)) (ls_cons (ls_for PassesOwn.never rfl (li_any (le_callO (ok_answers_in g) (hr.mono (by omega)) rfl (g.g_answers_in) (la_cons (le_var (i := 1) rfl (vis_by rfl)) (la_cons (le_var (i := 2) rfl (vis_by rfl)) (la_cons (le_ix (ix_A (ru4 hr)) (le_var (i := 3) rfl (vis_by rfl)) (le_var (i := 5) rfl (vis_by rfl))) (la_nil)))))) (lg_tup rfl (lgs_cons (lg_name sc.nd rfl (loc_by rfl)) (lgs_cons (lg_name sc.nd rfl (loc_by rfl)) (lgs_nil)))) (ls_one (ls_if (lt_not (lt_val (le_callB (call_anyF rfl) rfl (g.b_any) (by decide +kernel) (la_cons (le_lc (own := [("one", 8)]) rfl sc.nd (li_any (le_var (i := 7) rfl (vis_by rfl))) (blkOk_by (own := [("one", 8)]) (by kernel_rfl)) (fun _ _ _ _ _ => lgc_name (by decide) sc.nd rfl (loc_by rfl)) (fun _ _ _ _ _ => lts_nil) (fun _ _ _ _ _ => le_and (le_cmp (op_inA (ru5 hr)) (le_var (i := 8) rfl (vis_by rfl)) (le_attr (fun c hc => by simp only [List.mem_cons, List.not_mem_nil, or_false] at hc; subst hc; exact g.fs_Breaks_plan) (fun c hc => by cases hc) (le_var (i := 0) rfl (vis_by rfl)))) (le_one (le_cmp (op_ltD (ru0 hr)) (le_ix (ix_A (ru4 hr)) (le_ix (ix_A (ru4 hr)) (le_attr (fun c hc => by simp only [List.mem_cons, List.not_mem_nil, or_false] at hc; subst hc; exact g.fs_Breaks_plan) (fun c hc => by cases hc) (le_var (i := 0) rfl (vis_by rfl))) (le_var (i := 8) rfl (vis_by rfl))) (le_cI)) (le_var (i := 4) rfl (vis_by rfl)))))) (la_nil))))) (ls_one (ls_ret (le_cB))) (ls_nil)))) (ls_one (ls_ret (le_cB)))))

-- Search__ends_of
theorem sc_Search__ends_of : FnScope ["self", "doubt", "rows", "command", "lots", "one"] ["self", "doubt"] (defScope (inCls 63 1)) := ⟨rfl, rfl, rfl, by decide +kernel, rfl, by decide +kernel, by decide +kernel⟩
def m_Search__ends_of : S := sRet (mLc3 2000 [2, 3, 4, 5] (mSrc (mB ixA (mU (attrD [] ["Search"] "rows") (mVar 0)) (mVar 1))) (gName 2) (pur true) ⟨mSrc (mVar 2), gTup 2 (gCons (gName 3) (gCons (gName 4) (gNil))), pur true, [3, 4, 5]⟩ ⟨mSrc (mVar 4), gName 5, pur true, [5]⟩ (mVar 5))
def f_Search__ends_of : List D → Hd → Option (D × Hd) := runB 2 6 m_Search__ends_of
theorem ok_Search__ends_of (g : Fx K mg base) : Ok P w K mg base 1 (He.fAd K ("Search", some "ends_of")) ["self", "doubt"] f_Search__ends_of :=
  ok_of (k := 0) g.f_Search__ends_of sc_Search__ends_of (fun _ _ _ _ _ _ us hl => match us, hl with | [_, _], _ => rfl) fun cdv A outer s H E hr => by
    have sc := sc_Search__ends_of
    exact ls_one (ls_ret (le_lc3 (own := [("rows", 2), ("command", 3), ("lots", 4), ("one", 5)]) rfl sc.nd (li_any (le_ix (ix_A (ru4 hr)) (le_attr (fun c hc => by cases hc) (fun c hc => by simp only [List.mem_cons, List.not_mem_nil, or_false] at hc; subst hc; exact g.fd_Search_rows) (le_var (i := 0) rfl (vis_by rfl))) (le_var (i := 1) rfl (vis_by rfl)))) (blkOk_by (own := [("rows", 2), ("command", 3), ("lots", 4), ("one", 5)]) (by kernel_rfl)) (by decide) (by decide) (fun _ _ _ _ _ => lgc_name (by decide) sc.nd rfl (loc_by rfl)) (fun _ _ _ _ _ => lts_nil) (fun _ _ _ _ _ => li_any (le_var (i := 2) rfl (vis_by rfl))) (fun _ _ _ _ _ => lgc_tup rfl (lgcs_cons (lgc_name (by decide) sc.nd rfl (loc_by rfl)) (lgcs_cons (lgc_name (by decide) sc.nd rfl (loc_by rfl)) (lgcs_nil)))) (fun _ _ _ _ _ => lts_nil) (fun _ _ _ _ _ => li_any (le_var (i := 4) rfl (vis_by rfl))) (fun _ _ _ _ _ => lgc_name (by decide) sc.nd rfl (loc_by rfl)) (fun _ _ _ _ _ => lts_nil) (fun _ _ _ _ _ => le_var (i := 5) rfl (vis_by rfl))))

-- Search__has_answer
theorem sc_Search__has_answer : FnScope ["self", "row", "command", "lots", "one"] ["self", "row"] (defScope (inCls 63 3)) := ⟨rfl, rfl, rfl, by decide +kernel, rfl, by decide +kernel, by decide +kernel⟩
def m_Search__has_answer : S := sRet (mCall anyF (mCons (mLc 2000 [2, 3] (mSrc (mVar 1)) (gTup 2 (gCons (gName 2) (gCons (gName 3) (gNil)))) (pur true) (mCall allF (mCons (mLc 2000 [4] (mSrc (mVar 3)) (gName 4) (pur true) (mB (inA not) (mVar 4) (mU (attrD [] ["Search"] "plan") (mVar 0)))) (pur [])))) (pur [])))
def f_Search__has_answer : List D → Hd → Option (D × Hd) := runB 2 5 m_Search__has_answer
theorem ok_Search__has_answer (g : Fx K mg base) : Ok P w K mg base 1 (He.fAd K ("Search", some "has_answer")) ["self", "row"] f_Search__has_answer :=
  ok_of (k := 0) g.f_Search__has_answer sc_Search__has_answer (fun _ _ _ _ _ _ us hl => match us, hl with | [_, _], _ => rfl) fun cdv A outer s H E hr => by
    have sc := sc_Search__has_answer
    exact ls_one (ls_ret (le_callB (call_anyF rfl) rfl (g.b_any) (by decide +kernel) (la_cons (le_lc (own := [("command", 2), ("lots", 3)]) rfl sc.nd (li_any (le_var (i := 1) rfl (vis_by rfl))) (blkOk_by (own := [("command", 2), ("lots", 3)]) (by kernel_rfl)) (fun _ _ _ _ _ => lgc_tup rfl (lgcs_cons (lgc_name (by decide) sc.nd rfl (loc_by rfl)) (lgcs_cons (lgc_name (by decide) sc.nd rfl (loc_by rfl)) (lgcs_nil)))) (fun _ _ _ _ _ => lts_nil) (fun _ _ _ _ _ => le_callB (call_allF rfl) rfl (g.b_all) (by decide +kernel) (la_cons (le_lc (own := [("one", 4)]) rfl sc.nd (li_any (le_var (i := 3) rfl (vis_by rfl))) (blkOk_by (own := [("one", 4)]) (by kernel_rfl)) (fun _ _ _ _ _ => lgc_name (by decide) sc.nd rfl (loc_by rfl)) (fun _ _ _ _ _ => lts_nil) (fun _ _ _ _ _ => le_cmp (op_notInA (ru5 hr)) (le_var (i := 4) rfl (vis_by rfl)) (le_attr (fun c hc => by cases hc) (fun c hc => by simp only [List.mem_cons, List.not_mem_nil, or_false] at hc; subst hc; exact g.fd_Search_plan) (le_var (i := 0) rfl (vis_by rfl))))) (la_nil)))) (la_nil))))

-- serving
theorem sc_serving : FnScope ["search", "doubt", "lots", "waiting", "answers", "here", "number", "row", "able", "later", "pair", "one"] ["search", "doubt"] (defScope (top 64)) := ⟨rfl, rfl, rfl, by decide +kernel, rfl, by decide +kernel, by decide +kernel⟩
def m_serving : S := sSeq (sPar3 2 3 4 (mCons (mDisp (mPcons (mVar 1) (pur (.bl true)) (pur []))) (mCons (mLst (mCons (mVar 1) (pur []))) (mCons (mDic0) (pur []))))) (sSeq (sWhile (mTst (mB (eqA not) (mVar 3) (mLst (pur [])))) (sSeq (sAsg (mMeth "list" pop0M (mVar 3) (mCons (pur (.int 0)) (pur []))) (gName 5)) (sFr 2000 (mEnu (mCons (mB ixA (mU (attrD ["Shelf"] ["Search"] "rows") (mVar 0)) (mVar 5)) (pur []))) (gTup 2 (gCons (gName 6) (gCons (gName 7) (gNil)))) (sSeq (sAsg (mLc 2000 [10] (mSrc (mVar 7)) (gName 10) (mTst (mCall allF (mCons (mLc 2000 [11] (mSrc (mB ixA (mVar 10) (pur (.int 1)))) (gName 11) (pur true) (mB (inA not) (mVar 11) (mU (attrD ["Breaks"] ["Search"] "plan") (mVar 0)))) (pur [])))) (mVar 10)) (gName 8)) (sSeq (sAsg (mB ixA (mB ixA (mVar 8) (pur (.int 0))) (pur (.int 0))) (gSubD (mVar 4) (mTup (mCons (mVar 5) (mCons (mVar 6) (pur [])))))) (sFr 2000 (mSrc (mB ixA (mB ixA (mVar 8) (pur (.int 0))) (pur (.int 1)))) (gName 9) (sIf (mTst (mB (inA not) (mVar 9) (mVar 2))) (sSeq (sAsg (pur (.bl true)) (gSubD (mVar 2) (mVar 9))) (sExp (mMeth "list" appM (mVar 3) (mCons (mVar 9) (pur []))))) (sNil))))))) 2000) (sRet (mMake true "Serves" f_Serves____init__ (mCons (mCall listA (mCons (mVar 2) (pur []))) (mCons (mVar 4) (pur []))))))
def f_serving : List D → Hd → Option (D × Hd) := runB 2 12 m_serving
theorem ok_serving (g : Fx K mg base) : Ok P w K mg base 3 (He.fAd K ("serving", none)) ["search", "doubt"] f_serving :=
  ok_of (k := 2) g.f_serving sc_serving (fun _ _ _ _ _ _ us hl => match us, hl with | [_, _], _ => rfl) fun cdv A outer s H E hr => by
    have sc := sc_serving
    exact ls_cons (ls_par3 rfl sc.nd rfl rfl rfl (by decide) (by decide) (by decide) rfl rfl rfl (la_cons (le_disp (ru4 hr) (lp_cons (le_var (i := 1) rfl (vis_by rfl)) (le_cB) (lp_nil))) (la_cons (le_lst (la_cons (le_var (i := 1) rfl (vis_by rfl)) (la_nil))) (la_cons (le_dic0) (la_nil)))) rfl) (ls_cons (ls_while PassesOwn.never (lt_cmp (op_neA (ru5 hr)) (le_var (i := 3) rfl (vis_by rfl)) (le_lst (la_nil))) (ls_cons (ls_set sc.nd rfl (loc_by rfl) (le_bm PySem.F.plainAttrs_list PySem.F.slot_list_pop PySem.F.type_list_pop (mt_pop0M) (le_var (i := 3) rfl (vis_by rfl)) (la_cons (le_cI) (la_nil)))) (ls_one (ls_for PassesOwn.never rfl (li_enum rfl (g.b_enumerate) (la_cons (le_ix (ix_A (ru4 hr)) (le_attr (fun c hc => by simp only [List.mem_cons, List.not_mem_nil, or_false] at hc; subst hc; exact g.fs_Shelf_rows) (fun c hc => by simp only [List.mem_cons, List.not_mem_nil, or_false] at hc; subst hc; exact g.fd_Search_rows) (le_var (i := 0) rfl (vis_by rfl))) (le_var (i := 5) rfl (vis_by rfl))) (la_nil))) (lg_tup rfl (lgs_cons (lg_name sc.nd rfl (loc_by rfl)) (lgs_cons (lg_name sc.nd rfl (loc_by rfl)) (lgs_nil)))) (ls_cons (ls_setLc (own := [("pair", 10)]) rfl sc.nd rfl rfl (sw_true rfl rfl rfl rfl) (li_any (le_var (i := 7) rfl (vis_by rfl))) (blkOk_by (own := [("pair", 10)]) (by kernel_rfl)) (fun _ _ _ _ _ => lgc_name (by decide) sc.nd rfl (loc_by rfl)) (fun _ _ _ _ _ => lts_one (lt_val (le_callB (call_allF rfl) rfl (g.b_all) (by decide +kernel) (la_cons (le_lc (own := [("one", 11)]) rfl sc.nd (li_any (le_ix (ix_A (ru4 hr)) (le_var (i := 10) rfl (vis_by rfl)) (le_cI))) (blkOk_by (own := [("one", 11)]) (by kernel_rfl)) (fun _ _ _ _ _ => lgc_name (by decide) sc.nd rfl (loc_by rfl)) (fun _ _ _ _ _ => lts_nil) (fun _ _ _ _ _ => le_cmp (op_notInA (ru5 hr)) (le_var (i := 11) rfl (vis_by rfl)) (le_attr (fun c hc => by simp only [List.mem_cons, List.not_mem_nil, or_false] at hc; subst hc; exact g.fs_Breaks_plan) (fun c hc => by simp only [List.mem_cons, List.not_mem_nil, or_false] at hc; subst hc; exact g.fd_Search_plan) (le_var (i := 0) rfl (vis_by rfl))))) (la_nil))))) (fun _ _ _ _ _ => le_var (i := 10) rfl (vis_by rfl))) (ls_cons (ls_asg (le_ix (ix_A (ru4 hr)) (le_ix (ix_A (ru4 hr)) (le_var (i := 8) rfl (vis_by rfl)) (le_cI)) (le_cI)) (lg_sub (ru4 hr) (le_var (i := 4) rfl (vis_by rfl)) (le_tup (la_cons (le_var (i := 5) rfl (vis_by rfl)) (la_cons (le_var (i := 6) rfl (vis_by rfl)) (la_nil)))))) (ls_one (ls_for PassesOwn.never rfl (li_any (le_ix (ix_A (ru4 hr)) (le_ix (ix_A (ru4 hr)) (le_var (i := 8) rfl (vis_by rfl)) (le_cI)) (le_cI))) (lg_name sc.nd rfl (loc_by rfl)) (ls_one (ls_if (lt_cmp (op_notInA (ru5 hr)) (le_var (i := 9) rfl (vis_by rfl)) (le_var (i := 2) rfl (vis_by rfl))) (ls_cons (ls_asg (le_cB) (lg_sub (ru4 hr) (le_var (i := 2) rfl (vis_by rfl)) (le_var (i := 9) rfl (vis_by rfl)))) (ls_one (ls_exp (le_bm PySem.F.plainAttrs_list PySem.F.slot_list_append PySem.F.type_list_append (mt_appM) (le_var (i := 3) rfl (vis_by rfl)) (la_cons (le_var (i := 9) rfl (vis_by rfl)) (la_nil)))))) (ls_nil))))))))))) (ls_one (ls_ret (le_makeO (sl := true) (g.mk_Serves) (ok_Serves____init__ g) (hr.mono (by omega)) rfl (g.k_Serves) (la_cons (le_callTy (call_listA rfl) rfl (g.b_list) (by decide +kernel) (la_cons (le_var (i := 2) rfl (vis_by rfl)) (la_nil))) (la_cons (le_var (i := 4) rfl (vis_by rfl)) (la_nil)))))))

-- is_doubt
theorem sc_is_doubt : FnScope ["shelf", "value", "pair", "one", "other"] ["shelf", "value"] (defScope (top 22)) := ⟨rfl, rfl, rfl, by decide +kernel, rfl, by decide +kernel, by decide +kernel⟩
def m_is_doubt : S := sSeq (sIf (mOr (mNot (mTst (mU (isiA tb_tuple to_tuple) (mVar 1)))) (mOr (mTst (mB (eqA id) (mVar 1) (mTup (pur [])))) (mNot (mTst (mCall allF (mCons (mLc 2000 [2] (mSrc (mVar 1)) (gName 2) (pur true) (mCall f_is_pair (mCons (mVar 0) (mCons (mVar 2) (pur []))))) (pur []))))))) (sRet (pur (.bl false))) (sNil)) (sRet (mCall allF (mCons (mLc 2000 [3, 4] (mZip (mCons (mVar 1) (mCons (mSlc (mVar 1) (mPart (pur (.int 1))) (pur none)) (pur [])))) (gTup 2 (gCons (gName 3) (gCons (gName 4) (gNil)))) (pur true) (mB ltD (mVar 3) (mVar 4))) (pur []))))
def f_is_doubt : List D → Hd → Option (D × Hd) := runB 2 5 m_is_doubt
theorem ok_is_doubt (g : Fx K mg base) : Ok P w K mg base 4 (He.fAd K ("is_doubt", none)) ["shelf", "value"] f_is_doubt :=
  ok_of (k := 3) g.f_is_doubt sc_is_doubt (fun _ _ _ _ _ _ us hl => match us, hl with | [_, _], _ => rfl) fun cdv A outer s H E hr => by
    have sc := sc_is_doubt
    exact ls_cons (ls_if (lt_w (lw_or (lt_not (lt_val (le_isi (le_var (i := 1) rfl (vis_by rfl)) (pe_bltn (v := .ty "tuple") (u := .type "tuple") rfl (g.b_tuple) (by decide +kernel) rfl) (.ty _) (ans_of (g.an_tuple)) rfl (g.b_isinstance) (by decide +kernel)))) (lw_or (lt_cmp (op_eqA (ru5 hr)) (le_var (i := 1) rfl (vis_by rfl)) (le_tup (la_nil))) (lw_or1 (lt_not (lt_val (le_callB (call_allF rfl) rfl (g.b_all) (by decide +kernel) (la_cons (le_lc (own := [("pair", 2)]) rfl sc.nd (li_any (le_var (i := 1) rfl (vis_by rfl))) (blkOk_by (own := [("pair", 2)]) (by kernel_rfl)) (fun _ _ _ _ _ => lgc_name (by decide) sc.nd rfl (loc_by rfl)) (fun _ _ _ _ _ => lts_nil) (fun _ _ _ _ _ => le_callO (ok_is_pair g) (hr.mono (by omega)) rfl (g.g_is_pair) (la_cons (le_var (i := 0) rfl (vis_by rfl)) (la_cons (le_var (i := 2) rfl (vis_by rfl)) (la_nil))))) (la_nil))))))))) (ls_one (ls_ret (le_cB))) (ls_nil)) (ls_one (ls_ret (le_callB (call_allF rfl) rfl (g.b_all) (by decide +kernel) (la_cons (le_lc (own := [("one", 3), ("other", 4)]) rfl sc.nd (li_zip rfl (g.b_zip) (la_cons (le_var (i := 1) rfl (vis_by rfl)) (la_cons (le_slc (le_var (i := 1) rfl (vis_by rfl)) (lo_some (le_cI)) (lo_none)) (la_nil)))) (blkOk_by (own := [("one", 3), ("other", 4)]) (by kernel_rfl)) (fun _ _ _ _ _ => lgc_tup rfl (lgcs_cons (lgc_name (by decide) sc.nd rfl (loc_by rfl)) (lgcs_cons (lgc_name (by decide) sc.nd rfl (loc_by rfl)) (lgcs_nil)))) (fun _ _ _ _ _ => lts_nil) (fun _ _ _ _ _ => le_cmp (op_ltD (ru0 hr)) (le_var (i := 3) rfl (vis_by rfl)) (le_var (i := 4) rfl (vis_by rfl)))) (la_nil)))))

-- check_doubt
theorem sc_check_doubt : FnScope ["shelf", "doubt"] ["shelf", "doubt"] (defScope (top 24)) := ⟨rfl, rfl, rfl, by decide +kernel, rfl, by decide +kernel, by decide +kernel⟩
def m_check_doubt : S := sSeq (sExp (mCall f_check_shelf (mCons (mVar 0) (pur [])))) (sIf (mNot (mTst (mCall f_is_doubt (mCons (mVar 0) (mCons (mVar 1) (pur [])))))) (sNone) (sNil))
def f_check_doubt : List D → Hd → Option (D × Hd) := runB 2 2 m_check_doubt
theorem ok_check_doubt (g : Fx K mg base) : Ok P w K mg base 5 (He.fAd K ("check_doubt", none)) ["shelf", "doubt"] f_check_doubt :=
  ok_of (k := 4) g.f_check_doubt sc_check_doubt (fun _ _ _ _ _ _ us hl => match us, hl with | [_, _], _ => rfl) fun cdv A outer s H E hr => by
    have sc := sc_check_doubt
    exact ls_cons (ls_exp (le_callO (ok_check_shelf g) (hr.mono (by omega)) rfl (g.g_check_shelf) (la_cons (le_var (i := 0) rfl (vis_by rfl)) (la_nil)))) (ls_one (ls_if (lt_not (lt_val (le_callO (ok_is_doubt g) (hr.mono (by omega)) rfl (g.g_is_doubt) (la_cons (le_var (i := 0) rfl (vis_by rfl)) (la_cons (le_var (i := 1) rfl (vis_by rfl)) (la_nil)))))) (ls_one (ls_none)) (ls_nil)))

-- safe
theorem sc_safe : FnScope ["shelf", "doubt"] ["shelf", "doubt"] (defScope (top 31)) := ⟨rfl, rfl, rfl, by decide +kernel, rfl, by decide +kernel, by decide +kernel⟩
def m_safe : S := sSeq (sExp (mCall f_check_doubt (mCons (mVar 0) (mCons (mVar 1) (pur []))))) (sRet (mCall f_safe_in (mCons (mVar 0) (mCons (mVar 1) (pur [])))))
def f_safe : List D → Hd → Option (D × Hd) := runB 2 2 m_safe
theorem ok_safe (g : Fx K mg base) : Ok P w K mg base 6 (He.fAd K ("safe", none)) ["shelf", "doubt"] f_safe :=
  ok_of (k := 5) g.f_safe sc_safe (fun _ _ _ _ _ _ us hl => match us, hl with | [_, _], _ => rfl) fun cdv A outer s H E hr => by
    have sc := sc_safe
    exact ls_cons (ls_exp (le_callO (ok_check_doubt g) (hr.mono (by omega)) rfl (g.g_check_doubt) (la_cons (le_var (i := 0) rfl (vis_by rfl)) (la_cons (le_var (i := 1) rfl (vis_by rfl)) (la_nil))))) (ls_one (ls_ret (le_callO (ok_safe_in g) (hr.mono (by omega)) rfl (g.g_safe_in) (la_cons (le_var (i := 0) rfl (vis_by rfl)) (la_cons (le_var (i := 1) rfl (vis_by rfl)) (la_nil))))))

-- after
theorem sc_after : FnScope ["shelf", "doubt", "command"] ["shelf", "doubt", "command"] (defScope (top 32)) := ⟨rfl, rfl, rfl, by decide +kernel, rfl, by decide +kernel, by decide +kernel⟩
def m_after : S := sSeq (sExp (mCall f_check_doubt (mCons (mVar 0) (mCons (mVar 1) (pur []))))) (sSeq (sIf (mOr (mNot (mTst (mCall f_is_integer (mCons (mVar 2) (mCons (pur (.int 0)) (mCons (mB subD (mU (attrD ["Shelf"] [] "many") (mVar 0)) (pur (.int 1))) (pur []))))))) (mNot (mTst (mCall f_is_safe (mCons (mVar 0) (mCons (mVar 1) (mCons (mVar 2) (pur [])))))))) (sNone) (sNil)) (sRet (mCall f_parts_after (mCons (mVar 0) (mCons (mVar 1) (mCons (mVar 2) (pur [])))))))
def f_after : List D → Hd → Option (D × Hd) := runB 3 3 m_after
theorem ok_after (g : Fx K mg base) : Ok P w K mg base 6 (He.fAd K ("after", none)) ["shelf", "doubt", "command"] f_after :=
  ok_of (k := 5) g.f_after sc_after (fun _ _ _ _ _ _ us hl => match us, hl with | [_, _, _], _ => rfl) fun cdv A outer s H E hr => by
    have sc := sc_after
    exact ls_cons (ls_exp (le_callO (ok_check_doubt g) (hr.mono (by omega)) rfl (g.g_check_doubt) (la_cons (le_var (i := 0) rfl (vis_by rfl)) (la_cons (le_var (i := 1) rfl (vis_by rfl)) (la_nil))))) (ls_cons (ls_if (lt_w (lw_or (lt_not (lt_val (le_callO (ok_is_integer g) (hr.mono (by omega)) rfl (g.g_is_integer) (la_cons (le_var (i := 2) rfl (vis_by rfl)) (la_cons (le_cI) (la_cons (le_bin op_subD (le_attr (fun c hc => by simp only [List.mem_cons, List.not_mem_nil, or_false] at hc; subst hc; exact g.fs_Shelf_many) (fun c hc => by cases hc) (le_var (i := 0) rfl (vis_by rfl))) (le_cI)) (la_nil))))))) (lw_or1 (lt_not (lt_val (le_callO (ok_is_safe g) (hr.mono (by omega)) rfl (g.g_is_safe) (la_cons (le_var (i := 0) rfl (vis_by rfl)) (la_cons (le_var (i := 1) rfl (vis_by rfl)) (la_cons (le_var (i := 2) rfl (vis_by rfl)) (la_nil)))))))))) (ls_one (ls_none)) (ls_nil)) (ls_one (ls_ret (le_callO (ok_parts_after g) (hr.mono (by omega)) rfl (g.g_parts_after) (la_cons (le_var (i := 0) rfl (vis_by rfl)) (la_cons (le_var (i := 1) rfl (vis_by rfl)) (la_cons (le_var (i := 2) rfl (vis_by rfl)) (la_nil))))))))

-- doubts
theorem sc_doubts : FnScope ["shelf", "doubt"] ["shelf", "doubt"] (defScope (top 33)) := ⟨rfl, rfl, rfl, by decide +kernel, rfl, by decide +kernel, by decide +kernel⟩
def m_doubts : S := sSeq (sExp (mCall f_check_doubt (mCons (mVar 0) (mCons (mVar 1) (pur []))))) (sRet (mSortL (mCall f_reach_of (mCons (mVar 0) (mCons (mVar 1) (pur []))))))
def f_doubts : List D → Hd → Option (D × Hd) := runB 2 2 m_doubts
theorem ok_doubts (g : Fx K mg base) : Ok P w K mg base 6 (He.fAd K ("doubts", none)) ["shelf", "doubt"] f_doubts :=
  ok_ofL (k := 5) g.f_doubts sc_doubts (fun _ _ _ _ _ _ us hl => match us, hl with | [_, _], _ => rfl) fun cdv A outer s H E hcd hr => by
    have sc := sc_doubts
    exact ls_cons (ls_exp (le_callO (ok_check_doubt g) (hr.mono (by omega)) rfl (g.g_check_doubt) (la_cons (le_var (i := 0) rfl (vis_by rfl)) (la_cons (le_var (i := 1) rfl (vis_by rfl)) (la_nil))))) (ls_one (ls_ret (le_sortL rfl (rdp hr) (ru4 hr) (lamM_of (p := ("doubts", none)) hcd (g.lam_doubts)) (le_callO (ok_reach_of g) (hr.mono (by omega)) rfl (g.g_reach_of) (la_cons (le_var (i := 0) rfl (vis_by rfl)) (la_cons (le_var (i := 1) rfl (vis_by rfl)) (la_nil)))) rfl (g.b_sorted) (by decide +kernel) (g.b_len) rfl rfl rfl (by decide +kernel) (by decide +kernel) rfl rfl rfl (by intros; rfl))))

-- Way__shows
theorem sc_Way__shows : FnScope ["self", "shelf", "doubt", "aim", "depth", "one"] ["self", "shelf", "doubt", "aim"] (defScope (inCls 41 3)) := ⟨rfl, rfl, rfl, by decide +kernel, rfl, by decide +kernel, by decide +kernel⟩
def m_Way__shows : S := sSeq (sExp (mCall f_check_doubt (mCons (mVar 1) (mCons (mVar 2) (pur []))))) (sSeq (sExp (mCall f_check_aim (mCons (mVar 1) (mCons (mVar 3) (pur []))))) (sSeq (sIf (mNot (mTst (mCall (f_does_meet 40) (mCons (mVar 1) (mCons (mVar 2) (mCons (mVar 3) (mCons (mU (attrD ["Way"] [] "tree") (mVar 0)) (pur [])))))))) (sRet (pur (.bl false))) (sNil)) (sSeq (sAsg (mCall (f_depth_of 40) (mCons (mU (attrD ["Way"] [] "tree") (mVar 0)) (pur []))) (gName 4)) (sSeq (sIf (mAnd (mTst (mB gtD (mVar 4) (pur (.int 0)))) (mTst (mB ltD (mMeth "dict" getM (mU (attrD ["Way"] [] "levels") (mVar 0)) (mCons (mVar 2) (mCons (pur (.int 0)) (pur [])))) (mVar 4)))) (sRet (pur (.bl false))) (sNil)) (sRet (mCall allF (mCons (mLc 2000 [5] (mSrc (mU (attrD ["Way"] [] "levels") (mVar 0))) (gName 5) (pur true) (mMS "Way" f_Way__holds (mVar 0) (mCons (mVar 1) (mCons (mVar 5) (mCons (mVar 3) (pur [])))))) (pur []))))))))
def f_Way__shows : List D → Hd → Option (D × Hd) := runB 4 6 m_Way__shows
theorem ok_Way__shows (g : Fx K mg base) : Ok P w K mg base 45 (He.fAd K ("Way", some "shows")) ["self", "shelf", "doubt", "aim"] f_Way__shows :=
  ok_of (k := 44) g.f_Way__shows sc_Way__shows (fun _ _ _ _ _ _ us hl => match us, hl with | [_, _, _, _], _ => rfl) fun cdv A outer s H E hr => by
    have sc := sc_Way__shows
    exact ls_cons (ls_exp (le_callO (ok_check_doubt g) (hr.mono (by omega)) rfl (g.g_check_doubt) (la_cons (le_var (i := 1) rfl (vis_by rfl)) (la_cons (le_var (i := 2) rfl (vis_by rfl)) (la_nil))))) (ls_cons (ls_exp (le_callO (ok_check_aim g) (hr.mono (by omega)) rfl (g.g_check_aim) (la_cons (le_var (i := 1) rfl (vis_by rfl)) (la_cons (le_var (i := 3) rfl (vis_by rfl)) (la_nil))))) (ls_cons (ls_if (lt_not (lt_val (le_callO (ok_does_meet g 40) (hr.mono (by omega)) rfl (g.g_does_meet) (la_cons (le_var (i := 1) rfl (vis_by rfl)) (la_cons (le_var (i := 2) rfl (vis_by rfl)) (la_cons (le_var (i := 3) rfl (vis_by rfl)) (la_cons (le_attr (fun c hc => by simp only [List.mem_cons, List.not_mem_nil, or_false] at hc; subst hc; exact g.fs_Way_tree) (fun c hc => by cases hc) (le_var (i := 0) rfl (vis_by rfl))) (la_nil)))))))) (ls_one (ls_ret (le_cB))) (ls_nil)) (ls_cons (ls_set sc.nd rfl (loc_by rfl) (le_callO (ok_depth_of g 40) (hr.mono (by omega)) rfl (g.g_depth_of) (la_cons (le_attr (fun c hc => by simp only [List.mem_cons, List.not_mem_nil, or_false] at hc; subst hc; exact g.fs_Way_tree) (fun c hc => by cases hc) (le_var (i := 0) rfl (vis_by rfl))) (la_nil)))) (ls_cons (ls_if (lt_w (lw_and (lt_cmp (op_gtD) (le_var (i := 4) rfl (vis_by rfl)) (le_cI)) (lw_and1 (lt_cmp (op_ltD (ru0 hr)) (le_bm PySem.F.plainAttrs_dict PySem.F.slot_dict_get PySem.F.type_dict_get (mt_getM (ru4 hr)) (le_attr (fun c hc => by simp only [List.mem_cons, List.not_mem_nil, or_false] at hc; subst hc; exact g.fs_Way_levels) (fun c hc => by cases hc) (le_var (i := 0) rfl (vis_by rfl))) (la_cons (le_var (i := 2) rfl (vis_by rfl)) (la_cons (le_cI) (la_nil)))) (le_var (i := 4) rfl (vis_by rfl)))))) (ls_one (ls_ret (le_cB))) (ls_nil)) (ls_one (ls_ret (le_callB (call_allF rfl) rfl (g.b_all) (by decide +kernel) (la_cons (le_lc (own := [("one", 5)]) rfl sc.nd (li_any (le_attr (fun c hc => by simp only [List.mem_cons, List.not_mem_nil, or_false] at hc; subst hc; exact g.fs_Way_levels) (fun c hc => by cases hc) (le_var (i := 0) rfl (vis_by rfl)))) (blkOk_by (own := [("one", 5)]) (by kernel_rfl)) (fun _ _ _ _ _ => lgc_name (by decide) sc.nd rfl (loc_by rfl)) (fun _ _ _ _ _ => lts_nil) (fun _ _ _ _ _ => le_methSO (le_var (i := 0) rfl (vis_by rfl)) (g.k_Way) (g.sc_Way) (g.m_Way_holds) (ok_Way__holds g) (hr.mono (by omega)) (la_cons (le_var (i := 1) rfl (vis_by rfl)) (la_cons (le_var (i := 5) rfl (vis_by rfl)) (la_cons (le_var (i := 3) rfl (vis_by rfl)) (la_nil)))))) (la_nil)))))))))

-- Stuck__shows
theorem sc_Stuck__shows : FnScope ["self", "shelf", "doubt", "aim"] ["self", "shelf", "doubt", "aim"] (defScope (inCls 42 4)) := ⟨rfl, rfl, rfl, by decide +kernel, rfl, by decide +kernel, by decide +kernel⟩
def m_Stuck__shows : S := sSeq (sExp (mCall f_check_doubt (mCons (mVar 1) (mCons (mVar 2) (pur []))))) (sSeq (sExp (mCall f_check_aim (mCons (mVar 1) (mCons (mVar 3) (pur []))))) (sRet (mAndV (mB (inA id) (mVar 2) (mU (attrD ["Stuck"] [] "doubts") (mVar 0))) (mCall f_are_stuck (mCons (mVar 1) (mCons (mVar 3) (mCons (mU (attrD ["Stuck"] [] "doubts") (mVar 0)) (pur []))))))))
def f_Stuck__shows : List D → Hd → Option (D × Hd) := runB 4 4 m_Stuck__shows
theorem ok_Stuck__shows (g : Fx K mg base) : Ok P w K mg base 6 (He.fAd K ("Stuck", some "shows")) ["self", "shelf", "doubt", "aim"] f_Stuck__shows :=
  ok_of (k := 5) g.f_Stuck__shows sc_Stuck__shows (fun _ _ _ _ _ _ us hl => match us, hl with | [_, _, _, _], _ => rfl) fun cdv A outer s H E hr => by
    have sc := sc_Stuck__shows
    exact ls_cons (ls_exp (le_callO (ok_check_doubt g) (hr.mono (by omega)) rfl (g.g_check_doubt) (la_cons (le_var (i := 1) rfl (vis_by rfl)) (la_cons (le_var (i := 2) rfl (vis_by rfl)) (la_nil))))) (ls_cons (ls_exp (le_callO (ok_check_aim g) (hr.mono (by omega)) rfl (g.g_check_aim) (la_cons (le_var (i := 1) rfl (vis_by rfl)) (la_cons (le_var (i := 3) rfl (vis_by rfl)) (la_nil))))) (ls_one (ls_ret (le_and (le_cmp (op_inA (ru5 hr)) (le_var (i := 2) rfl (vis_by rfl)) (le_attr (fun c hc => by simp only [List.mem_cons, List.not_mem_nil, or_false] at hc; subst hc; exact g.fs_Stuck_doubts) (fun c hc => by cases hc) (le_var (i := 0) rfl (vis_by rfl)))) (le_one (le_callO (ok_are_stuck g) (hr.mono (by omega)) rfl (g.g_are_stuck) (la_cons (le_var (i := 1) rfl (vis_by rfl)) (la_cons (le_var (i := 3) rfl (vis_by rfl)) (la_cons (le_attr (fun c hc => by simp only [List.mem_cons, List.not_mem_nil, or_false] at hc; subst hc; exact g.fs_Stuck_doubts) (fun c hc => by cases hc) (le_var (i := 0) rfl (vis_by rfl))) (la_nil))))))))))

-- can_in
theorem sc_can_in : FnScope ["shelf", "doubt", "found"] ["shelf", "doubt", "found"] (defScope (top 45)) := ⟨rfl, rfl, rfl, by decide +kernel, rfl, by decide +kernel, by decide +kernel⟩
def m_can_in : S := sRet (mB isntD (mCall f_best_in (mCons (mVar 0) (mCons (mVar 1) (mCons (mVar 2) (pur []))))) (pur .non))
def f_can_in : List D → Hd → Option (D × Hd) := runB 3 3 m_can_in
theorem ok_can_in (g : Fx K mg base) : Ok P w K mg base 5 (He.fAd K ("can_in", none)) ["shelf", "doubt", "found"] f_can_in :=
  ok_of (k := 4) g.f_can_in sc_can_in (fun _ _ _ _ _ _ us hl => match us, hl with | [_, _, _], _ => rfl) fun cdv A outer s H E hr => by
    have sc := sc_can_in
    exact ls_one (ls_ret (le_cmp (op_isntD) (le_callO (ok_best_in g) (hr.mono (by omega)) rfl (g.g_best_in) (la_cons (le_var (i := 0) rfl (vis_by rfl)) (la_cons (le_var (i := 1) rfl (vis_by rfl)) (la_cons (le_var (i := 2) rfl (vis_by rfl)) (la_nil))))) (le_cN)))

-- check_bearable
theorem sc_check_bearable : FnScope ["shelf", "aim"] ["shelf", "aim"] (defScope (top 54)) := ⟨rfl, rfl, rfl, by decide +kernel, rfl, by decide +kernel, by decide +kernel⟩
def m_check_bearable : S := sSeq (sExp (mCall f_check_doubt (mCons (mVar 0) (mCons (mTup (mCons (mTup (mCons (pur (.int 0)) (mCons (pur (.int 0)) (pur [])))) (pur []))) (pur []))))) (sExp (mCall f_check_aim (mCons (mVar 0) (mCons (mVar 1) (pur [])))))
def f_check_bearable : List D → Hd → Option (D × Hd) := runB 2 2 m_check_bearable
theorem ok_check_bearable (g : Fx K mg base) : Ok P w K mg base 6 (He.fAd K ("check_bearable", none)) ["shelf", "aim"] f_check_bearable :=
  ok_of (k := 5) g.f_check_bearable sc_check_bearable (fun _ _ _ _ _ _ us hl => match us, hl with | [_, _], _ => rfl) fun cdv A outer s H E hr => by
    have sc := sc_check_bearable
    exact ls_cons (ls_exp (le_callO (ok_check_doubt g) (hr.mono (by omega)) rfl (g.g_check_doubt) (la_cons (le_var (i := 0) rfl (vis_by rfl)) (la_cons (le_tup (la_cons (le_tup (la_cons (le_cI) (la_cons (le_cI) (la_nil)))) (la_nil))) (la_nil))))) (ls_one (ls_exp (le_callO (ok_check_aim g) (hr.mono (by omega)) rfl (g.g_check_aim) (la_cons (le_var (i := 0) rfl (vis_by rfl)) (la_cons (le_var (i := 1) rfl (vis_by rfl)) (la_nil))))))

-- check_duties
theorem sc_check_duties : FnScope ["shelf", "doubt", "duties", "duty"] ["shelf", "doubt", "duties"] (defScope (top 59)) := ⟨rfl, rfl, rfl, by decide +kernel, rfl, by decide +kernel, by decide +kernel⟩
def m_check_duties : S := sSeq (sExp (mCall f_check_doubt (mCons (mVar 0) (mCons (mVar 1) (pur []))))) (sSeq (sIf (mOr (mNot (mTst (mU (isiA tb_list_tuple to_list_tuple) (mVar 2)))) (mNot (mTst (mChain leD leD (pur (.int 1)) (mCall lenF (mCons (mVar 2) (pur []))) (pur (.int 3)))))) (sNone) (sNil)) (sIf (mNot (mTst (mCall allF (mCons (mLc 2000 [3] (mSrc (mVar 2)) (gName 3) (pur true) (mCall f_is_duty (mCons (mVar 0) (mCons (mVar 3) (pur []))))) (pur []))))) (sNone) (sNil)))
def f_check_duties : List D → Hd → Option (D × Hd) := runB 3 4 m_check_duties
theorem ok_check_duties (g : Fx K mg base) : Ok P w K mg base 6 (He.fAd K ("check_duties", none)) ["shelf", "doubt", "duties"] f_check_duties :=
  ok_of (k := 5) g.f_check_duties sc_check_duties (fun _ _ _ _ _ _ us hl => match us, hl with | [_, _, _], _ => rfl) fun cdv A outer s H E hr => by
    have sc := sc_check_duties
    exact ls_cons (ls_exp (le_callO (ok_check_doubt g) (hr.mono (by omega)) rfl (g.g_check_doubt) (la_cons (le_var (i := 0) rfl (vis_by rfl)) (la_cons (le_var (i := 1) rfl (vis_by rfl)) (la_nil))))) (ls_cons (ls_if (lt_w (lw_or (lt_not (lt_val (le_isi2 (le_var (i := 2) rfl (vis_by rfl)) (pe_bltn (v := .ty "list") (u := .type "list") rfl (g.b_list) (by decide +kernel) rfl) (pe_bltn (v := .ty "tuple") (u := .type "tuple") rfl (g.b_tuple) (by decide +kernel) rfl) (.ty _) (.ty _) (ans_of (g.an_list_tuple)) rfl (g.b_isinstance) (by decide +kernel)))) (lw_or1 (lt_not (lt_chain (op_leD) (op_leD) (le_cI) (le_callB (call_lenF) rfl (g.b_len) (by decide +kernel) (la_cons (le_var (i := 2) rfl (vis_by rfl)) (la_nil))) (le_gI rfl (g.c_MAX_DUTIES))))))) (ls_one (ls_none)) (ls_nil)) (ls_one (ls_if (lt_not (lt_val (le_callB (call_allF rfl) rfl (g.b_all) (by decide +kernel) (la_cons (le_lc (own := [("duty", 3)]) rfl sc.nd (li_any (le_var (i := 2) rfl (vis_by rfl))) (blkOk_by (own := [("duty", 3)]) (by kernel_rfl)) (fun _ _ _ _ _ => lgc_name (by decide) sc.nd rfl (loc_by rfl)) (fun _ _ _ _ _ => lts_nil) (fun _ _ _ _ _ => le_callO (ok_is_duty g) (hr.mono (by omega)) rfl (g.g_is_duty) (la_cons (le_var (i := 0) rfl (vis_by rfl)) (la_cons (le_var (i := 3) rfl (vis_by rfl)) (la_nil))))) (la_nil))))) (ls_one (ls_none)) (ls_nil))))

-- Serves__shows
theorem sc_Serves__shows : FnScope ["self", "shelf", "doubt", "duties", "known", "one", "duty"] ["self", "shelf", "doubt", "duties"] (defScope (inCls 61 3)) := ⟨rfl, rfl, rfl, by decide +kernel, rfl, by decide +kernel, by decide +kernel⟩
def m_Serves__shows : S := sSeq (sExp (mCall f_check_duties (mCons (mVar 1) (mCons (mVar 2) (mCons (mVar 3) (pur [])))))) (sSeq (sAsg (mDc 2000 [5] (mSrc (mU (attrD ["Serves"] [] "doubts") (mVar 0))) (gName 5) (pur true) (mVar 5) (pur (.bl true))) (gName 4)) (sSeq (sIf (mTst (mB (inA not) (mVar 2) (mVar 4))) (sRet (pur (.bl false))) (sNil)) (sRet (mCall allF (mCons (mLc2 2000 2000 [5, 6] (mSrc (mVar 4)) (gName 5) (pur true) ⟨mEnu (mCons (mVar 3) (pur [])), gName 6, pur true, [6]⟩ (mMS "Serves" f_Serves__serves (mVar 0) (mCons (mVar 1) (mCons (mVar 5) (mCons (mVar 6) (mCons (mVar 4) (pur []))))))) (pur []))))))
def f_Serves__shows : List D → Hd → Option (D × Hd) := runB 4 7 m_Serves__shows
theorem ok_Serves__shows (g : Fx K mg base) : Ok P w K mg base 7 (He.fAd K ("Serves", some "shows")) ["self", "shelf", "doubt", "duties"] f_Serves__shows :=
  ok_of (k := 6) g.f_Serves__shows sc_Serves__shows (fun _ _ _ _ _ _ us hl => match us, hl with | [_, _, _, _], _ => rfl) fun cdv A outer s H E hr => by
    have sc := sc_Serves__shows
    exact ls_cons (ls_exp (le_callO (ok_check_duties g) (hr.mono (by omega)) rfl (g.g_check_duties) (la_cons (le_var (i := 1) rfl (vis_by rfl)) (la_cons (le_var (i := 2) rfl (vis_by rfl)) (la_cons (le_var (i := 3) rfl (vis_by rfl)) (la_nil)))))) (ls_cons (ls_set sc.nd rfl (loc_by rfl) (le_dc (own := [("one", 5)]) (ru4 hr) rfl sc.nd (li_any (le_attr (fun c hc => by simp only [List.mem_cons, List.not_mem_nil, or_false] at hc; subst hc; exact g.fs_Serves_doubts) (fun c hc => by cases hc) (le_var (i := 0) rfl (vis_by rfl)))) (blkOk_by (own := [("one", 5)]) (by kernel_rfl)) (fun _ _ _ _ _ => lgc_name (by decide) sc.nd rfl (loc_by rfl)) (fun _ _ _ _ _ => lts_nil) (fun _ _ _ _ _ => le_var (i := 5) rfl (vis_by rfl)) (fun _ _ _ _ _ => le_cB))) (ls_cons (ls_if (lt_cmp (op_notInA (ru5 hr)) (le_var (i := 2) rfl (vis_by rfl)) (le_var (i := 4) rfl (vis_by rfl))) (ls_one (ls_ret (le_cB))) (ls_nil)) (ls_one (ls_ret (le_callB (call_allF rfl) rfl (g.b_all) (by decide +kernel) (la_cons (le_lc2 (own := [("one", 5), ("duty", 6)]) rfl sc.nd (li_any (le_var (i := 4) rfl (vis_by rfl))) (blkOk_by (own := [("one", 5), ("duty", 6)]) (by kernel_rfl)) (by decide) (fun _ _ _ _ _ => lgc_name (by decide) sc.nd rfl (loc_by rfl)) (fun _ _ _ _ _ => lts_nil) (fun _ _ _ _ _ => li_enumN rfl (g.b_enumerate) (la_cons (le_var (i := 3) rfl (vis_by rfl)) (la_nil))) (fun _ _ _ _ _ => lgc_name (by decide) sc.nd rfl (loc_by rfl)) (fun _ _ _ _ _ => lts_nil) (fun _ _ _ _ _ => le_methSO (le_var (i := 0) rfl (vis_by rfl)) (g.k_Serves) (g.sc_Serves) (g.m_Serves_serves) (ok_Serves__serves g) (hr.mono (by omega)) (la_cons (le_var (i := 1) rfl (vis_by rfl)) (la_cons (le_var (i := 5) rfl (vis_by rfl)) (la_cons (le_var (i := 6) rfl (vis_by rfl)) (la_cons (le_var (i := 4) rfl (vis_by rfl)) (la_nil))))))) (la_nil)))))))

-- Breaks__shows
theorem sc_Breaks__shows : FnScope ["self", "shelf", "doubt", "duties", "one"] ["self", "shelf", "doubt", "duties"] (defScope (inCls 62 3)) := ⟨rfl, rfl, rfl, by decide +kernel, rfl, by decide +kernel, by decide +kernel⟩
def m_Breaks__shows : S := sSeq (sExp (mCall f_check_duties (mCons (mVar 1) (mCons (mVar 2) (mCons (mVar 3) (pur [])))))) (sRet (mAndV (mB (inA id) (mVar 2) (mU (attrD ["Breaks"] [] "plan") (mVar 0))) (mCall allF (mCons (mLc 2000 [4] (mSrc (mU (attrD ["Breaks"] [] "plan") (mVar 0))) (gName 4) (pur true) (mMS "Breaks" f_Breaks__leads_down (mVar 0) (mCons (mVar 1) (mCons (mVar 4) (mCons (mVar 3) (pur [])))))) (pur [])))))
def f_Breaks__shows : List D → Hd → Option (D × Hd) := runB 4 5 m_Breaks__shows
theorem ok_Breaks__shows (g : Fx K mg base) : Ok P w K mg base 7 (He.fAd K ("Breaks", some "shows")) ["self", "shelf", "doubt", "duties"] f_Breaks__shows :=
  ok_of (k := 6) g.f_Breaks__shows sc_Breaks__shows (fun _ _ _ _ _ _ us hl => match us, hl with | [_, _, _, _], _ => rfl) fun cdv A outer s H E hr => by
    have sc := sc_Breaks__shows
    exact ls_cons (ls_exp (le_callO (ok_check_duties g) (hr.mono (by omega)) rfl (g.g_check_duties) (la_cons (le_var (i := 1) rfl (vis_by rfl)) (la_cons (le_var (i := 2) rfl (vis_by rfl)) (la_cons (le_var (i := 3) rfl (vis_by rfl)) (la_nil)))))) (ls_one (ls_ret (le_and (le_cmp (op_inA (ru5 hr)) (le_var (i := 2) rfl (vis_by rfl)) (le_attr (fun c hc => by simp only [List.mem_cons, List.not_mem_nil, or_false] at hc; subst hc; exact g.fs_Breaks_plan) (fun c hc => by cases hc) (le_var (i := 0) rfl (vis_by rfl)))) (le_one (le_callB (call_allF rfl) rfl (g.b_all) (by decide +kernel) (la_cons (le_lc (own := [("one", 4)]) rfl sc.nd (li_any (le_attr (fun c hc => by simp only [List.mem_cons, List.not_mem_nil, or_false] at hc; subst hc; exact g.fs_Breaks_plan) (fun c hc => by cases hc) (le_var (i := 0) rfl (vis_by rfl)))) (blkOk_by (own := [("one", 4)]) (by kernel_rfl)) (fun _ _ _ _ _ => lgc_name (by decide) sc.nd rfl (loc_by rfl)) (fun _ _ _ _ _ => lts_nil) (fun _ _ _ _ _ => le_methSO (le_var (i := 0) rfl (vis_by rfl)) (g.k_Breaks) (g.sc_Breaks) (g.m_Breaks_leads_down) (ok_Breaks__leads_down g) (hr.mono (by omega)) (la_cons (le_var (i := 1) rfl (vis_by rfl)) (la_cons (le_var (i := 4) rfl (vis_by rfl)) (la_cons (le_var (i := 3) rfl (vis_by rfl)) (la_nil)))))) (la_nil)))))))

-- Search__lost
theorem sc_Search__lost : FnScope ["self", "rank", "found", "doubt", "rows", "able", "number", "row"] ["self", "rank"] (defScope (inCls 63 2)) := ⟨rfl, rfl, rfl, by decide +kernel, rfl, by decide +kernel, by decide +kernel⟩
def m_Search__lost : S := sSeq (sAsg (mDic0) (gName 2)) (sSeq (sFr 2000 (mDsr .itm (mU (attrD [] ["Search"] "rows") (mVar 0))) (gTup 2 (gCons (gName 3) (gCons (gName 4) (gNil)))) (sSeq (sAsg (mLc 2000 [6, 7] (mEnu (mCons (mVar 4) (pur []))) (gTup 2 (gCons (gName 6) (gCons (gName 7) (gNil)))) (mNot (mTst (mMI "Search" "has_answer" f_Search__has_answer (mVar 0) (mCons (mVar 7) (pur []))))) (mVar 6)) (gName 5)) (sIf (mAnd (mTst (mB (inA not) (mVar 3) (mU (attrD [] ["Search"] "plan") (mVar 0)))) (mTst (mB (eqA not) (mVar 5) (mLst (pur []))))) (sAsg (mTup (mCons (mVar 1) (mCons (mB ixA (mVar 5) (pur (.int 0))) (pur [])))) (gSubD (mVar 2) (mVar 3))) (sNil)))) (sRet (mVar 2)))
def f_Search__lost : List D → Hd → Option (D × Hd) := runB 2 8 m_Search__lost
theorem ok_Search__lost (g : Fx K mg base) : Ok P w K mg base 2 (He.fAd K ("Search", some "lost")) ["self", "rank"] f_Search__lost :=
  ok_of (k := 1) g.f_Search__lost sc_Search__lost (fun _ _ _ _ _ _ us hl => match us, hl with | [_, _], _ => rfl) fun cdv A outer s H E hr => by
    have sc := sc_Search__lost
    exact ls_cons (ls_set sc.nd rfl (loc_by rfl) (le_dic0)) (ls_cons (ls_for PassesOwn.never rfl (li_items (le_attr (fun c hc => by cases hc) (fun c hc => by simp only [List.mem_cons, List.not_mem_nil, or_false] at hc; subst hc; exact g.fd_Search_rows) (le_var (i := 0) rfl (vis_by rfl)))) (lg_tup rfl (lgs_cons (lg_name sc.nd rfl (loc_by rfl)) (lgs_cons (lg_name sc.nd rfl (loc_by rfl)) (lgs_nil)))) (ls_cons (ls_setLc (own := [("number", 6), ("row", 7)]) rfl sc.nd rfl rfl (sw_true rfl rfl rfl rfl) (li_enum rfl (g.b_enumerate) (la_cons (le_var (i := 4) rfl (vis_by rfl)) (la_nil))) (blkOk_by (own := [("number", 6), ("row", 7)]) (by kernel_rfl)) (fun _ _ _ _ _ => lgc_tup rfl (lgcs_cons (lgc_name (by decide) sc.nd rfl (loc_by rfl)) (lgcs_cons (lgc_name (by decide) sc.nd rfl (loc_by rfl)) (lgcs_nil)))) (fun _ _ _ _ _ => lts_one (lt_not (lt_val (le_methIO (le_var (i := 0) rfl (vis_by rfl)) (g.k_Search) (g.ic_Search) (g.m_Search_has_answer) (ok_Search__has_answer g) (hr.mono (by omega)) (la_cons (le_var (i := 7) rfl (vis_by rfl)) (la_nil)))))) (fun _ _ _ _ _ => le_var (i := 6) rfl (vis_by rfl))) (ls_one (ls_if (lt_w (lw_and (lt_cmp (op_notInA (ru5 hr)) (le_var (i := 3) rfl (vis_by rfl)) (le_attr (fun c hc => by cases hc) (fun c hc => by simp only [List.mem_cons, List.not_mem_nil, or_false] at hc; subst hc; exact g.fd_Search_plan) (le_var (i := 0) rfl (vis_by rfl)))) (lw_and1 (lt_cmp (op_neA (ru5 hr)) (le_var (i := 5) rfl (vis_by rfl)) (le_lst (la_nil)))))) (ls_one (ls_asg (le_tup (la_cons (le_var (i := 1) rfl (vis_by rfl)) (la_cons (le_ix (ix_A (ru4 hr)) (le_var (i := 5) rfl (vis_by rfl)) (le_cI)) (la_nil)))) (lg_sub (ru4 hr) (le_var (i := 2) rfl (vis_by rfl)) (le_var (i := 3) rfl (vis_by rfl))))) (ls_nil))))) (ls_one (ls_ret (le_var (i := 2) rfl (vis_by rfl)))))

-- _law_plans_right
theorem sc__law_plans_right : FnScope ["_law_one", "_law_other", "_law_shelf", "_law_plan", "_law_first", "_law_second", "_law_doubt"] [] (defScope (top 70)) := ⟨rfl, rfl, rfl, by decide +kernel, rfl, by decide +kernel, by decide +kernel⟩
def m__law_plans_right : S := sSeq (sAsg (mTup (mCons (mTup (mCons (mTup (mCons (mTup (mCons (pur (.int 0)) (mCons (pur (.int 1)) (pur [])))) (mCons (mTup (mCons (pur (.int 0)) (mCons (pur (.int 0)) (pur [])))) (pur [])))) (mCons (mTup (mCons (pur .non) (mCons (pur .non) (pur [])))) (pur [])))) (mCons (mTup (mCons (mTup (mCons (mTup (mCons (pur (.int 0)) (mCons (pur (.int 0)) (pur [])))) (mCons (mTup (mCons (pur (.int 0)) (mCons (pur (.int 1)) (pur [])))) (pur [])))) (mCons (mTup (mCons (pur .non) (mCons (pur .non) (pur [])))) (pur [])))) (pur [])))) (gTup 2 (gCons (gName 0) (gCons (gName 1) (gNil))))) (sSeq (sPar 2 3 (mCons (mMake true "Shelf" f_Shelf____init__ (mCons (mTup (mCons (mVar 0) (mCons (mVar 1) (pur [])))) (pur []))) (mCons (mDisp (mPcons (mTup (mCons (mTup (mCons (pur (.int 0)) (mCons (pur (.int 0)) (pur [])))) (pur []))) (mTup (mCons (pur (.int 1)) (mCons (pur (.int 0)) (pur [])))) (mPcons (mTup (mCons (mTup (mCons (pur (.int 0)) (mCons (pur (.int 1)) (pur [])))) (pur []))) (mTup (mCons (pur (.int 0)) (mCons (pur (.int 0)) (pur [])))) (mPcons (mTup (mCons (mTup (mCons (pur (.int 1)) (mCons (pur (.int 0)) (pur [])))) (pur []))) (mTup (mCons (pur (.int 1)) (mCons (pur (.int 0)) (pur [])))) (mPcons (mTup (mCons (mTup (mCons (pur (.int 1)) (mCons (pur (.int 1)) (pur [])))) (pur []))) (mTup (mCons (pur (.int 0)) (mCons (pur (.int 0)) (pur [])))) (pur [])))))) (pur [])))) (sSeq (sPar 4 5 (mCons (mDic0) (mCons (mDic0) (pur [])))) (sSeq (sFr 2000 (mSrc (mVar 3)) (gName 6) (sIf (mTst (mB (eqA id) (mB ixA (mB ixA (mVar 6) (pur (.int 0))) (pur (.int 0))) (pur (.int 0)))) (sAsg (mB ixA (mVar 3) (mVar 6)) (gSubD (mVar 4) (mVar 6))) (sAsg (mB ixA (mVar 3) (mVar 6)) (gSubD (mVar 5) (mVar 6))))) (sSeq (sIf (mOr (mNot (mTst (mMS "Breaks" f_Breaks__shows (mMake true "Breaks" f_Breaks____init__ (mCons (mVar 4) (pur []))) (mCons (mVar 2) (mCons (mTup (mCons (mTup (mCons (pur (.int 0)) (mCons (pur (.int 0)) (pur [])))) (pur []))) (mCons (mLst (mCons (mTup (mCons (pur (.int 0)) (pur []))) (pur []))) (pur []))))))) (mOr (mTst (mMS "Breaks" f_Breaks__shows (mMake true "Breaks" f_Breaks____init__ (mCons (mVar 4) (pur []))) (mCons (mVar 2) (mCons (mTup (mCons (mTup (mCons (pur (.int 0)) (mCons (pur (.int 0)) (pur [])))) (pur []))) (mCons (mLst (mCons (mTup (mCons (pur (.int 0)) (mCons (pur (.int 1)) (pur [])))) (pur []))) (pur [])))))) (mTst (mMS "Breaks" f_Breaks__shows (mMake true "Breaks" f_Breaks____init__ (mCons (mVar 4) (pur []))) (mCons (mVar 2) (mCons (mTup (mCons (mTup (mCons (pur (.int 0)) (mCons (pur (.int 0)) (pur [])))) (pur []))) (mCons (mLst (mCons (mTup (mCons (pur (.int 1)) (pur []))) (pur []))) (pur [])))))))) (sRet (pur (.bl false))) (sNil)) (sSeq (sIf (mOr (mNot (mTst (mMS "Breaks" f_Breaks__shows (mMake true "Breaks" f_Breaks____init__ (mCons (mVar 5) (pur []))) (mCons (mVar 2) (mCons (mTup (mCons (mTup (mCons (pur (.int 1)) (mCons (pur (.int 0)) (pur [])))) (pur []))) (mCons (mLst (mCons (mTup (mCons (pur (.int 1)) (pur []))) (pur []))) (pur []))))))) (mTst (mMS "Breaks" f_Breaks__shows (mMake true "Breaks" f_Breaks____init__ (mCons (mVar 5) (pur []))) (mCons (mVar 2) (mCons (mTup (mCons (mTup (mCons (pur (.int 1)) (mCons (pur (.int 0)) (pur [])))) (pur []))) (mCons (mLst (mCons (mTup (mCons (pur (.int 0)) (mCons (pur (.int 1)) (pur [])))) (pur []))) (pur []))))))) (sRet (pur (.bl false))) (sNil)) (sRet (mMS "Serves" f_Serves__shows (mMake true "Serves" f_Serves____init__ (mCons (mLst (mCons (mTup (mCons (mTup (mCons (pur (.int 0)) (mCons (pur (.int 0)) (pur [])))) (pur []))) (pur []))) (mCons (mDisp (mPcons (mTup (mCons (mTup (mCons (mTup (mCons (pur (.int 0)) (mCons (pur (.int 0)) (pur [])))) (pur []))) (mCons (pur (.int 0)) (pur [])))) (pur (.int 1)) (pur []))) (pur [])))) (mCons (mVar 2) (mCons (mTup (mCons (mTup (mCons (pur (.int 0)) (mCons (pur (.int 0)) (pur [])))) (pur []))) (mCons (mLst (mCons (mTup (mCons (pur (.int 0)) (mCons (pur (.int 1)) (pur [])))) (pur []))) (pur [])))))))))))
def f__law_plans_right : List D → Hd → Option (D × Hd) := runB 0 7 m__law_plans_right
theorem ok__law_plans_right (g : Fx K mg base) : Ok P w K mg base 8 (He.fAd K ("_law_plans_right", none)) [] f__law_plans_right :=
  ok_of (k := 7) g.f__law_plans_right sc__law_plans_right (fun _ _ _ _ _ _ us hl => match us, hl with | [], _ => rfl) fun cdv A outer s H E hr => by
    have sc := sc__law_plans_right
    exact ls_cons (ls_asg (le_tup (la_cons (le_tup (la_cons (le_tup (la_cons (le_tup (la_cons (le_cI) (la_cons (le_cI) (la_nil)))) (la_cons (le_tup (la_cons (le_cI) (la_cons (le_cI) (la_nil)))) (la_nil)))) (la_cons (le_tup (la_cons (le_cN) (la_cons (le_cN) (la_nil)))) (la_nil)))) (la_cons (le_tup (la_cons (le_tup (la_cons (le_tup (la_cons (le_cI) (la_cons (le_cI) (la_nil)))) (la_cons (le_tup (la_cons (le_cI) (la_cons (le_cI) (la_nil)))) (la_nil)))) (la_cons (le_tup (la_cons (le_cN) (la_cons (le_cN) (la_nil)))) (la_nil)))) (la_nil)))) (lg_tup rfl (lgs_cons (lg_name sc.nd rfl (loc_by rfl)) (lgs_cons (lg_name sc.nd rfl (loc_by rfl)) (lgs_nil))))) (ls_cons (ls_par rfl sc.nd rfl rfl (by decide) rfl rfl (la_cons (le_makeO (sl := true) (g.mk_Shelf) (ok_Shelf____init__ g) (hr.mono (by omega)) rfl (g.k_Shelf) (la_cons (le_tup (la_cons (le_var (i := 0) rfl (vis_by rfl)) (la_cons (le_var (i := 1) rfl (vis_by rfl)) (la_nil)))) (la_nil))) (la_cons (le_disp (ru4 hr) (lp_cons (le_tup (la_cons (le_tup (la_cons (le_cI) (la_cons (le_cI) (la_nil)))) (la_nil))) (le_tup (la_cons (le_cI) (la_cons (le_cI) (la_nil)))) (lp_cons (le_tup (la_cons (le_tup (la_cons (le_cI) (la_cons (le_cI) (la_nil)))) (la_nil))) (le_tup (la_cons (le_cI) (la_cons (le_cI) (la_nil)))) (lp_cons (le_tup (la_cons (le_tup (la_cons (le_cI) (la_cons (le_cI) (la_nil)))) (la_nil))) (le_tup (la_cons (le_cI) (la_cons (le_cI) (la_nil)))) (lp_cons (le_tup (la_cons (le_tup (la_cons (le_cI) (la_cons (le_cI) (la_nil)))) (la_nil))) (le_tup (la_cons (le_cI) (la_cons (le_cI) (la_nil)))) (lp_nil)))))) (la_nil))) rfl) (ls_cons (ls_par rfl sc.nd rfl rfl (by decide) rfl rfl (la_cons (le_dic0) (la_cons (le_dic0) (la_nil))) rfl) (ls_cons (ls_for PassesOwn.never rfl (li_any (le_var (i := 3) rfl (vis_by rfl))) (lg_name sc.nd rfl (loc_by rfl)) (ls_one (ls_if (lt_cmp (op_eqA (ru5 hr)) (le_ix (ix_A (ru4 hr)) (le_ix (ix_A (ru4 hr)) (le_var (i := 6) rfl (vis_by rfl)) (le_cI)) (le_cI)) (le_cI)) (ls_one (ls_asg (le_ix (ix_A (ru4 hr)) (le_var (i := 3) rfl (vis_by rfl)) (le_var (i := 6) rfl (vis_by rfl))) (lg_sub (ru4 hr) (le_var (i := 4) rfl (vis_by rfl)) (le_var (i := 6) rfl (vis_by rfl))))) (ls_one (ls_asg (le_ix (ix_A (ru4 hr)) (le_var (i := 3) rfl (vis_by rfl)) (le_var (i := 6) rfl (vis_by rfl))) (lg_sub (ru4 hr) (le_var (i := 5) rfl (vis_by rfl)) (le_var (i := 6) rfl (vis_by rfl)))))))) (ls_cons (ls_if (lt_w (lw_or (lt_not (lt_val (le_methSO (le_makeO (sl := true) (g.mk_Breaks) (ok_Breaks____init__ g) (hr.mono (by omega)) rfl (g.k_Breaks) (la_cons (le_var (i := 4) rfl (vis_by rfl)) (la_nil))) (g.k_Breaks) (g.sc_Breaks) (g.m_Breaks_shows) (ok_Breaks__shows g) (hr.mono (by omega)) (la_cons (le_var (i := 2) rfl (vis_by rfl)) (la_cons (le_tup (la_cons (le_tup (la_cons (le_cI) (la_cons (le_cI) (la_nil)))) (la_nil))) (la_cons (le_lst (la_cons (le_tup (la_cons (le_cI) (la_nil))) (la_nil))) (la_nil))))))) (lw_or (lt_val (le_methSO (le_makeO (sl := true) (g.mk_Breaks) (ok_Breaks____init__ g) (hr.mono (by omega)) rfl (g.k_Breaks) (la_cons (le_var (i := 4) rfl (vis_by rfl)) (la_nil))) (g.k_Breaks) (g.sc_Breaks) (g.m_Breaks_shows) (ok_Breaks__shows g) (hr.mono (by omega)) (la_cons (le_var (i := 2) rfl (vis_by rfl)) (la_cons (le_tup (la_cons (le_tup (la_cons (le_cI) (la_cons (le_cI) (la_nil)))) (la_nil))) (la_cons (le_lst (la_cons (le_tup (la_cons (le_cI) (la_cons (le_cI) (la_nil)))) (la_nil))) (la_nil)))))) (lw_or1 (lt_val (le_methSO (le_makeO (sl := true) (g.mk_Breaks) (ok_Breaks____init__ g) (hr.mono (by omega)) rfl (g.k_Breaks) (la_cons (le_var (i := 4) rfl (vis_by rfl)) (la_nil))) (g.k_Breaks) (g.sc_Breaks) (g.m_Breaks_shows) (ok_Breaks__shows g) (hr.mono (by omega)) (la_cons (le_var (i := 2) rfl (vis_by rfl)) (la_cons (le_tup (la_cons (le_tup (la_cons (le_cI) (la_cons (le_cI) (la_nil)))) (la_nil))) (la_cons (le_lst (la_cons (le_tup (la_cons (le_cI) (la_nil))) (la_nil))) (la_nil)))))))))) (ls_one (ls_ret (le_cB))) (ls_nil)) (ls_cons (ls_if (lt_w (lw_or (lt_not (lt_val (le_methSO (le_makeO (sl := true) (g.mk_Breaks) (ok_Breaks____init__ g) (hr.mono (by omega)) rfl (g.k_Breaks) (la_cons (le_var (i := 5) rfl (vis_by rfl)) (la_nil))) (g.k_Breaks) (g.sc_Breaks) (g.m_Breaks_shows) (ok_Breaks__shows g) (hr.mono (by omega)) (la_cons (le_var (i := 2) rfl (vis_by rfl)) (la_cons (le_tup (la_cons (le_tup (la_cons (le_cI) (la_cons (le_cI) (la_nil)))) (la_nil))) (la_cons (le_lst (la_cons (le_tup (la_cons (le_cI) (la_nil))) (la_nil))) (la_nil))))))) (lw_or1 (lt_val (le_methSO (le_makeO (sl := true) (g.mk_Breaks) (ok_Breaks____init__ g) (hr.mono (by omega)) rfl (g.k_Breaks) (la_cons (le_var (i := 5) rfl (vis_by rfl)) (la_nil))) (g.k_Breaks) (g.sc_Breaks) (g.m_Breaks_shows) (ok_Breaks__shows g) (hr.mono (by omega)) (la_cons (le_var (i := 2) rfl (vis_by rfl)) (la_cons (le_tup (la_cons (le_tup (la_cons (le_cI) (la_cons (le_cI) (la_nil)))) (la_nil))) (la_cons (le_lst (la_cons (le_tup (la_cons (le_cI) (la_cons (le_cI) (la_nil)))) (la_nil))) (la_nil))))))))) (ls_one (ls_ret (le_cB))) (ls_nil)) (ls_one (ls_ret (le_methSO (le_makeO (sl := true) (g.mk_Serves) (ok_Serves____init__ g) (hr.mono (by omega)) rfl (g.k_Serves) (la_cons (le_lst (la_cons (le_tup (la_cons (le_tup (la_cons (le_cI) (la_cons (le_cI) (la_nil)))) (la_nil))) (la_nil))) (la_cons (le_disp (ru4 hr) (lp_cons (le_tup (la_cons (le_tup (la_cons (le_tup (la_cons (le_cI) (la_cons (le_cI) (la_nil)))) (la_nil))) (la_cons (le_cI) (la_nil)))) (le_cI) (lp_nil))) (la_nil)))) (g.k_Serves) (g.sc_Serves) (g.m_Serves_shows) (ok_Serves__shows g) (hr.mono (by omega)) (la_cons (le_var (i := 2) rfl (vis_by rfl)) (la_cons (le_tup (la_cons (le_tup (la_cons (le_cI) (la_cons (le_cI) (la_nil)))) (la_nil))) (la_cons (le_lst (la_cons (le_tup (la_cons (le_cI) (la_cons (le_cI) (la_nil)))) (la_nil))) (la_nil))))))))))))

-- _law_levels_right
theorem sc__law_levels_right : FnScope ["_law_one", "_law_other", "_law_shelf", "_law_start", "_law_later", "_law_tree", "_law_lots", "_law_plan", "_law_levels", "_law_told_here", "_law_kept", "_law_other_one", "_law_third", "_law_fourth", "_law_ways", "_law_stucks", "_law_fifth", "_law_doubt"] [] (defScope (top 71)) := ⟨rfl, rfl, rfl, by decide +kernel, rfl, by decide +kernel, by decide +kernel⟩
def m__law_levels_right : S := sSeq (sAsg (mTup (mCons (mTup (mCons (mTup (mCons (mTup (mCons (pur (.int 0)) (mCons (pur (.int 1)) (pur [])))) (mCons (mTup (mCons (pur (.int 0)) (mCons (pur (.int 0)) (pur [])))) (pur [])))) (mCons (mTup (mCons (mTup (mCons (pur (.int 1)) (mCons (pur (.int 0)) (pur [])))) (mCons (pur .non) (pur [])))) (pur [])))) (mCons (mTup (mCons (mTup (mCons (mTup (mCons (pur (.int 0)) (mCons (pur (.int 1)) (pur [])))) (mCons (mTup (mCons (pur (.int 0)) (mCons (pur (.int 0)) (pur [])))) (pur [])))) (mCons (mTup (mCons (mTup (mCons (pur (.int 0)) (mCons (pur (.int 1)) (pur [])))) (mCons (pur .non) (pur [])))) (pur [])))) (pur [])))) (gTup 2 (gCons (gName 0) (gCons (gName 1) (gNil))))) (sSeq (sPar3 2 3 4 (mCons (mMake true "Shelf" f_Shelf____init__ (mCons (mTup (mCons (mVar 0) (mCons (mVar 1) (pur [])))) (pur []))) (mCons (mTup (mCons (mTup (mCons (pur (.int 0)) (mCons (pur (.int 0)) (pur [])))) (mCons (mTup (mCons (pur (.int 1)) (mCons (pur (.int 0)) (pur [])))) (pur [])))) (mCons (mTup (mCons (mTup (mCons (pur (.int 0)) (mCons (pur (.int 1)) (pur [])))) (mCons (mTup (mCons (pur (.int 1)) (mCons (pur (.int 1)) (pur [])))) (pur [])))) (pur []))))) (sSeq (sAsg (mTup (mCons (pur (.int 0)) (mCons (mTup (mCons (mTup (mCons (pur (.int 0)) (mCons (mTup (mCons (pur (.int 0)) (mCons (mTup (mCons (mTup (mCons (pur (.int 0)) (mCons (pur .non) (pur [])))) (mCons (mTup (mCons (pur (.int 1)) (mCons (pur .non) (pur [])))) (pur [])))) (pur [])))) (pur [])))) (pur []))) (pur [])))) (gName 5)) (sSeq (sIf (mOr (mNot (mTst (mMS "Way" f_Way__shows (mMake true "Way" f_Way____init__ (mCons (mVar 5) (mCons (mDisp (mPcons (mVar 3) (pur (.int 2)) (mPcons (mVar 4) (pur (.int 1)) (pur [])))) (pur [])))) (mCons (mVar 2) (mCons (mVar 3) (mCons (pur (.str "tell")) (pur []))))))) (mOr (mTst (mMS "Way" f_Way__shows (mMake true "Way" f_Way____init__ (mCons (mVar 5) (mCons (mDisp (mPcons (mVar 3) (pur (.int 2)) (pur []))) (pur [])))) (mCons (mVar 2) (mCons (mVar 3) (mCons (pur (.str "tell")) (pur [])))))) (mTst (mMS "Way" f_Way__shows (mMake true "Way" f_Way____init__ (mCons (mVar 5) (mCons (mDisp (mPcons (mVar 3) (pur (.int 3)) (mPcons (mVar 4) (pur (.int 1)) (pur [])))) (pur [])))) (mCons (mVar 2) (mCons (mVar 3) (mCons (pur (.str "tell")) (pur [])))))))) (sRet (pur (.bl false))) (sNil)) (sSeq (sIf (mOr (mTst (mMS "Way" f_Way__shows (mMake true "Way" f_Way____init__ (mCons (mTup (mCons (pur (.int 1)) (mCons (mTup (mCons (mTup (mCons (pur (.int 0)) (mCons (mVar 5) (pur [])))) (pur []))) (pur [])))) (mCons (mDisp (mPcons (mVar 3) (pur (.int 2)) (mPcons (mVar 4) (pur (.int 1)) (pur [])))) (pur [])))) (mCons (mVar 2) (mCons (mVar 3) (mCons (pur (.str "tell")) (pur [])))))) (mTst (mMS "Way" f_Way__shows (mMake true "Way" f_Way____init__ (mCons (mTup (mCons (pur (.int 0)) (mCons (mTup (mCons (mTup (mCons (pur (.int 0)) (mCons (mTup (mCons (pur (.int 1)) (mCons (mTup (pur [])) (pur [])))) (pur [])))) (pur []))) (pur [])))) (mCons (mDisp (mPcons (mVar 3) (pur (.int 2)) (mPcons (mVar 4) (pur (.int 1)) (pur [])))) (pur [])))) (mCons (mVar 2) (mCons (mVar 3) (mCons (pur (.str "tell")) (pur []))))))) (sRet (pur (.bl false))) (sNil)) (sSeq (sIf (mOr (mTst (mMS "Way" f_Way__shows (mMake true "Way" f_Way____init__ (mCons (mTup (mCons (pur (.int 0)) (mCons (mTup (mCons (mTup (mCons (pur (.int 1)) (mCons (pur .non) (pur [])))) (pur []))) (pur [])))) (mCons (mDisp (mPcons (mVar 3) (pur (.int 1)) (pur []))) (pur [])))) (mCons (mVar 2) (mCons (mVar 3) (mCons (pur (.str "tell")) (pur [])))))) (mTst (mMS "Way" f_Way__shows (mMake true "Way" f_Way____init__ (mCons (mVar 5) (mCons (mDisp (mPcons (mVar 3) (pur (.int 2)) (mPcons (mVar 4) (pur (.int 1)) (mPcons (mTup (mCons (mTup (mCons (pur (.int 0)) (mCons (pur (.int 0)) (pur [])))) (pur []))) (pur (.int 1)) (pur []))))) (pur [])))) (mCons (mVar 2) (mCons (mVar 3) (mCons (pur (.str "tell")) (pur []))))))) (sRet (pur (.bl false))) (sNil)) (sSeq (sAsg (mTup (mCons (mLst (mCons (mVar 4) (pur []))) (mCons (mDisp (mPcons (mVar 3) (mTup (mCons (pur (.int 0)) (mCons (pur (.int 0)) (pur [])))) (pur []))) (mCons (mDisp (mPcons (mVar 3) (pur (.int 2)) (pur []))) (mCons (mDisp (mPcons (mTup (mCons (mVar 3) (mCons (pur (.int 0)) (pur [])))) (pur (.int 1)) (pur []))) (pur [])))))) (gTup 4 (gCons (gName 6) (gCons (gName 7) (gCons (gName 8) (gCons (gName 9) (gNil))))))) (sSeq (sAsg (mTup (mCons (mMake true "Stuck" f_Stuck____init__ (mCons (mVar 6) (pur []))) (mCons (mMake true "Breaks" f_Breaks____init__ (mCons (mVar 7) (pur []))) (mCons (mMake true "Way" f_Way____init__ (mCons (mVar 5) (mCons (mVar 8) (pur [])))) (mCons (mMake true "Serves" f_Serves____init__ (mCons (mVar 6) (mCons (mVar 9) (pur [])))) (pur [])))))) (gTup 4 (gCons (gName 10) (gCons (gName 11) (gCons (gName 12) (gCons (gName 13) (gNil))))))) (sSeq (sExp (mMeth "list" appM (mVar 6) (mCons (mVar 3) (pur [])))) (sSeq (sAsg (mTup (mCons (pur (.int 0)) (mCons (pur (.int 0)) (pur [])))) (gSubD (mVar 7) (mVar 4))) (sSeq (sAsg (pur (.int 1)) (gSubD (mVar 8) (mVar 4))) (sSeq (sExp (mMeth "dict" clrDM (mVar 9) (pur []))) (sSeq (sIf (mOr (mTst (mB (eqA not) (mLc 2000 [17] (mOwn ["Stuck"] [] "doubts" (mVar 10)) (gName 17) (pur true) (mVar 17)) (mLst (mCons (mVar 4) (pur []))))) (mOr (mTst (mB (eqA not) (mCall lenF (mCons (mU (attrD ["Breaks"] ["Search"] "plan") (mVar 11)) (pur []))) (pur (.int 1)))) (mOr (mTst (mB (eqA not) (mCall lenF (mCons (mU (attrD ["Way"] [] "levels") (mVar 12)) (pur []))) (pur (.int 1)))) (mOr (mTst (mB (eqA not) (mU (attrD ["Stuck", "Serves"] [] "doubts") (mVar 13)) (mLst (mCons (mVar 4) (pur []))))) (mTst (mB (eqA not) (mCall lenF (mCons (mU (attrD ["Serves"] [] "answers") (mVar 13)) (pur []))) (pur (.int 1)))))))) (sRet (pur (.bl false))) (sNil)) (sSeq (sPar 14 15 (mCons (mDic0) (mCons (mDic0) (pur [])))) (sSeq (sAsg (mMake true "Bearable" f_Bearable____init__ (mCons (mVar 14) (mCons (mVar 15) (pur [])))) (gName 16)) (sSeq (sAsg (mTup (mCons (mVar 12) (mCons (mVar 10) (pur [])))) (gTup 2 (gCons (gSubD (mVar 14) (mVar 3)) (gCons (gSubD (mVar 15) (mVar 3)) (gNil))))) (sRet (mAndV (mB (eqO "Bearable" ["Bearable"] f_Bearable____eq__) (mVar 16) (mMake true "Bearable" f_Bearable____init__ (mCons (mDic0) (mCons (mDic0) (pur []))))) (mAndV (mB (neO "Stuck" ["Stuck"] f_Stuck____eq__) (mMake true "Stuck" f_Stuck____init__ (mCons (mLst (mCons (mVar 4) (pur []))) (pur []))) (mMake true "Stuck" f_Stuck____init__ (mCons (mLst (mCons (mVar 3) (pur []))) (pur [])))) (mAndV (mB (neO "Breaks" ["Breaks"] f_Breaks____eq__) (mMake true "Breaks" f_Breaks____init__ (mCons (mDisp (mPcons (mVar 3) (mTup (mCons (pur (.int 0)) (mCons (pur (.int 0)) (pur [])))) (pur []))) (pur []))) (mMake true "Breaks" f_Breaks____init__ (mCons (mDisp (mPcons (mVar 3) (mTup (mCons (pur (.int 0)) (mCons (pur (.int 1)) (pur [])))) (pur []))) (pur [])))) (mB (neO "Serves" ["Serves"] f_Serves____eq__) (mMake true "Serves" f_Serves____init__ (mCons (mLst (mCons (mVar 4) (pur []))) (mCons (mDic0) (pur [])))) (mMake true "Serves" f_Serves____init__ (mCons (mLst (mCons (mVar 3) (pur []))) (mCons (mDic0) (pur []))))))))))))))))))))))))
def f__law_levels_right : List D → Hd → Option (D × Hd) := runB 0 18 m__law_levels_right
theorem ok__law_levels_right (g : Fx K mg base) : Ok P w K mg base 46 (He.fAd K ("_law_levels_right", none)) [] f__law_levels_right :=
  ok_of (k := 45) g.f__law_levels_right sc__law_levels_right (fun _ _ _ _ _ _ us hl => match us, hl with | [], _ => rfl) fun cdv A outer s H E hr => by
    have sc := sc__law_levels_right
    exact ls_cons (ls_asg (le_tup (la_cons (le_tup (la_cons (le_tup (la_cons (le_tup (la_cons (le_cI) (la_cons (le_cI) (la_nil)))) (la_cons (le_tup (la_cons (le_cI) (la_cons (le_cI) (la_nil)))) (la_nil)))) (la_cons (le_tup (la_cons (le_tup (la_cons (le_cI) (la_cons (le_cI) (la_nil)))) (la_cons (le_cN) (la_nil)))) (la_nil)))) (la_cons (le_tup (la_cons (le_tup (la_cons (le_tup (la_cons (le_cI) (la_cons (le_cI) (la_nil)))) (la_cons (le_tup (la_cons (le_cI) (la_cons (le_cI) (la_nil)))) (la_nil)))) (la_cons (le_tup (la_cons (le_tup (la_cons (le_cI) (la_cons (le_cI) (la_nil)))) (la_cons (le_cN) (la_nil)))) (la_nil)))) (la_nil)))) (lg_tup rfl (lgs_cons (lg_name sc.nd rfl (loc_by rfl)) (lgs_cons (lg_name sc.nd rfl (loc_by rfl)) (lgs_nil))))) (ls_cons (ls_par3 rfl sc.nd rfl rfl rfl (by decide) (by decide) (by decide) rfl rfl rfl (la_cons (le_makeO (sl := true) (g.mk_Shelf) (ok_Shelf____init__ g) (hr.mono (by omega)) rfl (g.k_Shelf) (la_cons (le_tup (la_cons (le_var (i := 0) rfl (vis_by rfl)) (la_cons (le_var (i := 1) rfl (vis_by rfl)) (la_nil)))) (la_nil))) (la_cons (le_tup (la_cons (le_tup (la_cons (le_cI) (la_cons (le_cI) (la_nil)))) (la_cons (le_tup (la_cons (le_cI) (la_cons (le_cI) (la_nil)))) (la_nil)))) (la_cons (le_tup (la_cons (le_tup (la_cons (le_cI) (la_cons (le_cI) (la_nil)))) (la_cons (le_tup (la_cons (le_cI) (la_cons (le_cI) (la_nil)))) (la_nil)))) (la_nil)))) rfl) (ls_cons (ls_set sc.nd rfl (loc_by rfl) (le_tup (la_cons (le_cI) (la_cons (le_tup (la_cons (le_tup (la_cons (le_cI) (la_cons (le_tup (la_cons (le_cI) (la_cons (le_tup (la_cons (le_tup (la_cons (le_cI) (la_cons (le_cN) (la_nil)))) (la_cons (le_tup (la_cons (le_cI) (la_cons (le_cN) (la_nil)))) (la_nil)))) (la_nil)))) (la_nil)))) (la_nil))) (la_nil))))) (ls_cons (ls_if (lt_w (lw_or (lt_not (lt_val (le_methSO (le_makeO (sl := true) (g.mk_Way) (ok_Way____init__ g) (hr.mono (by omega)) rfl (g.k_Way) (la_cons (le_var (i := 5) rfl (vis_by rfl)) (la_cons (le_disp (ru4 hr) (lp_cons (le_var (i := 3) rfl (vis_by rfl)) (le_cI) (lp_cons (le_var (i := 4) rfl (vis_by rfl)) (le_cI) (lp_nil)))) (la_nil)))) (g.k_Way) (g.sc_Way) (g.m_Way_shows) (ok_Way__shows g) (hr.mono (by omega)) (la_cons (le_var (i := 2) rfl (vis_by rfl)) (la_cons (le_var (i := 3) rfl (vis_by rfl)) (la_cons (le_cS) (la_nil))))))) (lw_or (lt_val (le_methSO (le_makeO (sl := true) (g.mk_Way) (ok_Way____init__ g) (hr.mono (by omega)) rfl (g.k_Way) (la_cons (le_var (i := 5) rfl (vis_by rfl)) (la_cons (le_disp (ru4 hr) (lp_cons (le_var (i := 3) rfl (vis_by rfl)) (le_cI) (lp_nil))) (la_nil)))) (g.k_Way) (g.sc_Way) (g.m_Way_shows) (ok_Way__shows g) (hr.mono (by omega)) (la_cons (le_var (i := 2) rfl (vis_by rfl)) (la_cons (le_var (i := 3) rfl (vis_by rfl)) (la_cons (le_cS) (la_nil)))))) (lw_or1 (lt_val (le_methSO (le_makeO (sl := true) (g.mk_Way) (ok_Way____init__ g) (hr.mono (by omega)) rfl (g.k_Way) (la_cons (le_var (i := 5) rfl (vis_by rfl)) (la_cons (le_disp (ru4 hr) (lp_cons (le_var (i := 3) rfl (vis_by rfl)) (le_cI) (lp_cons (le_var (i := 4) rfl (vis_by rfl)) (le_cI) (lp_nil)))) (la_nil)))) (g.k_Way) (g.sc_Way) (g.m_Way_shows) (ok_Way__shows g) (hr.mono (by omega)) (la_cons (le_var (i := 2) rfl (vis_by rfl)) (la_cons (le_var (i := 3) rfl (vis_by rfl)) (la_cons (le_cS) (la_nil)))))))))) (ls_one (ls_ret (le_cB))) (ls_nil)) (ls_cons (ls_if (lt_w (lw_or (lt_val (le_methSO (le_makeO (sl := true) (g.mk_Way) (ok_Way____init__ g) (hr.mono (by omega)) rfl (g.k_Way) (la_cons (le_tup (la_cons (le_cI) (la_cons (le_tup (la_cons (le_tup (la_cons (le_cI) (la_cons (le_var (i := 5) rfl (vis_by rfl)) (la_nil)))) (la_nil))) (la_nil)))) (la_cons (le_disp (ru4 hr) (lp_cons (le_var (i := 3) rfl (vis_by rfl)) (le_cI) (lp_cons (le_var (i := 4) rfl (vis_by rfl)) (le_cI) (lp_nil)))) (la_nil)))) (g.k_Way) (g.sc_Way) (g.m_Way_shows) (ok_Way__shows g) (hr.mono (by omega)) (la_cons (le_var (i := 2) rfl (vis_by rfl)) (la_cons (le_var (i := 3) rfl (vis_by rfl)) (la_cons (le_cS) (la_nil)))))) (lw_or1 (lt_val (le_methSO (le_makeO (sl := true) (g.mk_Way) (ok_Way____init__ g) (hr.mono (by omega)) rfl (g.k_Way) (la_cons (le_tup (la_cons (le_cI) (la_cons (le_tup (la_cons (le_tup (la_cons (le_cI) (la_cons (le_tup (la_cons (le_cI) (la_cons (le_tup (la_nil)) (la_nil)))) (la_nil)))) (la_nil))) (la_nil)))) (la_cons (le_disp (ru4 hr) (lp_cons (le_var (i := 3) rfl (vis_by rfl)) (le_cI) (lp_cons (le_var (i := 4) rfl (vis_by rfl)) (le_cI) (lp_nil)))) (la_nil)))) (g.k_Way) (g.sc_Way) (g.m_Way_shows) (ok_Way__shows g) (hr.mono (by omega)) (la_cons (le_var (i := 2) rfl (vis_by rfl)) (la_cons (le_var (i := 3) rfl (vis_by rfl)) (la_cons (le_cS) (la_nil))))))))) (ls_one (ls_ret (le_cB))) (ls_nil)) (ls_cons (ls_if (lt_w (lw_or (lt_val (le_methSO (le_makeO (sl := true) (g.mk_Way) (ok_Way____init__ g) (hr.mono (by omega)) rfl (g.k_Way) (la_cons (le_tup (la_cons (le_cI) (la_cons (le_tup (la_cons (le_tup (la_cons (le_cI) (la_cons (le_cN) (la_nil)))) (la_nil))) (la_nil)))) (la_cons (le_disp (ru4 hr) (lp_cons (le_var (i := 3) rfl (vis_by rfl)) (le_cI) (lp_nil))) (la_nil)))) (g.k_Way) (g.sc_Way) (g.m_Way_shows) (ok_Way__shows g) (hr.mono (by omega)) (la_cons (le_var (i := 2) rfl (vis_by rfl)) (la_cons (le_var (i := 3) rfl (vis_by rfl)) (la_cons (le_cS) (la_nil)))))) (lw_or1 (lt_val (le_methSO (le_makeO (sl := true) (g.mk_Way) (ok_Way____init__ g) (hr.mono (by omega)) rfl (g.k_Way) (la_cons (le_var (i := 5) rfl (vis_by rfl)) (la_cons (le_disp (ru4 hr) (lp_cons (le_var (i := 3) rfl (vis_by rfl)) (le_cI) (lp_cons (le_var (i := 4) rfl (vis_by rfl)) (le_cI) (lp_cons (le_tup (la_cons (le_tup (la_cons (le_cI) (la_cons (le_cI) (la_nil)))) (la_nil))) (le_cI) (lp_nil))))) (la_nil)))) (g.k_Way) (g.sc_Way) (g.m_Way_shows) (ok_Way__shows g) (hr.mono (by omega)) (la_cons (le_var (i := 2) rfl (vis_by rfl)) (la_cons (le_var (i := 3) rfl (vis_by rfl)) (la_cons (le_cS) (la_nil))))))))) (ls_one (ls_ret (le_cB))) (ls_nil)) (ls_cons (ls_asg (le_tup (la_cons (le_lst (la_cons (le_var (i := 4) rfl (vis_by rfl)) (la_nil))) (la_cons (le_disp (ru4 hr) (lp_cons (le_var (i := 3) rfl (vis_by rfl)) (le_tup (la_cons (le_cI) (la_cons (le_cI) (la_nil)))) (lp_nil))) (la_cons (le_disp (ru4 hr) (lp_cons (le_var (i := 3) rfl (vis_by rfl)) (le_cI) (lp_nil))) (la_cons (le_disp (ru4 hr) (lp_cons (le_tup (la_cons (le_var (i := 3) rfl (vis_by rfl)) (la_cons (le_cI) (la_nil)))) (le_cI) (lp_nil))) (la_nil)))))) (lg_tup rfl (lgs_cons (lg_name sc.nd rfl (loc_by rfl)) (lgs_cons (lg_name sc.nd rfl (loc_by rfl)) (lgs_cons (lg_name sc.nd rfl (loc_by rfl)) (lgs_cons (lg_name sc.nd rfl (loc_by rfl)) (lgs_nil))))))) (ls_cons (ls_asg (le_tup (la_cons (le_makeO (sl := true) (g.mk_Stuck) (ok_Stuck____init__ g) (hr.mono (by omega)) rfl (g.k_Stuck) (la_cons (le_var (i := 6) rfl (vis_by rfl)) (la_nil))) (la_cons (le_makeO (sl := true) (g.mk_Breaks) (ok_Breaks____init__ g) (hr.mono (by omega)) rfl (g.k_Breaks) (la_cons (le_var (i := 7) rfl (vis_by rfl)) (la_nil))) (la_cons (le_makeO (sl := true) (g.mk_Way) (ok_Way____init__ g) (hr.mono (by omega)) rfl (g.k_Way) (la_cons (le_var (i := 5) rfl (vis_by rfl)) (la_cons (le_var (i := 8) rfl (vis_by rfl)) (la_nil)))) (la_cons (le_makeO (sl := true) (g.mk_Serves) (ok_Serves____init__ g) (hr.mono (by omega)) rfl (g.k_Serves) (la_cons (le_var (i := 6) rfl (vis_by rfl)) (la_cons (le_var (i := 9) rfl (vis_by rfl)) (la_nil)))) (la_nil)))))) (lg_tup rfl (lgs_cons (lg_name sc.nd rfl (loc_by rfl)) (lgs_cons (lg_name sc.nd rfl (loc_by rfl)) (lgs_cons (lg_name sc.nd rfl (loc_by rfl)) (lgs_cons (lg_name sc.nd rfl (loc_by rfl)) (lgs_nil))))))) (ls_cons (ls_exp (le_bm PySem.F.plainAttrs_list PySem.F.slot_list_append PySem.F.type_list_append (mt_appM) (le_var (i := 6) rfl (vis_by rfl)) (la_cons (le_var (i := 3) rfl (vis_by rfl)) (la_nil)))) (ls_cons (ls_asg (le_tup (la_cons (le_cI) (la_cons (le_cI) (la_nil)))) (lg_sub (ru4 hr) (le_var (i := 7) rfl (vis_by rfl)) (le_var (i := 4) rfl (vis_by rfl)))) (ls_cons (ls_asg (le_cI) (lg_sub (ru4 hr) (le_var (i := 8) rfl (vis_by rfl)) (le_var (i := 4) rfl (vis_by rfl)))) (ls_cons (ls_exp (le_bm0 PySem.F.plainAttrs_dict PySem.F.slot_dict_clear PySem.F.type_dict_clear (mt_clrDM) (le_var (i := 9) rfl (vis_by rfl)))) (ls_cons (ls_if (lt_w (lw_or (lt_cmp (op_neA (ru5 hr)) (le_lc (own := [("_law_doubt", 17)]) rfl sc.nd (li_own ⟨oki_Stuck g, (fun c hc => by simp only [List.mem_cons, List.not_mem_nil, or_false] at hc; subst hc; exact ⟨_, g.k_Stuck, g.m_Stuck___iter__⟩), (fun c hc => by cases hc)⟩ (hr.mono (by omega)) (le_var (i := 10) rfl (vis_by rfl))) (blkOk_by (own := [("_law_doubt", 17)]) (by kernel_rfl)) (fun _ _ _ _ _ => lgc_name (by decide) sc.nd rfl (loc_by rfl)) (fun _ _ _ _ _ => lts_nil) (fun _ _ _ _ _ => le_var (i := 17) rfl (vis_by rfl))) (le_lst (la_cons (le_var (i := 4) rfl (vis_by rfl)) (la_nil)))) (lw_or (lt_cmp (op_neA (ru5 hr)) (le_callB (call_lenF) rfl (g.b_len) (by decide +kernel) (la_cons (le_attr (fun c hc => by simp only [List.mem_cons, List.not_mem_nil, or_false] at hc; subst hc; exact g.fs_Breaks_plan) (fun c hc => by simp only [List.mem_cons, List.not_mem_nil, or_false] at hc; subst hc; exact g.fd_Search_plan) (le_var (i := 11) rfl (vis_by rfl))) (la_nil))) (le_cI)) (lw_or (lt_cmp (op_neA (ru5 hr)) (le_callB (call_lenF) rfl (g.b_len) (by decide +kernel) (la_cons (le_attr (fun c hc => by simp only [List.mem_cons, List.not_mem_nil, or_false] at hc; subst hc; exact g.fs_Way_levels) (fun c hc => by cases hc) (le_var (i := 12) rfl (vis_by rfl))) (la_nil))) (le_cI)) (lw_or (lt_cmp (op_neA (ru5 hr)) (le_attr (fun c hc => by simp only [List.mem_cons, List.not_mem_nil, or_false] at hc; rcases hc with rfl | rfl <;> first | exact g.fs_Stuck_doubts | exact g.fs_Serves_doubts) (fun c hc => by cases hc) (le_var (i := 13) rfl (vis_by rfl))) (le_lst (la_cons (le_var (i := 4) rfl (vis_by rfl)) (la_nil)))) (lw_or1 (lt_cmp (op_neA (ru5 hr)) (le_callB (call_lenF) rfl (g.b_len) (by decide +kernel) (la_cons (le_attr (fun c hc => by simp only [List.mem_cons, List.not_mem_nil, or_false] at hc; subst hc; exact g.fs_Serves_answers) (fun c hc => by cases hc) (le_var (i := 13) rfl (vis_by rfl))) (la_nil))) (le_cI)))))))) (ls_one (ls_ret (le_cB))) (ls_nil)) (ls_cons (ls_par rfl sc.nd rfl rfl (by decide) rfl rfl (la_cons (le_dic0) (la_cons (le_dic0) (la_nil))) rfl) (ls_cons (ls_set sc.nd rfl (loc_by rfl) (le_makeO (sl := true) (g.mk_Bearable) (ok_Bearable____init__ g) (hr.mono (by omega)) rfl (g.k_Bearable) (la_cons (le_var (i := 14) rfl (vis_by rfl)) (la_cons (le_var (i := 15) rfl (vis_by rfl)) (la_nil))))) (ls_cons (ls_asg (le_tup (la_cons (le_var (i := 12) rfl (vis_by rfl)) (la_cons (le_var (i := 10) rfl (vis_by rfl)) (la_nil)))) (lg_tup rfl (lgs_cons (lg_sub (ru4 hr) (le_var (i := 14) rfl (vis_by rfl)) (le_var (i := 3) rfl (vis_by rfl))) (lgs_cons (lg_sub (ru4 hr) (le_var (i := 15) rfl (vis_by rfl)) (le_var (i := 3) rfl (vis_by rfl))) (lgs_nil))))) (ls_one (ls_ret (le_and (le_cmp (op_eqO (g.k_Bearable) (g.m_Bearable___eq__) (fun c hc => by simp only [List.mem_cons, List.not_mem_nil, or_false] at hc; subst hc; exact ⟨_, g.k_Bearable, notFirst_self⟩) (ok_Bearable____eq__ g) (hr.mono (by omega))) (le_var (i := 16) rfl (vis_by rfl)) (le_makeO (sl := true) (g.mk_Bearable) (ok_Bearable____init__ g) (hr.mono (by omega)) rfl (g.k_Bearable) (la_cons (le_dic0) (la_cons (le_dic0) (la_nil))))) (le_and (le_cmp (op_neO (g.k_Stuck) (g.m_Stuck___eq__) (g.nc_Stuck) (fun c hc => by simp only [List.mem_cons, List.not_mem_nil, or_false] at hc; subst hc; exact ⟨_, g.k_Stuck, notFirst_self⟩) (ok_Stuck____eq__ g) (hr.mono (by omega))) (le_makeO (sl := true) (g.mk_Stuck) (ok_Stuck____init__ g) (hr.mono (by omega)) rfl (g.k_Stuck) (la_cons (le_lst (la_cons (le_var (i := 4) rfl (vis_by rfl)) (la_nil))) (la_nil))) (le_makeO (sl := true) (g.mk_Stuck) (ok_Stuck____init__ g) (hr.mono (by omega)) rfl (g.k_Stuck) (la_cons (le_lst (la_cons (le_var (i := 3) rfl (vis_by rfl)) (la_nil))) (la_nil)))) (le_and (le_cmp (op_neO (g.k_Breaks) (g.m_Breaks___eq__) (g.nc_Breaks) (fun c hc => by simp only [List.mem_cons, List.not_mem_nil, or_false] at hc; subst hc; exact ⟨_, g.k_Breaks, notFirst_self⟩) (ok_Breaks____eq__ g) (hr.mono (by omega))) (le_makeO (sl := true) (g.mk_Breaks) (ok_Breaks____init__ g) (hr.mono (by omega)) rfl (g.k_Breaks) (la_cons (le_disp (ru4 hr) (lp_cons (le_var (i := 3) rfl (vis_by rfl)) (le_tup (la_cons (le_cI) (la_cons (le_cI) (la_nil)))) (lp_nil))) (la_nil))) (le_makeO (sl := true) (g.mk_Breaks) (ok_Breaks____init__ g) (hr.mono (by omega)) rfl (g.k_Breaks) (la_cons (le_disp (ru4 hr) (lp_cons (le_var (i := 3) rfl (vis_by rfl)) (le_tup (la_cons (le_cI) (la_cons (le_cI) (la_nil)))) (lp_nil))) (la_nil)))) (le_one (le_cmp (op_neO (g.k_Serves) (g.m_Serves___eq__) (g.nc_Serves) (fun c hc => by simp only [List.mem_cons, List.not_mem_nil, or_false] at hc; subst hc; exact ⟨_, g.k_Serves, notFirst_self⟩) (ok_Serves____eq__ g) (hr.mono (by omega))) (le_makeO (sl := true) (g.mk_Serves) (ok_Serves____init__ g) (hr.mono (by omega)) rfl (g.k_Serves) (la_cons (le_lst (la_cons (le_var (i := 4) rfl (vis_by rfl)) (la_nil))) (la_cons (le_dic0) (la_nil)))) (le_makeO (sl := true) (g.mk_Serves) (ok_Serves____init__ g) (hr.mono (by omega)) rfl (g.k_Serves) (la_cons (le_lst (la_cons (le_var (i := 3) rfl (vis_by rfl)) (la_nil))) (la_cons (le_dic0) (la_nil))))))))))))))))))))))))))

-- numbers_for
theorem sc_numbers_for : FnScope ["shelf", "aim", "lots", "found", "rank", "fresh", "one"] ["shelf", "aim", "lots"] (defScope (top 44)) := ⟨rfl, rfl, rfl, by decide +kernel, rfl, by decide +kernel, by decide +kernel⟩
def m_numbers_for : S := sSeq (sAsg (mDc 2000 [6] (mSrc (mVar 2)) (gName 6) (mTst (mCall f_is_met (mCons (mVar 6) (mCons (mVar 1) (pur []))))) (mVar 6) (pur (.int 0))) (gName 3)) (sSeq (sAsg (mTup (mCons (pur (.int 1)) (mCons (mLc 2000 [6] (mSrc (mVar 2)) (gName 6) (mAnd (mTst (mB (inA not) (mVar 6) (mVar 3))) (mTst (mCall f_can_in (mCons (mVar 0) (mCons (mVar 6) (mCons (mVar 3) (pur []))))))) (mVar 6)) (pur [])))) (gTup 2 (gCons (gName 4) (gCons (gName 5) (gNil))))) (sSeq (sWhile (mTst (mB (eqA not) (mVar 5) (mLst (pur [])))) (sSeq (sExp (mMeth "dict" updM (mVar 3) (mCons (mDc 2000 [6] (mSrc (mVar 5)) (gName 6) (pur true) (mVar 6) (mVar 4)) (pur [])))) (sSeq (sAug 4 subAdd (pur (.int 1))) (sAsg (mLc 2000 [6] (mSrc (mVar 2)) (gName 6) (mAnd (mTst (mB (inA not) (mVar 6) (mVar 3))) (mTst (mCall f_can_in (mCons (mVar 0) (mCons (mVar 6) (mCons (mVar 3) (pur []))))))) (mVar 6)) (gName 5)))) 2000) (sRet (mVar 3))))
def f_numbers_for : List D → Hd → Option (D × Hd) := runB 3 7 m_numbers_for
theorem ok_numbers_for (g : Fx K mg base) : Ok P w K mg base 6 (He.fAd K ("numbers_for", none)) ["shelf", "aim", "lots"] f_numbers_for :=
  ok_of (k := 5) g.f_numbers_for sc_numbers_for (fun _ _ _ _ _ _ us hl => match us, hl with | [_, _, _], _ => rfl) fun cdv A outer s H E hr => by
    have sc := sc_numbers_for
    exact ls_cons (ls_set sc.nd rfl (loc_by rfl) (le_dc (own := [("one", 6)]) (ru4 hr) rfl sc.nd (li_any (le_var (i := 2) rfl (vis_by rfl))) (blkOk_by (own := [("one", 6)]) (by kernel_rfl)) (fun _ _ _ _ _ => lgc_name (by decide) sc.nd rfl (loc_by rfl)) (fun _ _ _ _ _ => lts_one (lt_val (le_callO (ok_is_met g) (hr.mono (by omega)) rfl (g.g_is_met) (la_cons (le_var (i := 6) rfl (vis_by rfl)) (la_cons (le_var (i := 1) rfl (vis_by rfl)) (la_nil)))))) (fun _ _ _ _ _ => le_var (i := 6) rfl (vis_by rfl)) (fun _ _ _ _ _ => le_cI))) (ls_cons (ls_asg (le_tup (la_cons (le_cI) (la_cons (le_lc (own := [("one", 6)]) rfl sc.nd (li_any (le_var (i := 2) rfl (vis_by rfl))) (blkOk_by (own := [("one", 6)]) (by kernel_rfl)) (fun _ _ _ _ _ => lgc_name (by decide) sc.nd rfl (loc_by rfl)) (fun _ _ _ _ _ => lts_one (lt_w (lw_and (lt_cmp (op_notInA (ru5 hr)) (le_var (i := 6) rfl (vis_by rfl)) (le_var (i := 3) rfl (vis_by rfl))) (lw_and1 (lt_val (le_callO (ok_can_in g) (hr.mono (by omega)) rfl (g.g_can_in) (la_cons (le_var (i := 0) rfl (vis_by rfl)) (la_cons (le_var (i := 6) rfl (vis_by rfl)) (la_cons (le_var (i := 3) rfl (vis_by rfl)) (la_nil)))))))))) (fun _ _ _ _ _ => le_var (i := 6) rfl (vis_by rfl))) (la_nil)))) (lg_tup rfl (lgs_cons (lg_name sc.nd rfl (loc_by rfl)) (lgs_cons (lg_name sc.nd rfl (loc_by rfl)) (lgs_nil))))) (ls_cons (ls_while PassesOwn.never (lt_cmp (op_neA (ru5 hr)) (le_var (i := 5) rfl (vis_by rfl)) (le_lst (la_nil))) (ls_cons (ls_exp (le_bm PySem.F.plainAttrs_dict PySem.F.slot_dict_update PySem.F.type_dict_update (mt_updM (ru4 hr)) (le_var (i := 3) rfl (vis_by rfl)) (la_cons (le_dc (own := [("one", 6)]) (ru4 hr) rfl sc.nd (li_any (le_var (i := 5) rfl (vis_by rfl))) (blkOk_by (own := [("one", 6)]) (by kernel_rfl)) (fun _ _ _ _ _ => lgc_name (by decide) sc.nd rfl (loc_by rfl)) (fun _ _ _ _ _ => lts_nil) (fun _ _ _ _ _ => le_var (i := 6) rfl (vis_by rfl)) (fun _ _ _ _ _ => le_var (i := 4) rfl (vis_by rfl))) (la_nil)))) (ls_cons (ls_aug sc.nd rfl (loc_by rfl) (le_cI) iop_addD) (ls_one (ls_setLc (own := [("one", 6)]) rfl sc.nd rfl rfl (sw_true rfl rfl rfl rfl) (li_any (le_var (i := 2) rfl (vis_by rfl))) (blkOk_by (own := [("one", 6)]) (by kernel_rfl)) (fun _ _ _ _ _ => lgc_name (by decide) sc.nd rfl (loc_by rfl)) (fun _ _ _ _ _ => lts_one (lt_w (lw_and (lt_cmp (op_notInA (ru5 hr)) (le_var (i := 6) rfl (vis_by rfl)) (le_var (i := 3) rfl (vis_by rfl))) (lw_and1 (lt_val (le_callO (ok_can_in g) (hr.mono (by omega)) rfl (g.g_can_in) (la_cons (le_var (i := 0) rfl (vis_by rfl)) (la_cons (le_var (i := 6) rfl (vis_by rfl)) (la_cons (le_var (i := 3) rfl (vis_by rfl)) (la_nil)))))))))) (fun _ _ _ _ _ => le_var (i := 6) rfl (vis_by rfl))))))) (ls_one (ls_ret (le_var (i := 3) rfl (vis_by rfl))))))

-- way_of
theorem sc_way_of : FnScope ["shelf", "doubt", "aim", "lots", "found", "most", "one"] ["shelf", "doubt", "aim"] (defScope (top 48)) := ⟨rfl, rfl, rfl, by decide +kernel, rfl, by decide +kernel, by decide +kernel⟩
def m_way_of : S := sSeq (sAsg (mCall f_reach_of (mCons (mVar 0) (mCons (mVar 1) (pur [])))) (gName 3)) (sSeq (sAsg (mCall f_numbers_for (mCons (mVar 0) (mCons (mVar 2) (mCons (mVar 3) (pur []))))) (gName 4)) (sSeq (sIf (mTst (mB (inA id) (mVar 1) (mVar 4))) (sSeq (sAsg (mB ixA (mVar 4) (mVar 1)) (gName 5)) (sRet (mMake true "Way" f_Way____init__ (mCons (mCall (f_tree_for 40) (mCons (mVar 0) (mCons (mVar 1) (mCons (mVar 4) (pur []))))) (mCons (mDc 2000 [6] (mSrc (mVar 3)) (gName 6) (pur true) (mVar 6) (mCall min2F (mCons (mVar 5) (mCons (mMeth "dict" getM (mVar 4) (mCons (mVar 6) (mCons (mVar 5) (pur [])))) (pur []))))) (pur [])))))) (sNil)) (sRet (mMake true "Stuck" f_Stuck____init__ (mCons (mLc 2000 [6] (mSrc (mVar 3)) (gName 6) (mTst (mB (inA not) (mVar 6) (mVar 4))) (mVar 6)) (pur []))))))
def f_way_of : List D → Hd → Option (D × Hd) := runB 3 7 m_way_of
theorem ok_way_of (g : Fx K mg base) : Ok P w K mg base 47 (He.fAd K ("way_of", none)) ["shelf", "doubt", "aim"] f_way_of :=
  ok_of (k := 46) g.f_way_of sc_way_of (fun _ _ _ _ _ _ us hl => match us, hl with | [_, _, _], _ => rfl) fun cdv A outer s H E hr => by
    have sc := sc_way_of
    exact ls_cons (ls_set sc.nd rfl (loc_by rfl) (le_callO (ok_reach_of g) (hr.mono (by omega)) rfl (g.g_reach_of) (la_cons (le_var (i := 0) rfl (vis_by rfl)) (la_cons (le_var (i := 1) rfl (vis_by rfl)) (la_nil))))) (ls_cons (ls_set sc.nd rfl (loc_by rfl) (le_callO (ok_numbers_for g) (hr.mono (by omega)) rfl (g.g_numbers_for) (la_cons (le_var (i := 0) rfl (vis_by rfl)) (la_cons (le_var (i := 2) rfl (vis_by rfl)) (la_cons (le_var (i := 3) rfl (vis_by rfl)) (la_nil)))))) (ls_cons (ls_if (lt_cmp (op_inA (ru5 hr)) (le_var (i := 1) rfl (vis_by rfl)) (le_var (i := 4) rfl (vis_by rfl))) (ls_cons (ls_set sc.nd rfl (loc_by rfl) (le_ix (ix_A (ru4 hr)) (le_var (i := 4) rfl (vis_by rfl)) (le_var (i := 1) rfl (vis_by rfl)))) (ls_one (ls_ret (le_makeO (sl := true) (g.mk_Way) (ok_Way____init__ g) (hr.mono (by omega)) rfl (g.k_Way) (la_cons (le_callO (ok_tree_for g 40) (hr.mono (by omega)) rfl (g.g_tree_for) (la_cons (le_var (i := 0) rfl (vis_by rfl)) (la_cons (le_var (i := 1) rfl (vis_by rfl)) (la_cons (le_var (i := 4) rfl (vis_by rfl)) (la_nil))))) (la_cons (le_dc (own := [("one", 6)]) (ru4 hr) rfl sc.nd (li_any (le_var (i := 3) rfl (vis_by rfl))) (blkOk_by (own := [("one", 6)]) (by kernel_rfl)) (fun _ _ _ _ _ => lgc_name (by decide) sc.nd rfl (loc_by rfl)) (fun _ _ _ _ _ => lts_nil) (fun _ _ _ _ _ => le_var (i := 6) rfl (vis_by rfl)) (fun _ _ _ _ _ => le_callB (call_min2F rfl) rfl (g.b_min) (by decide +kernel) (la_cons (le_var (i := 5) rfl (vis_by rfl)) (la_cons (le_bm PySem.F.plainAttrs_dict PySem.F.slot_dict_get PySem.F.type_dict_get (mt_getM (ru4 hr)) (le_var (i := 4) rfl (vis_by rfl)) (la_cons (le_var (i := 6) rfl (vis_by rfl)) (la_cons (le_var (i := 5) rfl (vis_by rfl)) (la_nil)))) (la_nil))))) (la_nil))))))) (ls_nil)) (ls_one (ls_ret (le_makeO (sl := true) (g.mk_Stuck) (ok_Stuck____init__ g) (hr.mono (by omega)) rfl (g.k_Stuck) (la_cons (le_lc (own := [("one", 6)]) rfl sc.nd (li_any (le_var (i := 3) rfl (vis_by rfl))) (blkOk_by (own := [("one", 6)]) (by kernel_rfl)) (fun _ _ _ _ _ => lgc_name (by decide) sc.nd rfl (loc_by rfl)) (fun _ _ _ _ _ => lts_one (lt_cmp (op_notInA (ru5 hr)) (le_var (i := 6) rfl (vis_by rfl)) (le_var (i := 4) rfl (vis_by rfl)))) (fun _ _ _ _ _ => le_var (i := 6) rfl (vis_by rfl))) (la_nil)))))))

-- way
theorem sc_way : FnScope ["shelf", "doubt", "aim"] ["shelf", "doubt", "aim"] (defScope (top 49)) := ⟨rfl, rfl, rfl, by decide +kernel, rfl, by decide +kernel, by decide +kernel⟩
def m_way : S := sSeq (sExp (mCall f_check_doubt (mCons (mVar 0) (mCons (mVar 1) (pur []))))) (sSeq (sExp (mCall f_check_aim (mCons (mVar 0) (mCons (mVar 2) (pur []))))) (sRet (mCall f_way_of (mCons (mVar 0) (mCons (mVar 1) (mCons (mVar 2) (pur [])))))))
def f_way : List D → Hd → Option (D × Hd) := runB 3 3 m_way
theorem ok_way (g : Fx K mg base) : Ok P w K mg base 48 (He.fAd K ("way", none)) ["shelf", "doubt", "aim"] f_way :=
  ok_of (k := 47) g.f_way sc_way (fun _ _ _ _ _ _ us hl => match us, hl with | [_, _, _], _ => rfl) fun cdv A outer s H E hr => by
    have sc := sc_way
    exact ls_cons (ls_exp (le_callO (ok_check_doubt g) (hr.mono (by omega)) rfl (g.g_check_doubt) (la_cons (le_var (i := 0) rfl (vis_by rfl)) (la_cons (le_var (i := 1) rfl (vis_by rfl)) (la_nil))))) (ls_cons (ls_exp (le_callO (ok_check_aim g) (hr.mono (by omega)) rfl (g.g_check_aim) (la_cons (le_var (i := 0) rfl (vis_by rfl)) (la_cons (le_var (i := 2) rfl (vis_by rfl)) (la_nil))))) (ls_one (ls_ret (le_callO (ok_way_of g) (hr.mono (by omega)) rfl (g.g_way_of) (la_cons (le_var (i := 0) rfl (vis_by rfl)) (la_cons (le_var (i := 1) rfl (vis_by rfl)) (la_cons (le_var (i := 2) rfl (vis_by rfl)) (la_nil))))))))

-- fewest
theorem sc_fewest : FnScope ["shelf", "doubt", "aim", "found"] ["shelf", "doubt", "aim"] (defScope (top 50)) := ⟨rfl, rfl, rfl, by decide +kernel, rfl, by decide +kernel, by decide +kernel⟩
def m_fewest : S := sSeq (sAsg (mCall f_way (mCons (mVar 0) (mCons (mVar 1) (mCons (mVar 2) (pur []))))) (gName 3)) (sRet (mIf (mTst (mU (isiA tb_Way to_Way) (mVar 3))) (mCall (f_depth_of 40) (mCons (mU (attrD ["Way"] [] "tree") (mVar 3)) (pur []))) (pur .non)))
def f_fewest : List D → Hd → Option (D × Hd) := runB 3 4 m_fewest
theorem ok_fewest (g : Fx K mg base) : Ok P w K mg base 49 (He.fAd K ("fewest", none)) ["shelf", "doubt", "aim"] f_fewest :=
  ok_of (k := 48) g.f_fewest sc_fewest (fun _ _ _ _ _ _ us hl => match us, hl with | [_, _, _], _ => rfl) fun cdv A outer s H E hr => by
    have sc := sc_fewest
    exact ls_cons (ls_set sc.nd rfl (loc_by rfl) (le_callO (ok_way g) (hr.mono (by omega)) rfl (g.g_way) (la_cons (le_var (i := 0) rfl (vis_by rfl)) (la_cons (le_var (i := 1) rfl (vis_by rfl)) (la_cons (le_var (i := 2) rfl (vis_by rfl)) (la_nil)))))) (ls_one (ls_ret (le_if (lt_val (le_isi (le_var (i := 3) rfl (vis_by rfl)) (pe_glob (v := .ref (He.ga K "Way")) rfl (g.k_Way) rfl) (.own _) (ans_of (g.an_Way)) rfl (g.b_isinstance) (by decide +kernel))) (le_callO (ok_depth_of g 40) (hr.mono (by omega)) rfl (g.g_depth_of) (la_cons (le_attr (fun c hc => by simp only [List.mem_cons, List.not_mem_nil, or_false] at hc; subst hc; exact g.fs_Way_tree) (fun c hc => by cases hc) (le_var (i := 3) rfl (vis_by rfl))) (la_nil))) (le_cN))))

-- Bearable__shows
theorem sc_Bearable__shows : FnScope ["self", "shelf", "aim", "one"] ["self", "shelf", "aim"] (defScope (inCls 52 3)) := ⟨rfl, rfl, rfl, by decide +kernel, rfl, by decide +kernel, by decide +kernel⟩
def m_Bearable__shows : S := sSeq (sExp (mCall f_check_bearable (mCons (mVar 1) (mCons (mVar 2) (pur []))))) (sSeq (sIf (mOr (mNot (mTst (mCall f_are_apart (mCons (mU (attrD ["Bearable"] [] "ways") (mVar 0)) (pur []))))) (mNot (mTst (mCall f_are_apart (mCons (mU (attrD ["Bearable"] [] "stucks") (mVar 0)) (pur [])))))) (sRet (pur (.bl false))) (sNil)) (sSeq (sIf (mNot (mTst (mCall allF (mCons (mLc 2000 [3] (mSrc (mU (attrD ["Bearable"] [] "ways") (mVar 0))) (gName 3) (pur true) (mMS "Way" f_Way__shows (mB ixA (mU (attrD ["Bearable"] [] "ways") (mVar 0)) (mVar 3)) (mCons (mVar 1) (mCons (mVar 3) (mCons (mVar 2) (pur [])))))) (pur []))))) (sRet (pur (.bl false))) (sNil)) (sSeq (sIf (mNot (mTst (mCall allF (mCons (mLc 2000 [3] (mSrc (mU (attrD ["Bearable"] [] "stucks") (mVar 0))) (gName 3) (pur true) (mMS "Stuck" f_Stuck__shows (mB ixA (mU (attrD ["Bearable"] [] "stucks") (mVar 0)) (mVar 3)) (mCons (mVar 1) (mCons (mVar 3) (mCons (mVar 2) (pur [])))))) (pur []))))) (sRet (pur (.bl false))) (sNil)) (sRet (mCall allF (mCons (mLc 2000 [3] (mSrc (mCall f_all_doubts (mCons (mVar 1) (pur [])))) (gName 3) (pur true) (mMS "Bearable" f_Bearable__is_known (mVar 0) (mCons (mVar 3) (pur [])))) (pur [])))))))
def f_Bearable__shows : List D → Hd → Option (D × Hd) := runB 3 4 m_Bearable__shows
theorem ok_Bearable__shows (g : Fx K mg base) : Ok P w K mg base 46 (He.fAd K ("Bearable", some "shows")) ["self", "shelf", "aim"] f_Bearable__shows :=
  ok_of (k := 45) g.f_Bearable__shows sc_Bearable__shows (fun _ _ _ _ _ _ us hl => match us, hl with | [_, _, _], _ => rfl) fun cdv A outer s H E hr => by
    have sc := sc_Bearable__shows
    exact ls_cons (ls_exp (le_callO (ok_check_bearable g) (hr.mono (by omega)) rfl (g.g_check_bearable) (la_cons (le_var (i := 1) rfl (vis_by rfl)) (la_cons (le_var (i := 2) rfl (vis_by rfl)) (la_nil))))) (ls_cons (ls_if (lt_w (lw_or (lt_not (lt_val (le_callO (ok_are_apart g) (hr.mono (by omega)) rfl (g.g_are_apart) (la_cons (le_attr (fun c hc => by simp only [List.mem_cons, List.not_mem_nil, or_false] at hc; subst hc; exact g.fs_Bearable_ways) (fun c hc => by cases hc) (le_var (i := 0) rfl (vis_by rfl))) (la_nil))))) (lw_or1 (lt_not (lt_val (le_callO (ok_are_apart g) (hr.mono (by omega)) rfl (g.g_are_apart) (la_cons (le_attr (fun c hc => by simp only [List.mem_cons, List.not_mem_nil, or_false] at hc; subst hc; exact g.fs_Bearable_stucks) (fun c hc => by cases hc) (le_var (i := 0) rfl (vis_by rfl))) (la_nil)))))))) (ls_one (ls_ret (le_cB))) (ls_nil)) (ls_cons (ls_if (lt_not (lt_val (le_callB (call_allF rfl) rfl (g.b_all) (by decide +kernel) (la_cons (le_lc (own := [("one", 3)]) rfl sc.nd (li_any (le_attr (fun c hc => by simp only [List.mem_cons, List.not_mem_nil, or_false] at hc; subst hc; exact g.fs_Bearable_ways) (fun c hc => by cases hc) (le_var (i := 0) rfl (vis_by rfl)))) (blkOk_by (own := [("one", 3)]) (by kernel_rfl)) (fun _ _ _ _ _ => lgc_name (by decide) sc.nd rfl (loc_by rfl)) (fun _ _ _ _ _ => lts_nil) (fun _ _ _ _ _ => le_methSO (le_ix (ix_A (ru4 hr)) (le_attr (fun c hc => by simp only [List.mem_cons, List.not_mem_nil, or_false] at hc; subst hc; exact g.fs_Bearable_ways) (fun c hc => by cases hc) (le_var (i := 0) rfl (vis_by rfl))) (le_var (i := 3) rfl (vis_by rfl))) (g.k_Way) (g.sc_Way) (g.m_Way_shows) (ok_Way__shows g) (hr.mono (by omega)) (la_cons (le_var (i := 1) rfl (vis_by rfl)) (la_cons (le_var (i := 3) rfl (vis_by rfl)) (la_cons (le_var (i := 2) rfl (vis_by rfl)) (la_nil)))))) (la_nil))))) (ls_one (ls_ret (le_cB))) (ls_nil)) (ls_cons (ls_if (lt_not (lt_val (le_callB (call_allF rfl) rfl (g.b_all) (by decide +kernel) (la_cons (le_lc (own := [("one", 3)]) rfl sc.nd (li_any (le_attr (fun c hc => by simp only [List.mem_cons, List.not_mem_nil, or_false] at hc; subst hc; exact g.fs_Bearable_stucks) (fun c hc => by cases hc) (le_var (i := 0) rfl (vis_by rfl)))) (blkOk_by (own := [("one", 3)]) (by kernel_rfl)) (fun _ _ _ _ _ => lgc_name (by decide) sc.nd rfl (loc_by rfl)) (fun _ _ _ _ _ => lts_nil) (fun _ _ _ _ _ => le_methSO (le_ix (ix_A (ru4 hr)) (le_attr (fun c hc => by simp only [List.mem_cons, List.not_mem_nil, or_false] at hc; subst hc; exact g.fs_Bearable_stucks) (fun c hc => by cases hc) (le_var (i := 0) rfl (vis_by rfl))) (le_var (i := 3) rfl (vis_by rfl))) (g.k_Stuck) (g.sc_Stuck) (g.m_Stuck_shows) (ok_Stuck__shows g) (hr.mono (by omega)) (la_cons (le_var (i := 1) rfl (vis_by rfl)) (la_cons (le_var (i := 3) rfl (vis_by rfl)) (la_cons (le_var (i := 2) rfl (vis_by rfl)) (la_nil)))))) (la_nil))))) (ls_one (ls_ret (le_cB))) (ls_nil)) (ls_one (ls_ret (le_callB (call_allF rfl) rfl (g.b_all) (by decide +kernel) (la_cons (le_lc (own := [("one", 3)]) rfl sc.nd (li_any (le_callO (ok_all_doubts g) (hr.mono (by omega)) rfl (g.g_all_doubts) (la_cons (le_var (i := 1) rfl (vis_by rfl)) (la_nil)))) (blkOk_by (own := [("one", 3)]) (by kernel_rfl)) (fun _ _ _ _ _ => lgc_name (by decide) sc.nd rfl (loc_by rfl)) (fun _ _ _ _ _ => lts_nil) (fun _ _ _ _ _ => le_methSO (le_var (i := 0) rfl (vis_by rfl)) (g.k_Bearable) (g.sc_Bearable) (g.m_Bearable_is_known) (ok_Bearable__is_known g) (hr.mono (by omega)) (la_cons (le_var (i := 3) rfl (vis_by rfl)) (la_nil)))) (la_nil))))))))

-- bearable
theorem sc_bearable : FnScope ["shelf", "aim", "lots", "found", "good", "bad", "most", "least", "one", "other"] ["shelf", "aim"] (defScope (top 55)) := ⟨rfl, rfl, rfl, by decide +kernel, rfl, by decide +kernel, by decide +kernel⟩
def m_bearable : S := sSeq (sExp (mCall f_check_bearable (mCons (mVar 0) (mCons (mVar 1) (pur []))))) (sSeq (sAsg (mCall f_all_doubts (mCons (mVar 0) (pur []))) (gName 2)) (sSeq (sAsg (mCall f_numbers_for (mCons (mVar 0) (mCons (mVar 1) (mCons (mVar 2) (pur []))))) (gName 3)) (sSeq (sAsg (mLc 2000 [8] (mSrc (mVar 2)) (gName 8) (mTst (mB (inA id) (mVar 8) (mVar 3))) (mVar 8)) (gName 4)) (sSeq (sAsg (mLc 2000 [8] (mSrc (mVar 2)) (gName 8) (mTst (mB (inA not) (mVar 8) (mVar 3))) (mVar 8)) (gName 5)) (sSeq (sAsg (mLc 2000 [8] (mSrc (mVar 4)) (gName 8) (mNot (mTst (mCall anyF (mCons (mLc 2000 [9] (mSrc (mVar 4)) (gName 9) (pur true) (mAndV (mB (eqA not) (mVar 9) (mVar 8)) (mCall f_contains (mCons (mVar 9) (mCons (mVar 8) (pur [])))))) (pur []))))) (mVar 8)) (gName 6)) (sSeq (sAsg (mLc 2000 [8] (mSrc (mVar 5)) (gName 8) (mNot (mTst (mCall anyF (mCons (mLc 2000 [9] (mSrc (mVar 5)) (gName 9) (pur true) (mAndV (mB (eqA not) (mVar 9) (mVar 8)) (mCall f_contains (mCons (mVar 8) (mCons (mVar 9) (pur [])))))) (pur []))))) (mVar 8)) (gName 7)) (sRet (mMake true "Bearable" f_Bearable____init__ (mCons (mDc 2000 [8] (mSrc (mVar 6)) (gName 8) (pur true) (mVar 8) (mCall f_way_of (mCons (mVar 0) (mCons (mVar 8) (mCons (mVar 1) (pur [])))))) (mCons (mDc 2000 [8] (mSrc (mVar 7)) (gName 8) (pur true) (mVar 8) (mCall f_way_of (mCons (mVar 0) (mCons (mVar 8) (mCons (mVar 1) (pur [])))))) (pur [])))))))))))
def f_bearable : List D → Hd → Option (D × Hd) := runB 2 10 m_bearable
theorem ok_bearable (g : Fx K mg base) : Ok P w K mg base 48 (He.fAd K ("bearable", none)) ["shelf", "aim"] f_bearable :=
  ok_of (k := 47) g.f_bearable sc_bearable (fun _ _ _ _ _ _ us hl => match us, hl with | [_, _], _ => rfl) fun cdv A outer s H E hr => by
    have sc := sc_bearable
    exact ls_cons (ls_exp (le_callO (ok_check_bearable g) (hr.mono (by omega)) rfl (g.g_check_bearable) (la_cons (le_var (i := 0) rfl (vis_by rfl)) (la_cons (le_var (i := 1) rfl (vis_by rfl)) (la_nil))))) (ls_cons (ls_set sc.nd rfl (loc_by rfl) (le_callO (ok_all_doubts g) (hr.mono (by omega)) rfl (g.g_all_doubts) (la_cons (le_var (i := 0) rfl (vis_by rfl)) (la_nil)))) (ls_cons (ls_set sc.nd rfl (loc_by rfl) (le_callO (ok_numbers_for g) (hr.mono (by omega)) rfl (g.g_numbers_for) (la_cons (le_var (i := 0) rfl (vis_by rfl)) (la_cons (le_var (i := 1) rfl (vis_by rfl)) (la_cons (le_var (i := 2) rfl (vis_by rfl)) (la_nil)))))) (ls_cons (ls_set sc.nd rfl (loc_by rfl) (le_lc (own := [("one", 8)]) rfl sc.nd (li_any (le_var (i := 2) rfl (vis_by rfl))) (blkOk_by (own := [("one", 8)]) (by kernel_rfl)) (fun _ _ _ _ _ => lgc_name (by decide) sc.nd rfl (loc_by rfl)) (fun _ _ _ _ _ => lts_one (lt_cmp (op_inA (ru5 hr)) (le_var (i := 8) rfl (vis_by rfl)) (le_var (i := 3) rfl (vis_by rfl)))) (fun _ _ _ _ _ => le_var (i := 8) rfl (vis_by rfl)))) (ls_cons (ls_set sc.nd rfl (loc_by rfl) (le_lc (own := [("one", 8)]) rfl sc.nd (li_any (le_var (i := 2) rfl (vis_by rfl))) (blkOk_by (own := [("one", 8)]) (by kernel_rfl)) (fun _ _ _ _ _ => lgc_name (by decide) sc.nd rfl (loc_by rfl)) (fun _ _ _ _ _ => lts_one (lt_cmp (op_notInA (ru5 hr)) (le_var (i := 8) rfl (vis_by rfl)) (le_var (i := 3) rfl (vis_by rfl)))) (fun _ _ _ _ _ => le_var (i := 8) rfl (vis_by rfl)))) (ls_cons (ls_setLc (own := [("one", 8)]) rfl sc.nd rfl rfl (sw_true rfl rfl rfl rfl) (li_any (le_var (i := 4) rfl (vis_by rfl))) (blkOk_by (own := [("one", 8)]) (by kernel_rfl)) (fun _ _ _ _ _ => lgc_name (by decide) sc.nd rfl (loc_by rfl)) (fun _ _ _ _ _ => lts_one (lt_not (lt_val (le_callB (call_anyF rfl) rfl (g.b_any) (by decide +kernel) (la_cons (le_lc (own := [("other", 9)]) rfl sc.nd (li_any (le_var (i := 4) rfl (vis_by rfl))) (blkOk_by (own := [("other", 9)]) (by kernel_rfl)) (fun _ _ _ _ _ => lgc_name (by decide) sc.nd rfl (loc_by rfl)) (fun _ _ _ _ _ => lts_nil) (fun _ _ _ _ _ => le_and (le_cmp (op_neA (ru5 hr)) (le_var (i := 9) rfl (vis_by rfl)) (le_var (i := 8) rfl (vis_by rfl))) (le_one (le_callO (ok_contains g) (hr.mono (by omega)) rfl (g.g_contains) (la_cons (le_var (i := 9) rfl (vis_by rfl)) (la_cons (le_var (i := 8) rfl (vis_by rfl)) (la_nil))))))) (la_nil)))))) (fun _ _ _ _ _ => le_var (i := 8) rfl (vis_by rfl))) (ls_cons (ls_setLc (own := [("one", 8)]) rfl sc.nd rfl rfl (sw_true rfl rfl rfl rfl) (li_any (le_var (i := 5) rfl (vis_by rfl))) (blkOk_by (own := [("one", 8)]) (by kernel_rfl)) (fun _ _ _ _ _ => lgc_name (by decide) sc.nd rfl (loc_by rfl)) (fun _ _ _ _ _ => lts_one (lt_not (lt_val (le_callB (call_anyF rfl) rfl (g.b_any) (by decide +kernel) (la_cons (le_lc (own := [("other", 9)]) rfl sc.nd (li_any (le_var (i := 5) rfl (vis_by rfl))) (blkOk_by (own := [("other", 9)]) (by kernel_rfl)) (fun _ _ _ _ _ => lgc_name (by decide) sc.nd rfl (loc_by rfl)) (fun _ _ _ _ _ => lts_nil) (fun _ _ _ _ _ => le_and (le_cmp (op_neA (ru5 hr)) (le_var (i := 9) rfl (vis_by rfl)) (le_var (i := 8) rfl (vis_by rfl))) (le_one (le_callO (ok_contains g) (hr.mono (by omega)) rfl (g.g_contains) (la_cons (le_var (i := 8) rfl (vis_by rfl)) (la_cons (le_var (i := 9) rfl (vis_by rfl)) (la_nil))))))) (la_nil)))))) (fun _ _ _ _ _ => le_var (i := 8) rfl (vis_by rfl))) (ls_one (ls_ret (le_makeO (sl := true) (g.mk_Bearable) (ok_Bearable____init__ g) (hr.mono (by omega)) rfl (g.k_Bearable) (la_cons (le_dc (own := [("one", 8)]) (ru4 hr) rfl sc.nd (li_any (le_var (i := 6) rfl (vis_by rfl))) (blkOk_by (own := [("one", 8)]) (by kernel_rfl)) (fun _ _ _ _ _ => lgc_name (by decide) sc.nd rfl (loc_by rfl)) (fun _ _ _ _ _ => lts_nil) (fun _ _ _ _ _ => le_var (i := 8) rfl (vis_by rfl)) (fun _ _ _ _ _ => le_callO (ok_way_of g) (hr.mono (by omega)) rfl (g.g_way_of) (la_cons (le_var (i := 0) rfl (vis_by rfl)) (la_cons (le_var (i := 8) rfl (vis_by rfl)) (la_cons (le_var (i := 1) rfl (vis_by rfl)) (la_nil)))))) (la_cons (le_dc (own := [("one", 8)]) (ru4 hr) rfl sc.nd (li_any (le_var (i := 7) rfl (vis_by rfl))) (blkOk_by (own := [("one", 8)]) (by kernel_rfl)) (fun _ _ _ _ _ => lgc_name (by decide) sc.nd rfl (loc_by rfl)) (fun _ _ _ _ _ => lts_nil) (fun _ _ _ _ _ => le_var (i := 8) rfl (vis_by rfl)) (fun _ _ _ _ _ => le_callO (ok_way_of g) (hr.mono (by omega)) rfl (g.g_way_of) (la_cons (le_var (i := 0) rfl (vis_by rfl)) (la_cons (le_var (i := 8) rfl (vis_by rfl)) (la_cons (le_var (i := 1) rfl (vis_by rfl)) (la_nil)))))) (la_nil))))))))))))

-- Search____init__
theorem sc_Search____init__ : FnScope ["self", "shelf", "doubt", "duties", "waiting", "known", "here", "later", "rank", "fresh", "duty"] ["self", "shelf", "doubt", "duties"] (defScope (inCls 63 0)) := ⟨rfl, rfl, rfl, by decide +kernel, rfl, by decide +kernel, by decide +kernel⟩
def m_Search____init__ : S := sSeq (sAtt (setI "Search" "rows") (mVar 0) (mDic0)) (sSeq (sPar 4 5 (mCons (mLst (mCons (mVar 2) (pur []))) (mCons (mDisp (mPcons (mVar 2) (pur (.bl true)) (pur []))) (pur [])))) (sSeq (sWhile (mTst (mB (eqA not) (mVar 4) (mLst (pur [])))) (sSeq (sAsg (mMeth "list" pop0M (mVar 4) (mCons (pur (.int 0)) (pur []))) (gName 6)) (sSeq (sAsg (mLc 2000 [10] (mSrc (mVar 3)) (gName 10) (pur true) (mCall f_answers_in (mCons (mVar 1) (mCons (mVar 6) (mCons (mVar 10) (pur [])))))) (gSubD (mU (attrD [] ["Search"] "rows") (mVar 0)) (mVar 6))) (sFr 2000 (mSrc (mMI "Search" "ends_of" f_Search__ends_of (mVar 0) (mCons (mVar 6) (pur [])))) (gName 7) (sIf (mTst (mB (inA not) (mVar 7) (mVar 5))) (sSeq (sAsg (pur (.bl true)) (gSubD (mVar 5) (mVar 7))) (sExp (mMeth "list" appM (mVar 4) (mCons (mVar 7) (pur []))))) (sNil))))) 2000) (sSeq (sAtt (setI "Search" "plan") (mVar 0) (mDic0)) (sSeq (sPar 8 9 (mCons (pur (.int 0)) (mCons (mMI "Search" "lost" f_Search__lost (mVar 0) (mCons (pur (.int 0)) (pur []))) (pur [])))) (sWhile (mTst (mB (eqA not) (mVar 9) (mDic0))) (sSeq (sExp (mMeth "dict" updM (mU (attrD [] ["Search"] "plan") (mVar 0)) (mCons (mVar 9) (pur [])))) (sSeq (sAug 8 subAdd (pur (.int 1))) (sAsg (mMI "Search" "lost" f_Search__lost (mVar 0) (mCons (mVar 8) (pur []))) (gName 9)))) 2000)))))
def f_Search____init__ : List D → Hd → Option (D × Hd) := runB 4 11 m_Search____init__
theorem ok_Search____init__ (g : Fx K mg base) : Ok P w K mg base 4 (He.fAd K ("Search", some "__init__")) ["self", "shelf", "doubt", "duties"] f_Search____init__ :=
  ok_of (k := 3) g.f_Search____init__ sc_Search____init__ (fun _ _ _ _ _ _ us hl => match us, hl with | [_, _, _, _], _ => rfl) fun cdv A outer s H E hr => by
    have sc := sc_Search____init__
    exact ls_cons (ls_fld (g.fd_Search_rows) (le_var (i := 0) rfl (vis_by rfl)) (le_dic0)) (ls_cons (ls_par rfl sc.nd rfl rfl (by decide) rfl rfl (la_cons (le_lst (la_cons (le_var (i := 2) rfl (vis_by rfl)) (la_nil))) (la_cons (le_disp (ru4 hr) (lp_cons (le_var (i := 2) rfl (vis_by rfl)) (le_cB) (lp_nil))) (la_nil))) rfl) (ls_cons (ls_while PassesOwn.never (lt_cmp (op_neA (ru5 hr)) (le_var (i := 4) rfl (vis_by rfl)) (le_lst (la_nil))) (ls_cons (ls_set sc.nd rfl (loc_by rfl) (le_bm PySem.F.plainAttrs_list PySem.F.slot_list_pop PySem.F.type_list_pop (mt_pop0M) (le_var (i := 4) rfl (vis_by rfl)) (la_cons (le_cI) (la_nil)))) (ls_cons (ls_asg (le_lc (own := [("duty", 10)]) rfl sc.nd (li_any (le_var (i := 3) rfl (vis_by rfl))) (blkOk_by (own := [("duty", 10)]) (by kernel_rfl)) (fun _ _ _ _ _ => lgc_name (by decide) sc.nd rfl (loc_by rfl)) (fun _ _ _ _ _ => lts_nil) (fun _ _ _ _ _ => le_callO (ok_answers_in g) (hr.mono (by omega)) rfl (g.g_answers_in) (la_cons (le_var (i := 1) rfl (vis_by rfl)) (la_cons (le_var (i := 6) rfl (vis_by rfl)) (la_cons (le_var (i := 10) rfl (vis_by rfl)) (la_nil)))))) (lg_sub (ru4 hr) (le_attr (fun c hc => by cases hc) (fun c hc => by simp only [List.mem_cons, List.not_mem_nil, or_false] at hc; subst hc; exact g.fd_Search_rows) (le_var (i := 0) rfl (vis_by rfl))) (le_var (i := 6) rfl (vis_by rfl)))) (ls_one (ls_for PassesOwn.never rfl (li_any (le_methIO (le_var (i := 0) rfl (vis_by rfl)) (g.k_Search) (g.ic_Search) (g.m_Search_ends_of) (ok_Search__ends_of g) (hr.mono (by omega)) (la_cons (le_var (i := 6) rfl (vis_by rfl)) (la_nil)))) (lg_name sc.nd rfl (loc_by rfl)) (ls_one (ls_if (lt_cmp (op_notInA (ru5 hr)) (le_var (i := 7) rfl (vis_by rfl)) (le_var (i := 5) rfl (vis_by rfl))) (ls_cons (ls_asg (le_cB) (lg_sub (ru4 hr) (le_var (i := 5) rfl (vis_by rfl)) (le_var (i := 7) rfl (vis_by rfl)))) (ls_one (ls_exp (le_bm PySem.F.plainAttrs_list PySem.F.slot_list_append PySem.F.type_list_append (mt_appM) (le_var (i := 4) rfl (vis_by rfl)) (la_cons (le_var (i := 7) rfl (vis_by rfl)) (la_nil)))))) (ls_nil)))))))) (ls_cons (ls_fld (g.fd_Search_plan) (le_var (i := 0) rfl (vis_by rfl)) (le_dic0)) (ls_cons (ls_par rfl sc.nd rfl rfl (by decide) rfl rfl (la_cons (le_cI) (la_cons (le_methIO (le_var (i := 0) rfl (vis_by rfl)) (g.k_Search) (g.ic_Search) (g.m_Search_lost) (ok_Search__lost g) (hr.mono (by omega)) (la_cons (le_cI) (la_nil))) (la_nil))) rfl) (ls_one (ls_while PassesOwn.never (lt_cmp (op_neA (ru5 hr)) (le_var (i := 9) rfl (vis_by rfl)) (le_dic0)) (ls_cons (ls_exp (le_bm PySem.F.plainAttrs_dict PySem.F.slot_dict_update PySem.F.type_dict_update (mt_updM (ru4 hr)) (le_attr (fun c hc => by cases hc) (fun c hc => by simp only [List.mem_cons, List.not_mem_nil, or_false] at hc; subst hc; exact g.fd_Search_plan) (le_var (i := 0) rfl (vis_by rfl))) (la_cons (le_var (i := 9) rfl (vis_by rfl)) (la_nil)))) (ls_cons (ls_aug sc.nd rfl (loc_by rfl) (le_cI) iop_addD) (ls_one (ls_set sc.nd rfl (loc_by rfl) (le_methIO (le_var (i := 0) rfl (vis_by rfl)) (g.k_Search) (g.ic_Search) (g.m_Search_lost) (ok_Search__lost g) (hr.mono (by omega)) (la_cons (le_var (i := 8) rfl (vis_by rfl)) (la_nil)))))))))))))

-- serve
theorem sc_serve : FnScope ["shelf", "doubt", "duties", "search"] ["shelf", "doubt", "duties"] (defScope (top 65)) := ⟨rfl, rfl, rfl, by decide +kernel, rfl, by decide +kernel, by decide +kernel⟩
def m_serve : S := sSeq (sExp (mCall f_check_duties (mCons (mVar 0) (mCons (mVar 1) (mCons (mVar 2) (pur [])))))) (sSeq (sAsg (mMake false "Search" f_Search____init__ (mCons (mVar 0) (mCons (mVar 1) (mCons (mVar 2) (pur []))))) (gName 3)) (sRet (mIf (mTst (mB (inA id) (mVar 1) (mU (attrD ["Breaks"] ["Search"] "plan") (mVar 3)))) (mMake true "Breaks" f_Breaks____init__ (mCons (mU (attrD ["Breaks"] ["Search"] "plan") (mVar 3)) (pur []))) (mCall f_serving (mCons (mVar 3) (mCons (mVar 1) (pur [])))))))
def f_serve : List D → Hd → Option (D × Hd) := runB 3 4 m_serve
theorem ok_serve (g : Fx K mg base) : Ok P w K mg base 7 (He.fAd K ("serve", none)) ["shelf", "doubt", "duties"] f_serve :=
  ok_of (k := 6) g.f_serve sc_serve (fun _ _ _ _ _ _ us hl => match us, hl with | [_, _, _], _ => rfl) fun cdv A outer s H E hr => by
    have sc := sc_serve
    exact ls_cons (ls_exp (le_callO (ok_check_duties g) (hr.mono (by omega)) rfl (g.g_check_duties) (la_cons (le_var (i := 0) rfl (vis_by rfl)) (la_cons (le_var (i := 1) rfl (vis_by rfl)) (la_cons (le_var (i := 2) rfl (vis_by rfl)) (la_nil)))))) (ls_cons (ls_set sc.nd rfl (loc_by rfl) (le_makeO (sl := false) (g.mk_Search) (ok_Search____init__ g) (hr.mono (by omega)) rfl (g.k_Search) (la_cons (le_var (i := 0) rfl (vis_by rfl)) (la_cons (le_var (i := 1) rfl (vis_by rfl)) (la_cons (le_var (i := 2) rfl (vis_by rfl)) (la_nil)))))) (ls_one (ls_ret (le_if (lt_cmp (op_inA (ru5 hr)) (le_var (i := 1) rfl (vis_by rfl)) (le_attr (fun c hc => by simp only [List.mem_cons, List.not_mem_nil, or_false] at hc; subst hc; exact g.fs_Breaks_plan) (fun c hc => by simp only [List.mem_cons, List.not_mem_nil, or_false] at hc; subst hc; exact g.fd_Search_plan) (le_var (i := 3) rfl (vis_by rfl)))) (le_makeO (sl := true) (g.mk_Breaks) (ok_Breaks____init__ g) (hr.mono (by omega)) rfl (g.k_Breaks) (la_cons (le_attr (fun c hc => by simp only [List.mem_cons, List.not_mem_nil, or_false] at hc; subst hc; exact g.fs_Breaks_plan) (fun c hc => by simp only [List.mem_cons, List.not_mem_nil, or_false] at hc; subst hc; exact g.fd_Search_plan) (le_var (i := 3) rfl (vis_by rfl))) (la_nil))) (le_callO (ok_serving g) (hr.mono (by omega)) rfl (g.g_serving) (la_cons (le_var (i := 3) rfl (vis_by rfl)) (la_cons (le_var (i := 1) rfl (vis_by rfl)) (la_nil))))))))

-- can_serve
theorem sc_can_serve : FnScope ["shelf", "doubt", "duties"] ["shelf", "doubt", "duties"] (defScope (top 66)) := ⟨rfl, rfl, rfl, by decide +kernel, rfl, by decide +kernel, by decide +kernel⟩
def m_can_serve : S := sRet (mU (isiA tb_Serves to_Serves) (mCall f_serve (mCons (mVar 0) (mCons (mVar 1) (mCons (mVar 2) (pur []))))))
def f_can_serve : List D → Hd → Option (D × Hd) := runB 3 3 m_can_serve
theorem ok_can_serve (g : Fx K mg base) : Ok P w K mg base 8 (He.fAd K ("can_serve", none)) ["shelf", "doubt", "duties"] f_can_serve :=
  ok_of (k := 7) g.f_can_serve sc_can_serve (fun _ _ _ _ _ _ us hl => match us, hl with | [_, _, _], _ => rfl) fun cdv A outer s H E hr => by
    have sc := sc_can_serve
    exact ls_one (ls_ret (le_isi (le_callO (ok_serve g) (hr.mono (by omega)) rfl (g.g_serve) (la_cons (le_var (i := 0) rfl (vis_by rfl)) (la_cons (le_var (i := 1) rfl (vis_by rfl)) (la_cons (le_var (i := 2) rfl (vis_by rfl)) (la_nil))))) (pe_glob (v := .ref (He.ga K "Serves")) rfl (g.k_Serves) rfl) (.own _) (ans_of (g.an_Serves)) rfl (g.b_isinstance) (by decide +kernel)))

-- _law_counters_right
theorem sc__law_counters_right : FnScope ["_law_one", "_law_other", "_law_shelf", "_law_starts", "_law_every", "_law_found", "_law_state", "_law_then"] [] (defScope (top 68)) := ⟨rfl, rfl, rfl, by decide +kernel, rfl, by decide +kernel, by decide +kernel⟩
def tst__law_counters_right_0 : M Bool := mTst (mB (eqA not) (mLc 2000 [6, 7] (mSrc (mVar 3)) (gTup 2 (gCons (gName 6) (gCons (gName 7) (gNil)))) (pur true) (mCall f_fewest (mCons (mVar 2) (mCons (mTup (mCons (mTup (mCons (pur (.int 0)) (mCons (mVar 6) (pur [])))) (mCons (mTup (mCons (pur (.int 1)) (mCons (mVar 7) (pur [])))) (pur [])))) (mCons (pur (.str "tell")) (pur [])))))) (mLst (mCons (pur (.int 2)) (mCons (pur (.int 1)) (mCons (pur (.int 4)) (mCons (pur (.int 1)) (mCons (pur (.int 1)) (mCons (pur (.int 3)) (pur [])))))))))
def tst__law_counters_right_1 : M Bool := mTst (mB isntD (mCall f_fewest (mCons (mVar 2) (mCons (mTup (mCons (mTup (mCons (pur (.int 1)) (mCons (pur (.int 0)) (pur [])))) (pur []))) (mCons (mTup (mCons (mTup (mCons (pur (.int 0)) (mCons (pur (.int 0)) (pur [])))) (pur []))) (pur []))))) (pur .non))
def tst__law_counters_right_2 : M Bool := mTst (mB (eqA not) (mCall f_fewest (mCons (mVar 2) (mCons (mTup (mCons (mTup (mCons (pur (.int 0)) (mCons (pur (.int 1)) (pur [])))) (pur []))) (mCons (mTup (mCons (mTup (mCons (pur (.int 0)) (mCons (pur (.int 0)) (pur [])))) (pur []))) (pur []))))) (pur (.int 2)))
def tst__law_counters_right_3 : M Bool := mTst (mB (eqA not) (mCall f_fewest (mCons (mVar 2) (mCons (mVar 4) (mCons (mVar 4) (pur []))))) (pur (.int 0)))
def tst__law_counters_right_4 : M Bool := mTst (mB (eqA not) (mCall f_fewest (mCons (mVar 2) (mCons (mVar 4) (mCons (pur (.str "tell")) (pur []))))) (pur (.int 4)))
def tst__law_counters_right_5 : M Bool := mTst (mB (eqA not) (mCall f_after (mCons (mVar 2) (mCons (mVar 4) (mCons (pur (.int 0)) (pur []))))) (mDisp (mPcons (pur (.int 0)) (mTup (mCons (mTup (mCons (pur (.int 0)) (mCons (pur (.int 1)) (pur [])))) (mCons (mTup (mCons (pur (.int 0)) (mCons (pur (.int 2)) (pur [])))) (mCons (mTup (mCons (pur (.int 1)) (mCons (pur (.int 1)) (pur [])))) (pur []))))) (mPcons (pur (.int 1)) (mTup (mCons (mTup (mCons (pur (.int 0)) (mCons (pur (.int 0)) (pur [])))) (mCons (mTup (mCons (pur (.int 1)) (mCons (pur (.int 0)) (pur [])))) (pur [])))) (pur [])))))
def tst__law_counters_right_6 : M Bool := mTst (mB (eqA not) (mCall f_safe (mCons (mVar 2) (mCons (mVar 4) (pur [])))) (mLst (mCons (pur (.int 0)) (pur []))))
def tst__law_counters_right_7 : M Bool := mTst (mB (eqA not) (mCall lenF (mCons (mCall f_doubts (mCons (mVar 2) (mCons (mTup (mCons (mTup (mCons (pur (.int 0)) (mCons (pur (.int 0)) (pur [])))) (pur []))) (pur [])))) (pur []))) (pur (.int 3)))
noncomputable def stm__law_counters_right_0 : S := sAsg (mTup (mCons (mTup (mCons (mTup (mCons (mTup (mCons (pur (.int 0)) (mCons (pur (.int 1)) (pur [])))) (pur []))) (mCons (mTup (mCons (mTup (mCons (pur (.int 0)) (mCons (pur (.int 2)) (pur [])))) (pur []))) (mCons (mTup (mCons (mTup (mCons (pur (.int 1)) (mCons (pur (.int 0)) (pur [])))) (pur []))) (pur []))))) (mCons (mTup (mCons (mTup (mCons (mTup (mCons (pur (.int 0)) (mCons (pur (.int 1)) (pur [])))) (pur []))) (mCons (mTup (mCons (mTup (mCons (pur (.int 1)) (mCons (pur (.int 0)) (pur [])))) (pur []))) (pur [])))) (pur [])))) (gTup 2 (gCons (gName 0) (gCons (gName 1) (gNil))))
noncomputable def stm__law_counters_right_1 : S := sAsg (mMake true "Shelf" f_Shelf____init__ (mCons (mTup (mCons (mVar 0) (mCons (mVar 1) (pur [])))) (pur []))) (gName 2)
noncomputable def stm__law_counters_right_2 : S := sAsg (mLst (mCons (mTup (mCons (pur (.int 0)) (mCons (pur (.int 0)) (pur [])))) (mCons (mTup (mCons (pur (.int 0)) (mCons (pur (.int 1)) (pur [])))) (mCons (mTup (mCons (pur (.int 1)) (mCons (pur (.int 0)) (pur [])))) (mCons (mTup (mCons (pur (.int 1)) (mCons (pur (.int 1)) (pur [])))) (mCons (mTup (mCons (pur (.int 2)) (mCons (pur (.int 0)) (pur [])))) (mCons (mTup (mCons (pur (.int 2)) (mCons (pur (.int 1)) (pur [])))) (pur [])))))))) (gName 3)
noncomputable def stm__law_counters_right_3 : S := sIf (gcT tst__law_counters_right_0) (sRet (pur (.bl false))) (sNil)
noncomputable def stm__law_counters_right_4 : S := sAsg (mTup (mCons (mTup (mCons (pur (.int 0)) (mCons (pur (.int 0)) (pur [])))) (mCons (mTup (mCons (pur (.int 0)) (mCons (pur (.int 1)) (pur [])))) (mCons (mTup (mCons (pur (.int 0)) (mCons (pur (.int 2)) (pur [])))) (mCons (mTup (mCons (pur (.int 1)) (mCons (pur (.int 0)) (pur [])))) (mCons (mTup (mCons (pur (.int 1)) (mCons (pur (.int 1)) (pur [])))) (pur []))))))) (gName 4)
noncomputable def stm__law_counters_right_5 : S := sIf (mOr (gcT tst__law_counters_right_4) (mOr (gcT tst__law_counters_right_3) (mOr (gcT tst__law_counters_right_2) (gcT tst__law_counters_right_1)))) (sRet (pur (.bl false))) (sNil)
noncomputable def stm__law_counters_right_6 : S := sIf (mOr (gcT tst__law_counters_right_7) (mOr (gcT tst__law_counters_right_6) (gcT tst__law_counters_right_5))) (sRet (pur (.bl false))) (sNil)
noncomputable def stm__law_counters_right_7 : S := sAsg (mCall f_bearable (mCons (mVar 2) (mCons (pur (.str "tell")) (pur [])))) (gName 5)
noncomputable def stm__law_counters_right_8 : S := sRet (mAndV (mB (eqA id) (mCall listA (mCons (mU (attrD ["Bearable"] [] "ways") (mVar 5)) (pur []))) (mLst (mCons (mVar 4) (pur [])))) (mAndV (mB (eqA id) (mU (attrD ["Bearable"] [] "stucks") (mVar 5)) (mDic0)) (mCall f_can_serve (mCons (mVar 2) (mCons (mVar 4) (mCons (mLst (mCons (mTup (mCons (pur (.int 0)) (pur []))) (pur []))) (pur [])))))))
noncomputable def m__law_counters_right : S := sSeq (stm__law_counters_right_0) (sSeq (stm__law_counters_right_1) (sSeq (stm__law_counters_right_2) (sSeq (stm__law_counters_right_3) (sSeq (stm__law_counters_right_4) (sSeq (stm__law_counters_right_5) (sSeq (stm__law_counters_right_6) (sSeq (stm__law_counters_right_7) (stm__law_counters_right_8))))))))
noncomputable def f__law_counters_right : List D → Hd → Option (D × Hd) := runB 0 8 m__law_counters_right
theorem ok__law_counters_right (g : Fx K mg base) : Ok P w K mg base 50 (He.fAd K ("_law_counters_right", none)) [] f__law_counters_right :=
  ok_of (k := 49) g.f__law_counters_right sc__law_counters_right (fun _ _ _ _ _ _ us hl => match us, hl with | [], _ => rfl) fun cdv A outer s H E hr => by
    have sc := sc__law_counters_right
    exact ls_cons (ls_asg (le_tup (la_cons (le_tup (la_cons (le_tup (la_cons (le_tup (la_cons (le_cI) (la_cons (le_cI) (la_nil)))) (la_nil))) (la_cons (le_tup (la_cons (le_tup (la_cons (le_cI) (la_cons (le_cI) (la_nil)))) (la_nil))) (la_cons (le_tup (la_cons (le_tup (la_cons (le_cI) (la_cons (le_cI) (la_nil)))) (la_nil))) (la_nil))))) (la_cons (le_tup (la_cons (le_tup (la_cons (le_tup (la_cons (le_cI) (la_cons (le_cI) (la_nil)))) (la_nil))) (la_cons (le_tup (la_cons (le_tup (la_cons (le_cI) (la_cons (le_cI) (la_nil)))) (la_nil))) (la_nil)))) (la_nil)))) (lg_tup rfl (lgs_cons (lg_name sc.nd rfl (loc_by rfl)) (lgs_cons (lg_name sc.nd rfl (loc_by rfl)) (lgs_nil))))) (ls_cons (ls_set sc.nd rfl (loc_by rfl) (le_makeO (sl := true) (g.mk_Shelf) (ok_Shelf____init__ g) (hr.mono (by omega)) rfl (g.k_Shelf) (la_cons (le_tup (la_cons (le_var (i := 0) rfl (vis_by rfl)) (la_cons (le_var (i := 1) rfl (vis_by rfl)) (la_nil)))) (la_nil)))) (ls_cons (ls_set sc.nd rfl (loc_by rfl) (le_lst (la_cons (le_tup (la_cons (le_cI) (la_cons (le_cI) (la_nil)))) (la_cons (le_tup (la_cons (le_cI) (la_cons (le_cI) (la_nil)))) (la_cons (le_tup (la_cons (le_cI) (la_cons (le_cI) (la_nil)))) (la_cons (le_tup (la_cons (le_cI) (la_cons (le_cI) (la_nil)))) (la_cons (le_tup (la_cons (le_cI) (la_cons (le_cI) (la_nil)))) (la_cons (le_tup (la_cons (le_cI) (la_cons (le_cI) (la_nil)))) (la_nil))))))))) (ls_cons (ls_if (lt_gc (t := tst__law_counters_right_0) (lt_cmp (op_neA (ru5 hr)) (le_lc (own := [("_law_state", 6), ("_law_then", 7)]) rfl sc.nd (li_any (le_var (i := 3) rfl (vis_by rfl))) (blkOk_by (own := [("_law_state", 6), ("_law_then", 7)]) (by kernel_rfl)) (fun _ _ _ _ _ => lgc_tup rfl (lgcs_cons (lgc_name (by decide) sc.nd rfl (loc_by rfl)) (lgcs_cons (lgc_name (by decide) sc.nd rfl (loc_by rfl)) (lgcs_nil)))) (fun _ _ _ _ _ => lts_nil) (fun _ _ _ _ _ => le_callO (ok_fewest g) (hr.mono (by omega)) rfl (g.g_fewest) (la_cons (le_var (i := 2) rfl (vis_by rfl)) (la_cons (le_tup (la_cons (le_tup (la_cons (le_cI) (la_cons (le_var (i := 6) rfl (vis_by rfl)) (la_nil)))) (la_cons (le_tup (la_cons (le_cI) (la_cons (le_var (i := 7) rfl (vis_by rfl)) (la_nil)))) (la_nil)))) (la_cons (le_cS) (la_nil)))))) (le_lst (la_cons (le_cI) (la_cons (le_cI) (la_cons (le_cI) (la_cons (le_cI) (la_cons (le_cI) (la_cons (le_cI) (la_nil)))))))))) (ls_one (ls_ret (le_cB))) (ls_nil)) (ls_cons (ls_set sc.nd rfl (loc_by rfl) (le_tup (la_cons (le_tup (la_cons (le_cI) (la_cons (le_cI) (la_nil)))) (la_cons (le_tup (la_cons (le_cI) (la_cons (le_cI) (la_nil)))) (la_cons (le_tup (la_cons (le_cI) (la_cons (le_cI) (la_nil)))) (la_cons (le_tup (la_cons (le_cI) (la_cons (le_cI) (la_nil)))) (la_cons (le_tup (la_cons (le_cI) (la_cons (le_cI) (la_nil)))) (la_nil)))))))) (ls_cons (ls_if (lt_w (lw_or (lt_gc (t := tst__law_counters_right_4) (lt_cmp (op_neA (ru5 hr)) (le_callO (ok_fewest g) (hr.mono (by omega)) rfl (g.g_fewest) (la_cons (le_var (i := 2) rfl (vis_by rfl)) (la_cons (le_var (i := 4) rfl (vis_by rfl)) (la_cons (le_cS) (la_nil))))) (le_cI))) (lw_or (lt_gc (t := tst__law_counters_right_3) (lt_cmp (op_neA (ru5 hr)) (le_callO (ok_fewest g) (hr.mono (by omega)) rfl (g.g_fewest) (la_cons (le_var (i := 2) rfl (vis_by rfl)) (la_cons (le_var (i := 4) rfl (vis_by rfl)) (la_cons (le_var (i := 4) rfl (vis_by rfl)) (la_nil))))) (le_cI))) (lw_or (lt_gc (t := tst__law_counters_right_2) (lt_cmp (op_neA (ru5 hr)) (le_callO (ok_fewest g) (hr.mono (by omega)) rfl (g.g_fewest) (la_cons (le_var (i := 2) rfl (vis_by rfl)) (la_cons (le_tup (la_cons (le_tup (la_cons (le_cI) (la_cons (le_cI) (la_nil)))) (la_nil))) (la_cons (le_tup (la_cons (le_tup (la_cons (le_cI) (la_cons (le_cI) (la_nil)))) (la_nil))) (la_nil))))) (le_cI))) (lw_or1 (lt_gc (t := tst__law_counters_right_1) (lt_cmp (op_isntD) (le_callO (ok_fewest g) (hr.mono (by omega)) rfl (g.g_fewest) (la_cons (le_var (i := 2) rfl (vis_by rfl)) (la_cons (le_tup (la_cons (le_tup (la_cons (le_cI) (la_cons (le_cI) (la_nil)))) (la_nil))) (la_cons (le_tup (la_cons (le_tup (la_cons (le_cI) (la_cons (le_cI) (la_nil)))) (la_nil))) (la_nil))))) (le_cN)))))))) (ls_one (ls_ret (le_cB))) (ls_nil)) (ls_cons (ls_if (lt_w (lw_or (lt_gc (t := tst__law_counters_right_7) (lt_cmp (op_neA (ru5 hr)) (le_callB (call_lenF) rfl (g.b_len) (by decide +kernel) (la_cons (le_callO (ok_doubts g) (hr.mono (by omega)) rfl (g.g_doubts) (la_cons (le_var (i := 2) rfl (vis_by rfl)) (la_cons (le_tup (la_cons (le_tup (la_cons (le_cI) (la_cons (le_cI) (la_nil)))) (la_nil))) (la_nil)))) (la_nil))) (le_cI))) (lw_or (lt_gc (t := tst__law_counters_right_6) (lt_cmp (op_neA (ru5 hr)) (le_callO (ok_safe g) (hr.mono (by omega)) rfl (g.g_safe) (la_cons (le_var (i := 2) rfl (vis_by rfl)) (la_cons (le_var (i := 4) rfl (vis_by rfl)) (la_nil)))) (le_lst (la_cons (le_cI) (la_nil))))) (lw_or1 (lt_gc (t := tst__law_counters_right_5) (lt_cmp (op_neA (ru5 hr)) (le_callO (ok_after g) (hr.mono (by omega)) rfl (g.g_after) (la_cons (le_var (i := 2) rfl (vis_by rfl)) (la_cons (le_var (i := 4) rfl (vis_by rfl)) (la_cons (le_cI) (la_nil))))) (le_disp (ru4 hr) (lp_cons (le_cI) (le_tup (la_cons (le_tup (la_cons (le_cI) (la_cons (le_cI) (la_nil)))) (la_cons (le_tup (la_cons (le_cI) (la_cons (le_cI) (la_nil)))) (la_cons (le_tup (la_cons (le_cI) (la_cons (le_cI) (la_nil)))) (la_nil))))) (lp_cons (le_cI) (le_tup (la_cons (le_tup (la_cons (le_cI) (la_cons (le_cI) (la_nil)))) (la_cons (le_tup (la_cons (le_cI) (la_cons (le_cI) (la_nil)))) (la_nil)))) (lp_nil)))))))))) (ls_one (ls_ret (le_cB))) (ls_nil)) (ls_cons (ls_set sc.nd rfl (loc_by rfl) (le_callO (ok_bearable g) (hr.mono (by omega)) rfl (g.g_bearable) (la_cons (le_var (i := 2) rfl (vis_by rfl)) (la_cons (le_cS) (la_nil))))) (ls_one (ls_ret (le_and (le_cmp (op_eqA (ru5 hr)) (le_callTy (call_listA rfl) rfl (g.b_list) (by decide +kernel) (la_cons (le_attr (fun c hc => by simp only [List.mem_cons, List.not_mem_nil, or_false] at hc; subst hc; exact g.fs_Bearable_ways) (fun c hc => by cases hc) (le_var (i := 5) rfl (vis_by rfl))) (la_nil))) (le_lst (la_cons (le_var (i := 4) rfl (vis_by rfl)) (la_nil)))) (le_and (le_cmp (op_eqA (ru5 hr)) (le_attr (fun c hc => by simp only [List.mem_cons, List.not_mem_nil, or_false] at hc; subst hc; exact g.fs_Bearable_stucks) (fun c hc => by cases hc) (le_var (i := 5) rfl (vis_by rfl))) (le_dic0)) (le_one (le_callO (ok_can_serve g) (hr.mono (by omega)) rfl (g.g_can_serve) (la_cons (le_var (i := 2) rfl (vis_by rfl)) (la_cons (le_var (i := 4) rfl (vis_by rfl)) (la_cons (le_lst (la_cons (le_tup (la_cons (le_cI) (la_nil))) (la_nil))) (la_nil)))))))))))))))))

-- _law_harm_right
theorem sc__law_harm_right : FnScope ["_law_one", "_law_other", "_law_shelf", "_law_both", "_law_found"] [] (defScope (top 69)) := ⟨rfl, rfl, rfl, by decide +kernel, rfl, by decide +kernel, by decide +kernel⟩
def m__law_harm_right : S := sSeq (sAsg (mTup (mCons (mTup (mCons (mTup (mCons (mTup (mCons (pur (.int 0)) (mCons (pur (.int 0)) (pur [])))) (mCons (pur .non) (pur [])))) (pur []))) (mCons (mTup (mCons (mTup (mCons (mTup (mCons (pur (.int 0)) (mCons (pur (.int 0)) (pur [])))) (mCons (mTup (mCons (pur (.int 0)) (mCons (pur (.int 0)) (pur [])))) (pur [])))) (pur []))) (pur [])))) (gTup 2 (gCons (gName 0) (gCons (gName 1) (gNil))))) (sSeq (sPar 2 3 (mCons (mMake true "Shelf" f_Shelf____init__ (mCons (mTup (mCons (mVar 0) (mCons (mVar 1) (pur [])))) (pur []))) (mCons (mTup (mCons (mTup (mCons (pur (.int 0)) (mCons (pur (.int 0)) (pur [])))) (mCons (mTup (mCons (pur (.int 1)) (mCons (pur (.int 0)) (pur [])))) (pur [])))) (pur [])))) (sSeq (sIf (mOr (mTst (mB isntD (mCall f_fewest (mCons (mVar 2) (mCons (mVar 3) (mCons (pur (.str "tell")) (pur []))))) (pur .non))) (mOr (mTst (mB (eqA not) (mCall f_safe (mCons (mVar 2) (mCons (mVar 3) (pur [])))) (mLst (mCons (pur (.int 0)) (pur []))))) (mOr (mNot (mTst (mMS "Stuck" f_Stuck__shows (mMake true "Stuck" f_Stuck____init__ (mCons (mLst (mCons (mVar 3) (pur []))) (pur []))) (mCons (mVar 2) (mCons (mVar 3) (mCons (pur (.str "tell")) (pur []))))))) (mTst (mMS "Stuck" f_Stuck__shows (mMake true "Stuck" f_Stuck____init__ (mCons (mLst (mCons (mVar 3) (pur []))) (pur []))) (mCons (mVar 2) (mCons (mVar 3) (mCons (mVar 3) (pur []))))))))) (sRet (pur (.bl false))) (sNil)) (sSeq (sAsg (mCall f_bearable (mCons (mVar 2) (mCons (pur (.str "tell")) (pur [])))) (gName 4)) (sSeq (sIf (mOr (mTst (mB (eqA not) (mCall listA (mCons (mU (attrD ["Bearable"] [] "ways") (mVar 4)) (pur []))) (mLst (mCons (mTup (mCons (mTup (mCons (pur (.int 0)) (mCons (pur (.int 0)) (pur [])))) (pur []))) (mCons (mTup (mCons (mTup (mCons (pur (.int 1)) (mCons (pur (.int 0)) (pur [])))) (pur []))) (pur [])))))) (mOr (mTst (mB (eqA not) (mCall listA (mCons (mU (attrD ["Bearable"] [] "stucks") (mVar 4)) (pur []))) (mLst (mCons (mVar 3) (pur []))))) (mTst (mMS "Bearable" f_Bearable__shows (mMake true "Bearable" f_Bearable____init__ (mCons (mU (attrD ["Bearable"] [] "ways") (mVar 4)) (mCons (mDic0) (pur [])))) (mCons (mVar 2) (mCons (pur (.str "tell")) (pur []))))))) (sRet (pur (.bl false))) (sNil)) (sSeq (sIf (mOr (mNot (mTst (mMS "Breaks" f_Breaks__shows (mMake true "Breaks" f_Breaks____init__ (mCons (mDisp (mPcons (mVar 3) (mTup (mCons (pur (.int 0)) (mCons (pur (.int 1)) (pur [])))) (pur []))) (pur []))) (mCons (mVar 2) (mCons (mVar 3) (mCons (mLst (mCons (mTup (mCons (pur (.int 0)) (pur []))) (mCons (mTup (mCons (pur (.int 1)) (pur []))) (pur [])))) (pur []))))))) (mOr (mTst (mMS "Breaks" f_Breaks__shows (mMake true "Breaks" f_Breaks____init__ (mCons (mDisp (mPcons (mVar 3) (mTup (mCons (pur (.int 0)) (mCons (pur (.int 0)) (pur [])))) (pur []))) (pur []))) (mCons (mVar 2) (mCons (mVar 3) (mCons (mLst (mCons (mTup (mCons (pur (.int 0)) (pur []))) (mCons (mTup (mCons (pur (.int 1)) (pur []))) (pur [])))) (pur [])))))) (mNot (mTst (mMS "Serves" f_Serves__shows (mMake true "Serves" f_Serves____init__ (mCons (mLst (mCons (mVar 3) (pur []))) (mCons (mDisp (mPcons (mTup (mCons (mVar 3) (mCons (pur (.int 0)) (pur [])))) (pur (.int 0)) (mPcons (mTup (mCons (mTup (mCons (mTup (mCons (pur (.int 0)) (mCons (pur (.int 0)) (pur [])))) (pur []))) (mCons (pur (.int 0)) (pur [])))) (pur (.int 7)) (pur [])))) (pur [])))) (mCons (mVar 2) (mCons (mVar 3) (mCons (mLst (mCons (mTup (mCons (pur (.int 0)) (mCons (pur (.int 1)) (pur [])))) (pur []))) (pur []))))))))) (sRet (pur (.bl false))) (sNil)) (sSeq (sIf (mOr (mTst (mMS "Serves" f_Serves__shows (mMake true "Serves" f_Serves____init__ (mCons (mLst (mCons (mVar 3) (pur []))) (mCons (mDisp (mPcons (mTup (mCons (mVar 3) (mCons (pur (.int 0)) (pur [])))) (pur (.int 1)) (pur []))) (pur [])))) (mCons (mVar 2) (mCons (mVar 3) (mCons (mLst (mCons (mTup (mCons (pur (.int 0)) (mCons (pur (.int 1)) (pur [])))) (pur []))) (pur [])))))) (mOr (mTst (mCall f_can_serve (mCons (mVar 2) (mCons (mTup (mCons (mTup (mCons (pur (.int 0)) (mCons (pur (.int 0)) (pur [])))) (pur []))) (mCons (mLst (mCons (mTup (mCons (pur (.int 1)) (pur []))) (pur []))) (pur [])))))) (mNot (mTst (mCall f_can_serve (mCons (mVar 2) (mCons (mTup (mCons (mTup (mCons (pur (.int 1)) (mCons (pur (.int 0)) (pur [])))) (pur []))) (mCons (mLst (mCons (mTup (mCons (pur (.int 1)) (pur []))) (pur []))) (pur []))))))))) (sRet (pur (.bl false))) (sNil)) (sRet (mAndV (mU notD (mMS "Way" f_Way__shows (mMake true "Way" f_Way____init__ (mCons (pur .non) (mCons (mDic0) (pur [])))) (mCons (mVar 2) (mCons (mVar 3) (mCons (pur (.str "tell")) (pur [])))))) (mAndV (mMS "Way" f_Way__shows (mMake true "Way" f_Way____init__ (mCons (pur .non) (mCons (mDic0) (pur [])))) (mCons (mVar 2) (mCons (mTup (mCons (mTup (mCons (pur (.int 0)) (mCons (pur (.int 0)) (pur [])))) (pur []))) (mCons (pur (.str "tell")) (pur []))))) (mMS "Way" f_Way__shows (mMake true "Way" f_Way____init__ (mCons (pur .non) (mCons (mDisp (mPcons (mVar 3) (mU negD (pur (.int 3))) (pur []))) (pur [])))) (mCons (mVar 2) (mCons (mTup (mCons (mTup (mCons (pur (.int 0)) (mCons (pur (.int 0)) (pur [])))) (pur []))) (mCons (pur (.str "tell")) (pur []))))))))))))))
def f__law_harm_right : List D → Hd → Option (D × Hd) := runB 0 5 m__law_harm_right
theorem ok__law_harm_right (g : Fx K mg base) : Ok P w K mg base 50 (He.fAd K ("_law_harm_right", none)) [] f__law_harm_right :=
  ok_of (k := 49) g.f__law_harm_right sc__law_harm_right (fun _ _ _ _ _ _ us hl => match us, hl with | [], _ => rfl) fun cdv A outer s H E hr => by
    have sc := sc__law_harm_right
    exact ls_cons (ls_asg (le_tup (la_cons (le_tup (la_cons (le_tup (la_cons (le_tup (la_cons (le_cI) (la_cons (le_cI) (la_nil)))) (la_cons (le_cN) (la_nil)))) (la_nil))) (la_cons (le_tup (la_cons (le_tup (la_cons (le_tup (la_cons (le_cI) (la_cons (le_cI) (la_nil)))) (la_cons (le_tup (la_cons (le_cI) (la_cons (le_cI) (la_nil)))) (la_nil)))) (la_nil))) (la_nil)))) (lg_tup rfl (lgs_cons (lg_name sc.nd rfl (loc_by rfl)) (lgs_cons (lg_name sc.nd rfl (loc_by rfl)) (lgs_nil))))) (ls_cons (ls_par rfl sc.nd rfl rfl (by decide) rfl rfl (la_cons (le_makeO (sl := true) (g.mk_Shelf) (ok_Shelf____init__ g) (hr.mono (by omega)) rfl (g.k_Shelf) (la_cons (le_tup (la_cons (le_var (i := 0) rfl (vis_by rfl)) (la_cons (le_var (i := 1) rfl (vis_by rfl)) (la_nil)))) (la_nil))) (la_cons (le_tup (la_cons (le_tup (la_cons (le_cI) (la_cons (le_cI) (la_nil)))) (la_cons (le_tup (la_cons (le_cI) (la_cons (le_cI) (la_nil)))) (la_nil)))) (la_nil))) rfl) (ls_cons (ls_if (lt_w (lw_or (lt_cmp (op_isntD) (le_callO (ok_fewest g) (hr.mono (by omega)) rfl (g.g_fewest) (la_cons (le_var (i := 2) rfl (vis_by rfl)) (la_cons (le_var (i := 3) rfl (vis_by rfl)) (la_cons (le_cS) (la_nil))))) (le_cN)) (lw_or (lt_cmp (op_neA (ru5 hr)) (le_callO (ok_safe g) (hr.mono (by omega)) rfl (g.g_safe) (la_cons (le_var (i := 2) rfl (vis_by rfl)) (la_cons (le_var (i := 3) rfl (vis_by rfl)) (la_nil)))) (le_lst (la_cons (le_cI) (la_nil)))) (lw_or (lt_not (lt_val (le_methSO (le_makeO (sl := true) (g.mk_Stuck) (ok_Stuck____init__ g) (hr.mono (by omega)) rfl (g.k_Stuck) (la_cons (le_lst (la_cons (le_var (i := 3) rfl (vis_by rfl)) (la_nil))) (la_nil))) (g.k_Stuck) (g.sc_Stuck) (g.m_Stuck_shows) (ok_Stuck__shows g) (hr.mono (by omega)) (la_cons (le_var (i := 2) rfl (vis_by rfl)) (la_cons (le_var (i := 3) rfl (vis_by rfl)) (la_cons (le_cS) (la_nil))))))) (lw_or1 (lt_val (le_methSO (le_makeO (sl := true) (g.mk_Stuck) (ok_Stuck____init__ g) (hr.mono (by omega)) rfl (g.k_Stuck) (la_cons (le_lst (la_cons (le_var (i := 3) rfl (vis_by rfl)) (la_nil))) (la_nil))) (g.k_Stuck) (g.sc_Stuck) (g.m_Stuck_shows) (ok_Stuck__shows g) (hr.mono (by omega)) (la_cons (le_var (i := 2) rfl (vis_by rfl)) (la_cons (le_var (i := 3) rfl (vis_by rfl)) (la_cons (le_var (i := 3) rfl (vis_by rfl)) (la_nil))))))))))) (ls_one (ls_ret (le_cB))) (ls_nil)) (ls_cons (ls_set sc.nd rfl (loc_by rfl) (le_callO (ok_bearable g) (hr.mono (by omega)) rfl (g.g_bearable) (la_cons (le_var (i := 2) rfl (vis_by rfl)) (la_cons (le_cS) (la_nil))))) (ls_cons (ls_if (lt_w (lw_or (lt_cmp (op_neA (ru5 hr)) (le_callTy (call_listA rfl) rfl (g.b_list) (by decide +kernel) (la_cons (le_attr (fun c hc => by simp only [List.mem_cons, List.not_mem_nil, or_false] at hc; subst hc; exact g.fs_Bearable_ways) (fun c hc => by cases hc) (le_var (i := 4) rfl (vis_by rfl))) (la_nil))) (le_lst (la_cons (le_tup (la_cons (le_tup (la_cons (le_cI) (la_cons (le_cI) (la_nil)))) (la_nil))) (la_cons (le_tup (la_cons (le_tup (la_cons (le_cI) (la_cons (le_cI) (la_nil)))) (la_nil))) (la_nil))))) (lw_or (lt_cmp (op_neA (ru5 hr)) (le_callTy (call_listA rfl) rfl (g.b_list) (by decide +kernel) (la_cons (le_attr (fun c hc => by simp only [List.mem_cons, List.not_mem_nil, or_false] at hc; subst hc; exact g.fs_Bearable_stucks) (fun c hc => by cases hc) (le_var (i := 4) rfl (vis_by rfl))) (la_nil))) (le_lst (la_cons (le_var (i := 3) rfl (vis_by rfl)) (la_nil)))) (lw_or1 (lt_val (le_methSO (le_makeO (sl := true) (g.mk_Bearable) (ok_Bearable____init__ g) (hr.mono (by omega)) rfl (g.k_Bearable) (la_cons (le_attr (fun c hc => by simp only [List.mem_cons, List.not_mem_nil, or_false] at hc; subst hc; exact g.fs_Bearable_ways) (fun c hc => by cases hc) (le_var (i := 4) rfl (vis_by rfl))) (la_cons (le_dic0) (la_nil)))) (g.k_Bearable) (g.sc_Bearable) (g.m_Bearable_shows) (ok_Bearable__shows g) (hr.mono (by omega)) (la_cons (le_var (i := 2) rfl (vis_by rfl)) (la_cons (le_cS) (la_nil))))))))) (ls_one (ls_ret (le_cB))) (ls_nil)) (ls_cons (ls_if (lt_w (lw_or (lt_not (lt_val (le_methSO (le_makeO (sl := true) (g.mk_Breaks) (ok_Breaks____init__ g) (hr.mono (by omega)) rfl (g.k_Breaks) (la_cons (le_disp (ru4 hr) (lp_cons (le_var (i := 3) rfl (vis_by rfl)) (le_tup (la_cons (le_cI) (la_cons (le_cI) (la_nil)))) (lp_nil))) (la_nil))) (g.k_Breaks) (g.sc_Breaks) (g.m_Breaks_shows) (ok_Breaks__shows g) (hr.mono (by omega)) (la_cons (le_var (i := 2) rfl (vis_by rfl)) (la_cons (le_var (i := 3) rfl (vis_by rfl)) (la_cons (le_lst (la_cons (le_tup (la_cons (le_cI) (la_nil))) (la_cons (le_tup (la_cons (le_cI) (la_nil))) (la_nil)))) (la_nil))))))) (lw_or (lt_val (le_methSO (le_makeO (sl := true) (g.mk_Breaks) (ok_Breaks____init__ g) (hr.mono (by omega)) rfl (g.k_Breaks) (la_cons (le_disp (ru4 hr) (lp_cons (le_var (i := 3) rfl (vis_by rfl)) (le_tup (la_cons (le_cI) (la_cons (le_cI) (la_nil)))) (lp_nil))) (la_nil))) (g.k_Breaks) (g.sc_Breaks) (g.m_Breaks_shows) (ok_Breaks__shows g) (hr.mono (by omega)) (la_cons (le_var (i := 2) rfl (vis_by rfl)) (la_cons (le_var (i := 3) rfl (vis_by rfl)) (la_cons (le_lst (la_cons (le_tup (la_cons (le_cI) (la_nil))) (la_cons (le_tup (la_cons (le_cI) (la_nil))) (la_nil)))) (la_nil)))))) (lw_or1 (lt_not (lt_val (le_methSO (le_makeO (sl := true) (g.mk_Serves) (ok_Serves____init__ g) (hr.mono (by omega)) rfl (g.k_Serves) (la_cons (le_lst (la_cons (le_var (i := 3) rfl (vis_by rfl)) (la_nil))) (la_cons (le_disp (ru4 hr) (lp_cons (le_tup (la_cons (le_var (i := 3) rfl (vis_by rfl)) (la_cons (le_cI) (la_nil)))) (le_cI) (lp_cons (le_tup (la_cons (le_tup (la_cons (le_tup (la_cons (le_cI) (la_cons (le_cI) (la_nil)))) (la_nil))) (la_cons (le_cI) (la_nil)))) (le_cI) (lp_nil)))) (la_nil)))) (g.k_Serves) (g.sc_Serves) (g.m_Serves_shows) (ok_Serves__shows g) (hr.mono (by omega)) (la_cons (le_var (i := 2) rfl (vis_by rfl)) (la_cons (le_var (i := 3) rfl (vis_by rfl)) (la_cons (le_lst (la_cons (le_tup (la_cons (le_cI) (la_cons (le_cI) (la_nil)))) (la_nil))) (la_nil))))))))))) (ls_one (ls_ret (le_cB))) (ls_nil)) (ls_cons (ls_if (lt_w (lw_or (lt_val (le_methSO (le_makeO (sl := true) (g.mk_Serves) (ok_Serves____init__ g) (hr.mono (by omega)) rfl (g.k_Serves) (la_cons (le_lst (la_cons (le_var (i := 3) rfl (vis_by rfl)) (la_nil))) (la_cons (le_disp (ru4 hr) (lp_cons (le_tup (la_cons (le_var (i := 3) rfl (vis_by rfl)) (la_cons (le_cI) (la_nil)))) (le_cI) (lp_nil))) (la_nil)))) (g.k_Serves) (g.sc_Serves) (g.m_Serves_shows) (ok_Serves__shows g) (hr.mono (by omega)) (la_cons (le_var (i := 2) rfl (vis_by rfl)) (la_cons (le_var (i := 3) rfl (vis_by rfl)) (la_cons (le_lst (la_cons (le_tup (la_cons (le_cI) (la_cons (le_cI) (la_nil)))) (la_nil))) (la_nil)))))) (lw_or (lt_val (le_callO (ok_can_serve g) (hr.mono (by omega)) rfl (g.g_can_serve) (la_cons (le_var (i := 2) rfl (vis_by rfl)) (la_cons (le_tup (la_cons (le_tup (la_cons (le_cI) (la_cons (le_cI) (la_nil)))) (la_nil))) (la_cons (le_lst (la_cons (le_tup (la_cons (le_cI) (la_nil))) (la_nil))) (la_nil)))))) (lw_or1 (lt_not (lt_val (le_callO (ok_can_serve g) (hr.mono (by omega)) rfl (g.g_can_serve) (la_cons (le_var (i := 2) rfl (vis_by rfl)) (la_cons (le_tup (la_cons (le_tup (la_cons (le_cI) (la_cons (le_cI) (la_nil)))) (la_nil))) (la_cons (le_lst (la_cons (le_tup (la_cons (le_cI) (la_nil))) (la_nil))) (la_nil))))))))))) (ls_one (ls_ret (le_cB))) (ls_nil)) (ls_one (ls_ret (le_and (le_not (le_methSO (le_makeO (sl := true) (g.mk_Way) (ok_Way____init__ g) (hr.mono (by omega)) rfl (g.k_Way) (la_cons (le_cN) (la_cons (le_dic0) (la_nil)))) (g.k_Way) (g.sc_Way) (g.m_Way_shows) (ok_Way__shows g) (hr.mono (by omega)) (la_cons (le_var (i := 2) rfl (vis_by rfl)) (la_cons (le_var (i := 3) rfl (vis_by rfl)) (la_cons (le_cS) (la_nil)))))) (le_and (le_methSO (le_makeO (sl := true) (g.mk_Way) (ok_Way____init__ g) (hr.mono (by omega)) rfl (g.k_Way) (la_cons (le_cN) (la_cons (le_dic0) (la_nil)))) (g.k_Way) (g.sc_Way) (g.m_Way_shows) (ok_Way__shows g) (hr.mono (by omega)) (la_cons (le_var (i := 2) rfl (vis_by rfl)) (la_cons (le_tup (la_cons (le_tup (la_cons (le_cI) (la_cons (le_cI) (la_nil)))) (la_nil))) (la_cons (le_cS) (la_nil))))) (le_one (le_methSO (le_makeO (sl := true) (g.mk_Way) (ok_Way____init__ g) (hr.mono (by omega)) rfl (g.k_Way) (la_cons (le_cN) (la_cons (le_disp (ru4 hr) (lp_cons (le_var (i := 3) rfl (vis_by rfl)) (le_un un_negD (le_cI)) (lp_nil))) (la_nil)))) (g.k_Way) (g.sc_Way) (g.m_Way_shows) (ok_Way__shows g) (hr.mono (by omega)) (la_cons (le_var (i := 2) rfl (vis_by rfl)) (la_cons (le_tup (la_cons (le_tup (la_cons (le_cI) (la_cons (le_cI) (la_nil)))) (la_nil))) (la_cons (le_cS) (la_nil))))))))))))))))

-- law
theorem sc_law : FnScope ["_law_script"] ["_law_script"] (defScope (top 72)) := ⟨rfl, rfl, rfl, by decide +kernel, rfl, by decide +kernel, by decide +kernel⟩
noncomputable def tst_law_0 : M Bool := mNot (mTst (mCall f__law_plans_right (pur [])))
noncomputable def tst_law_1 : M Bool := mNot (mTst (mCall f__law_counters_right (pur [])))
noncomputable def stm_law_0 : S := sIf (mOr (gcT tst_law_1) (gcT tst_law_0)) (sRet (pur (.bl false))) (sNil)
noncomputable def stm_law_1 : S := sRet (mAndV (mCall f__law_harm_right (pur [])) (mAndV (mCall f__law_levels_right (pur [])) (mU (isiA tb_list to_list) (mVar 0))))
noncomputable def m_law : S := sSeq (stm_law_0) (stm_law_1)
noncomputable def f_law : List D → Hd → Option (D × Hd) := runB 1 1 m_law
theorem fnok_law {fd : FuncData} (F : FunD K "law" "law" (defArgs (top 72)) (defBody (top 72)) (defScope (top 72)) [] [] (He.fAd K ("law", none)) fd) (g : Fx K mg base) : FnOk P w K mg base CX0 51 (He.fAd K ("law", none)) fd ["_law_script"] (spM P w K mg f_law) :=
  fn_ok (k := 50) F sc_law fun cdv A outer s H E hr => by
    have sc := sc_law
    exact ls_cons (ls_if (lt_w (lw_or (lt_gc (t := tst_law_1) (lt_not (lt_val (le_callO0 (ok__law_counters_right g) (hr.mono (by omega)) rfl (g.g__law_counters_right))))) (lw_or1 (lt_gc (t := tst_law_0) (lt_not (lt_val (le_callO0 (ok__law_plans_right g) (hr.mono (by omega)) rfl (g.g__law_plans_right)))))))) (ls_one (ls_ret (le_cB))) (ls_nil)) (ls_one (ls_ret (le_and (le_callO0 (ok__law_harm_right g) (hr.mono (by omega)) rfl (g.g__law_harm_right)) (le_and (le_callO0 (ok__law_levels_right g) (hr.mono (by omega)) rfl (g.g__law_levels_right)) (le_one (le_isi (le_var (i := 0) rfl (vis_by rfl)) (pe_bltn (v := .ty "list") (u := .type "list") rfl (g.b_list) (by decide +kernel) rfl) (.ty _) (ans_of (g.an_list)) rfl (g.b_isinstance) (by decide +kernel)))))))

end
end K06
namespace K06
open PySem PySem.Spec PyProof.Rows L2 DL
abbrev R : PySem.W.OpenRow := PySem.W.OpenLaw.row PySem.Challenge.rw_whichfirm_k06_known
def nms_0 : List (Str) := ["FirmError",
  "BadShelf",
  "BadDoubt",
  "BadCommand",
  "BadAim",
  "BadDuties",
  "MAX_EDITIONS",
  "MAX_STATES",
  "MAX_PAIRS",
  "MAX_COMMANDS",
  "MAX_REPLY",
  "is_integer"]
def nms_1 : List (Str) := ["is_entry",
  "is_edition",
  "commands_in",
  "Shelf",
  "check_shelf",
  "pairs_of",
  "entry_at",
  "is_doubt",
  "is_pair",
  "check_doubt",
  "is_safe",
  "safe_in"]
def nms_2 : List (Str) := ["parts_after",
  "is_told",
  "all_doubts",
  "reach_of",
  "safe",
  "after",
  "doubts",
  "TELL",
  "is_aim",
  "check_aim",
  "is_met",
  "depth_of"]
def nms_3 : List (Str) := ["does_meet",
  "Way",
  "Stuck",
  "are_stuck",
  "numbers_for",
  "can_in",
  "best_in",
  "tree_for",
  "way_of",
  "way",
  "fewest",
  "contains"]
def nms_4 : List (Str) := ["Bearable",
  "are_apart",
  "check_bearable",
  "bearable",
  "MAX_DUTIES",
  "is_duty",
  "check_duties",
  "answers_in",
  "Serves",
  "Breaks",
  "Search",
  "serving"]
def nms_5 : List (Str) := ["serve",
  "can_serve",
  "_law_counters_right",
  "_law_harm_right",
  "_law_plans_right",
  "_law_levels_right"]
def nms : List (Str) := nms_0 ++ nms_1 ++ nms_2 ++ nms_3 ++ nms_4 ++ nms_5
def fa_0 : List (He.Fa) := [.free "bool",
  .glo "Shelf",
  .glo "Way",
  .glo "Stuck",
  .glo "Bearable",
  .glo "Serves",
  .glo "Breaks",
  .glo "Search",
  .cls "Search",
  .free "isinstance",
  .free "int",
  .free "len"]
def fa_1 : List (He.Fa) := [.free "tuple",
  .glo "is_integer",
  .int "MAX_REPLY" 2,
  .int "MAX_STATES" 3,
  .glo "is_entry",
  .free "all",
  .int "MAX_COMMANDS" 3,
  .int "MAX_EDITIONS" 4,
  .glo "commands_in",
  .free "enumerate",
  .glo "is_edition",
  .int "MAX_PAIRS" 8]
def fa_2 : List (He.Fa) := [.free "iter",
  .noat "Search" "rows",
  .meth "Shelf" "__iter__",
  .free "range",
  .meth "Shelf" "__len__",
  .glo "entry_at",
  .glo "is_safe",
  .free "sorted",
  .glo "pairs_of",
  .glo "safe_in",
  .glo "parts_after",
  .free "list"]
def fa_3 : List (He.Fa) := [.free "str",
  .str "TELL" "tell",
  .glo "is_pair",
  .free "zip",
  .glo "is_aim",
  .glo "is_told",
  .glo "depth_of",
  .free "max",
  .glo "is_met",
  .glo "does_meet",
  .free "dict",
  .free "any"]
def fa_4 : List (He.Fa) := [.free "min",
  .glo "best_in",
  .glo "tree_for",
  .glo "contains",
  .noat "Search" "plan",
  .glo "answers_in",
  .mkr "Serves",
  .glo "check_shelf",
  .glo "is_doubt",
  .glo "check_doubt",
  .glo "reach_of",
  .glo "check_aim"]
def fa_5 : List (He.Fa) := [.meth "Way" "holds",
  .glo "are_stuck",
  .int "MAX_DUTIES" 3,
  .glo "is_duty",
  .glo "check_duties",
  .meth "Serves" "serves",
  .meth "Breaks" "leads_down",
  .meth "Search" "has_answer",
  .mkr "Shelf",
  .mkr "Breaks",
  .meth "Breaks" "shows",
  .meth "Serves" "shows"]
def fa_6 : List (He.Fa) := [.mkr "Way",
  .meth "Way" "shows",
  .mkr "Stuck",
  .meth "Stuck" "__iter__",
  .mkr "Bearable",
  .meth "Serves" "__eq__",
  .meth "Breaks" "__eq__",
  .meth "Stuck" "__eq__",
  .meth "Bearable" "__eq__",
  .glo "can_in",
  .glo "numbers_for",
  .glo "way_of"]
def fa_7 : List (He.Fa) := [.glo "way",
  .glo "check_bearable",
  .glo "are_apart",
  .meth "Stuck" "shows",
  .glo "all_doubts",
  .meth "Bearable" "is_known",
  .meth "Search" "ends_of",
  .meth "Search" "lost",
  .mkr "Search",
  .glo "serving",
  .glo "serve",
  .glo "fewest"]
def fa_8 : List (He.Fa) := [.glo "after",
  .glo "safe",
  .glo "doubts",
  .glo "bearable",
  .glo "can_serve",
  .meth "Bearable" "shows",
  .glo "_law_plans_right",
  .glo "_law_counters_right",
  .glo "_law_levels_right",
  .glo "_law_harm_right",
  .glo "law"]
def fa : List (He.Fa) := fa_0 ++ fa_1 ++ fa_2 ++ fa_3 ++ fa_4 ++ fa_5 ++ fa_6 ++ fa_7 ++ fa_8
def fn_0 : List (He.DefD) := [⟨("is_integer", none), "is_integer", "is_integer", defArgs (top 13), defBody (top 13), defScope (top 13), [], []⟩,
  ⟨("is_entry", none), "is_entry", "is_entry", defArgs (top 14), defBody (top 14), defScope (top 14), [], []⟩,
  ⟨("is_edition", none), "is_edition", "is_edition", defArgs (top 15), defBody (top 15), defScope (top 15), [], []⟩,
  ⟨("commands_in", none), "commands_in", "commands_in", defArgs (top 16), defBody (top 16), defScope (top 16), [], []⟩,
  ⟨("Shelf", some "__init__"), "__init__", "Shelf.__init__", defArgs (inCls 17 1), defBody (inCls 17 1), defScope (inCls 17 1), [], []⟩,
  ⟨("Shelf", some "__iter__"), "__iter__", "Shelf.__iter__", defArgs (inCls 17 2), defBody (inCls 17 2), defScope (inCls 17 2), [], []⟩,
  ⟨("Shelf", some "__len__"), "__len__", "Shelf.__len__", defArgs (inCls 17 3), defBody (inCls 17 3), defScope (inCls 17 3), [], []⟩,
  ⟨("Shelf", some "__eq__"), "__eq__", "Shelf.__eq__", defArgs (inCls 17 4), defBody (inCls 17 4), defScope (inCls 17 4), [], []⟩,
  ⟨("Shelf", some "commands"), "commands", "Shelf.commands", defArgs (inCls 17 6), defBody (inCls 17 6), defScope (inCls 17 6), [], []⟩,
  ⟨("check_shelf", none), "check_shelf", "check_shelf", defArgs (top 18), defBody (top 18), defScope (top 18), [], []⟩,
  ⟨("pairs_of", none), "pairs_of", "pairs_of", defArgs (top 19), defBody (top 19), defScope (top 19), [], []⟩,
  ⟨("entry_at", none), "entry_at", "entry_at", defArgs (top 20), defBody (top 20), defScope (top 20), [], []⟩]
def fn_1 : List (He.DefD) := [⟨("is_pair", none), "is_pair", "is_pair", defArgs (top 23), defBody (top 23), defScope (top 23), [], []⟩,
  ⟨("is_safe", none), "is_safe", "is_safe", defArgs (top 25), defBody (top 25), defScope (top 25), [], []⟩,
  ⟨("safe_in", none), "safe_in", "safe_in", defArgs (top 26), defBody (top 26), defScope (top 26), [], []⟩,
  ⟨("parts_after", none), "parts_after", "parts_after", defArgs (top 27), defBody (top 27), defScope (top 27), [], []⟩,
  ⟨("is_told", none), "is_told", "is_told", defArgs (top 28), defBody (top 28), defScope (top 28), [], []⟩,
  ⟨("all_doubts", none), "all_doubts", "all_doubts", defArgs (top 29), defBody (top 29), defScope (top 29), [], []⟩,
  ⟨("reach_of", none), "reach_of", "reach_of", defArgs (top 30), defBody (top 30), defScope (top 30), [], []⟩,
  ⟨("is_aim", none), "is_aim", "is_aim", defArgs (top 36), defBody (top 36), defScope (top 36), [], []⟩,
  ⟨("check_aim", none), "check_aim", "check_aim", defArgs (top 37), defBody (top 37), defScope (top 37), [], []⟩,
  ⟨("is_met", none), "is_met", "is_met", defArgs (top 38), defBody (top 38), defScope (top 38), [], []⟩,
  ⟨("depth_of", none), "depth_of", "depth_of", defArgs (top 39), defBody (top 39), defScope (top 39), [], []⟩,
  ⟨("does_meet", none), "does_meet", "does_meet", defArgs (top 40), defBody (top 40), defScope (top 40), [], []⟩]
def fn_2 : List (He.DefD) := [⟨("Way", some "__init__"), "__init__", "Way.__init__", defArgs (inCls 41 1), defBody (inCls 41 1), defScope (inCls 41 1), [], []⟩,
  ⟨("Way", some "__eq__"), "__eq__", "Way.__eq__", defArgs (inCls 41 2), defBody (inCls 41 2), defScope (inCls 41 2), [], []⟩,
  ⟨("Way", some "holds"), "holds", "Way.holds", defArgs (inCls 41 4), defBody (inCls 41 4), defScope (inCls 41 4), [], []⟩,
  ⟨("Stuck", some "__init__"), "__init__", "Stuck.__init__", defArgs (inCls 42 1), defBody (inCls 42 1), defScope (inCls 42 1), [], []⟩,
  ⟨("Stuck", some "__iter__"), "__iter__", "Stuck.__iter__", defArgs (inCls 42 2), defBody (inCls 42 2), defScope (inCls 42 2), [], []⟩,
  ⟨("Stuck", some "__eq__"), "__eq__", "Stuck.__eq__", defArgs (inCls 42 3), defBody (inCls 42 3), defScope (inCls 42 3), [], []⟩,
  ⟨("are_stuck", none), "are_stuck", "are_stuck", defArgs (top 43), defBody (top 43), defScope (top 43), [], []⟩,
  ⟨("best_in", none), "best_in", "best_in", defArgs (top 46), defBody (top 46), defScope (top 46), [], []⟩,
  ⟨("tree_for", none), "tree_for", "tree_for", defArgs (top 47), defBody (top 47), defScope (top 47), [], []⟩,
  ⟨("contains", none), "contains", "contains", defArgs (top 51), defBody (top 51), defScope (top 51), [], []⟩,
  ⟨("Bearable", some "__init__"), "__init__", "Bearable.__init__", defArgs (inCls 52 1), defBody (inCls 52 1), defScope (inCls 52 1), [], []⟩,
  ⟨("Bearable", some "__eq__"), "__eq__", "Bearable.__eq__", defArgs (inCls 52 2), defBody (inCls 52 2), defScope (inCls 52 2), [], []⟩]
def fn_3 : List (He.DefD) := [⟨("Bearable", some "is_known"), "is_known", "Bearable.is_known", defArgs (inCls 52 4), defBody (inCls 52 4), defScope (inCls 52 4), [], []⟩,
  ⟨("are_apart", none), "are_apart", "are_apart", defArgs (top 53), defBody (top 53), defScope (top 53), [], []⟩,
  ⟨("is_duty", none), "is_duty", "is_duty", defArgs (top 58), defBody (top 58), defScope (top 58), [], []⟩,
  ⟨("answers_in", none), "answers_in", "answers_in", defArgs (top 60), defBody (top 60), defScope (top 60), [], []⟩,
  ⟨("Serves", some "__init__"), "__init__", "Serves.__init__", defArgs (inCls 61 1), defBody (inCls 61 1), defScope (inCls 61 1), [], []⟩,
  ⟨("Serves", some "__eq__"), "__eq__", "Serves.__eq__", defArgs (inCls 61 2), defBody (inCls 61 2), defScope (inCls 61 2), [], []⟩,
  ⟨("Serves", some "serves"), "serves", "Serves.serves", defArgs (inCls 61 4), defBody (inCls 61 4), defScope (inCls 61 4), [], []⟩,
  ⟨("Breaks", some "__init__"), "__init__", "Breaks.__init__", defArgs (inCls 62 1), defBody (inCls 62 1), defScope (inCls 62 1), [], []⟩,
  ⟨("Breaks", some "__eq__"), "__eq__", "Breaks.__eq__", defArgs (inCls 62 2), defBody (inCls 62 2), defScope (inCls 62 2), [], []⟩,
  ⟨("Breaks", some "leads_down"), "leads_down", "Breaks.leads_down", defArgs (inCls 62 4), defBody (inCls 62 4), defScope (inCls 62 4), [], []⟩,
  ⟨("Search", some "ends_of"), "ends_of", "Search.ends_of", defArgs (inCls 63 1), defBody (inCls 63 1), defScope (inCls 63 1), [], []⟩,
  ⟨("Search", some "has_answer"), "has_answer", "Search.has_answer", defArgs (inCls 63 3), defBody (inCls 63 3), defScope (inCls 63 3), [], []⟩]
def fn_4 : List (He.DefD) := [⟨("serving", none), "serving", "serving", defArgs (top 64), defBody (top 64), defScope (top 64), [], []⟩,
  ⟨("is_doubt", none), "is_doubt", "is_doubt", defArgs (top 22), defBody (top 22), defScope (top 22), [], []⟩,
  ⟨("check_doubt", none), "check_doubt", "check_doubt", defArgs (top 24), defBody (top 24), defScope (top 24), [], []⟩,
  ⟨("safe", none), "safe", "safe", defArgs (top 31), defBody (top 31), defScope (top 31), [], []⟩,
  ⟨("after", none), "after", "after", defArgs (top 32), defBody (top 32), defScope (top 32), [], []⟩,
  ⟨("doubts", none), "doubts", "doubts", defArgs (top 33), defBody (top 33), defScope (top 33), [], []⟩,
  ⟨("Way", some "shows"), "shows", "Way.shows", defArgs (inCls 41 3), defBody (inCls 41 3), defScope (inCls 41 3), [], []⟩,
  ⟨("Stuck", some "shows"), "shows", "Stuck.shows", defArgs (inCls 42 4), defBody (inCls 42 4), defScope (inCls 42 4), [], []⟩,
  ⟨("can_in", none), "can_in", "can_in", defArgs (top 45), defBody (top 45), defScope (top 45), [], []⟩,
  ⟨("check_bearable", none), "check_bearable", "check_bearable", defArgs (top 54), defBody (top 54), defScope (top 54), [], []⟩,
  ⟨("check_duties", none), "check_duties", "check_duties", defArgs (top 59), defBody (top 59), defScope (top 59), [], []⟩,
  ⟨("Serves", some "shows"), "shows", "Serves.shows", defArgs (inCls 61 3), defBody (inCls 61 3), defScope (inCls 61 3), [], []⟩]
def fn_5 : List (He.DefD) := [⟨("Breaks", some "shows"), "shows", "Breaks.shows", defArgs (inCls 62 3), defBody (inCls 62 3), defScope (inCls 62 3), [], []⟩,
  ⟨("Search", some "lost"), "lost", "Search.lost", defArgs (inCls 63 2), defBody (inCls 63 2), defScope (inCls 63 2), [], []⟩,
  ⟨("_law_plans_right", none), "_law_plans_right", "_law_plans_right", defArgs (top 70), defBody (top 70), defScope (top 70), [], []⟩,
  ⟨("_law_levels_right", none), "_law_levels_right", "_law_levels_right", defArgs (top 71), defBody (top 71), defScope (top 71), [], []⟩,
  ⟨("numbers_for", none), "numbers_for", "numbers_for", defArgs (top 44), defBody (top 44), defScope (top 44), [], []⟩,
  ⟨("way_of", none), "way_of", "way_of", defArgs (top 48), defBody (top 48), defScope (top 48), [], []⟩,
  ⟨("way", none), "way", "way", defArgs (top 49), defBody (top 49), defScope (top 49), [], []⟩,
  ⟨("fewest", none), "fewest", "fewest", defArgs (top 50), defBody (top 50), defScope (top 50), [], []⟩,
  ⟨("Bearable", some "shows"), "shows", "Bearable.shows", defArgs (inCls 52 3), defBody (inCls 52 3), defScope (inCls 52 3), [], []⟩,
  ⟨("bearable", none), "bearable", "bearable", defArgs (top 55), defBody (top 55), defScope (top 55), [], []⟩,
  ⟨("Search", some "__init__"), "__init__", "Search.__init__", defArgs (inCls 63 0), defBody (inCls 63 0), defScope (inCls 63 0), [], []⟩,
  ⟨("serve", none), "serve", "serve", defArgs (top 65), defBody (top 65), defScope (top 65), [], []⟩]
def fn_6 : List (He.DefD) := [⟨("can_serve", none), "can_serve", "can_serve", defArgs (top 66), defBody (top 66), defScope (top 66), [], []⟩,
  ⟨("_law_counters_right", none), "_law_counters_right", "_law_counters_right", defArgs (top 68), defBody (top 68), defScope (top 68), [], []⟩,
  ⟨("_law_harm_right", none), "_law_harm_right", "_law_harm_right", defArgs (top 69), defBody (top 69), defScope (top 69), [], []⟩,
  ⟨("law", none), "law", "law", defArgs (top 72), defBody (top 72), defScope (top 72), [], []⟩]
def fn : List (He.DefD) := fn_0 ++ fn_1 ++ fn_2 ++ fn_3 ++ fn_4 ++ fn_5 ++ fn_6
def pr : List (He.DefD) := []
def exl_0 : List (PySem.W.Frag → Bool) := [fun K => ansB K tb_bool to_bool [.type "bool"],
  fun K => isiB K "Shelf",
  fun K => sclsB K "Shelf",
  fun K => isiB K "Way",
  fun K => sclsB K "Way",
  fun K => isiB K "Stuck",
  fun K => sclsB K "Stuck",
  fun K => isiB K "Bearable",
  fun K => sclsB K "Bearable",
  fun K => isiB K "Serves",
  fun K => sclsB K "Serves",
  fun K => isiB K "Breaks"]
def exl_1 : List (PySem.W.Frag → Bool) := [fun K => sclsB K "Breaks",
  fun K => isiB K "Search",
  fun K => ansB K tb_int to_int [.type "int"],
  fun K => ansB K tb_tuple to_tuple [.type "tuple"],
  fun K => slotB K "Shelf" "many" 0,
  fun K => slotB K "Shelf" "rows" 1,
  fun K => ansB K tb_Shelf to_Shelf [.ref (He.ga K "Shelf")],
  fun K => uniqB K,
  fun K => ansB K tb_str to_str [.type "str"],
  fun K => slotB K "Way" "levels" 0,
  fun K => slotB K "Way" "tree" 1,
  fun K => ansB K tb_Way to_Way [.ref (He.ga K "Way")]]
def exl_2 : List (PySem.W.Frag → Bool) := [fun K => slotB K "Stuck" "doubts" 0,
  fun K => slotB K "Serves" "doubts" 1,
  fun K => ansB K tb_Stuck to_Stuck [.ref (He.ga K "Stuck")],
  fun K => slotB K "Bearable" "stucks" 0,
  fun K => slotB K "Bearable" "ways" 1,
  fun K => ansB K tb_Bearable to_Bearable [.ref (He.ga K "Bearable")],
  fun K => slotB K "Serves" "answers" 0,
  fun K => ansB K tb_Serves to_Serves [.ref (He.ga K "Serves")],
  fun K => slotB K "Breaks" "plan" 0,
  fun K => ansB K tb_Breaks to_Breaks [.ref (He.ga K "Breaks")],
  fun K => ansB K tb_list_tuple to_list_tuple [.type "list", .type "tuple"],
  fun K => neB K "Serves"]
def exl_3 : List (PySem.W.Frag → Bool) := [fun K => neB K "Breaks",
  fun K => neB K "Stuck",
  fun K => ansB K tb_list to_list [.type "list"]]
def exl : List (PySem.W.Frag → Bool) := exl_0 ++ exl_1 ++ exl_2 ++ exl_3
def tf : List He.Defn := lamTf.map (·.1)
def ex (K : PySem.W.Frag) : Bool := allB exl K
abbrev hk : PySem.W.Hook := hookP 4 fa fn tf ex pr
def ob (s : PySem.W.SharedT) : AlP := obsP 4 fa fn tf ex pr (HandSHeadRun.getT s)
theorem ob_eq (s : PySem.W.SharedT) : ob s = hk.obs s.abs := obsP_eq (HandSHeadRun.getT_eq s)
theorem run (w : World) : HandSHeadRun.RunEq R (PySem.W.view R.prog [72]) hk ob 6000 nms w := by
  intro os
  kernel_rfl
theorem fx_of {w : World} {K : PySem.W.Frag} {h base : Heap} {mg : Str → Option Value} (KX : K.In h) (G : h.Ns mainGlobals mg) (c : SaysP fa fn tf ex pr w h K) (tb : ∀ p ∈ lamTf.map (fun p => He.cT K p.1), LamX.TabB base mg p.1 p.2) : Fx K mg base where
  b_bool := He.free_ok KX G (c.t.d.fact 0)
  an_bool := ansB_ok (exGet c.more 0 rfl) (fun x hx => by simp only [to_bool, List.map_cons, List.map_nil, List.mem_cons, List.not_mem_nil, or_false] at hx; rcases hx with rfl | rfl | rfl | rfl | rfl | rfl | rfl <;> first | exact ⟨He.glo_ok KX G (c.t.d.fact 1), .inl ⟨isiB_ok (exGet c.more 1 rfl), sclsB_ok (exGet c.more 2 rfl)⟩⟩ | exact ⟨He.glo_ok KX G (c.t.d.fact 2), .inl ⟨isiB_ok (exGet c.more 3 rfl), sclsB_ok (exGet c.more 4 rfl)⟩⟩ | exact ⟨He.glo_ok KX G (c.t.d.fact 3), .inl ⟨isiB_ok (exGet c.more 5 rfl), sclsB_ok (exGet c.more 6 rfl)⟩⟩ | exact ⟨He.glo_ok KX G (c.t.d.fact 4), .inl ⟨isiB_ok (exGet c.more 7 rfl), sclsB_ok (exGet c.more 8 rfl)⟩⟩ | exact ⟨He.glo_ok KX G (c.t.d.fact 5), .inl ⟨isiB_ok (exGet c.more 9 rfl), sclsB_ok (exGet c.more 10 rfl)⟩⟩ | exact ⟨He.glo_ok KX G (c.t.d.fact 6), .inl ⟨isiB_ok (exGet c.more 11 rfl), sclsB_ok (exGet c.more 12 rfl)⟩⟩ | exact ⟨He.glo_ok KX G (c.t.d.fact 7), .inr ⟨isiB_ok (exGet c.more 13 rfl), He.cls_ok (c.t.d.fact 8)⟩⟩)
  b_isinstance := He.free_ok KX G (c.t.d.fact 9)
  b_int := He.free_ok KX G (c.t.d.fact 10)
  an_int := ansB_ok (exGet c.more 14 rfl) (fun x hx => by simp only [to_int, List.map_cons, List.map_nil, List.mem_cons, List.not_mem_nil, or_false] at hx; rcases hx with rfl | rfl | rfl | rfl | rfl | rfl | rfl <;> first | exact ⟨He.glo_ok KX G (c.t.d.fact 1), .inl ⟨isiB_ok (exGet c.more 1 rfl), sclsB_ok (exGet c.more 2 rfl)⟩⟩ | exact ⟨He.glo_ok KX G (c.t.d.fact 2), .inl ⟨isiB_ok (exGet c.more 3 rfl), sclsB_ok (exGet c.more 4 rfl)⟩⟩ | exact ⟨He.glo_ok KX G (c.t.d.fact 3), .inl ⟨isiB_ok (exGet c.more 5 rfl), sclsB_ok (exGet c.more 6 rfl)⟩⟩ | exact ⟨He.glo_ok KX G (c.t.d.fact 4), .inl ⟨isiB_ok (exGet c.more 7 rfl), sclsB_ok (exGet c.more 8 rfl)⟩⟩ | exact ⟨He.glo_ok KX G (c.t.d.fact 5), .inl ⟨isiB_ok (exGet c.more 9 rfl), sclsB_ok (exGet c.more 10 rfl)⟩⟩ | exact ⟨He.glo_ok KX G (c.t.d.fact 6), .inl ⟨isiB_ok (exGet c.more 11 rfl), sclsB_ok (exGet c.more 12 rfl)⟩⟩ | exact ⟨He.glo_ok KX G (c.t.d.fact 7), .inr ⟨isiB_ok (exGet c.more 13 rfl), He.cls_ok (c.t.d.fact 8)⟩⟩)
  f_is_integer := c.t.d.def_ 0
  b_len := He.free_ok KX G (c.t.d.fact 11)
  b_tuple := He.free_ok KX G (c.t.d.fact 12)
  an_tuple := ansB_ok (exGet c.more 15 rfl) (fun x hx => by simp only [to_tuple, List.map_cons, List.map_nil, List.mem_cons, List.not_mem_nil, or_false] at hx; rcases hx with rfl | rfl | rfl | rfl | rfl | rfl | rfl <;> first | exact ⟨He.glo_ok KX G (c.t.d.fact 1), .inl ⟨isiB_ok (exGet c.more 1 rfl), sclsB_ok (exGet c.more 2 rfl)⟩⟩ | exact ⟨He.glo_ok KX G (c.t.d.fact 2), .inl ⟨isiB_ok (exGet c.more 3 rfl), sclsB_ok (exGet c.more 4 rfl)⟩⟩ | exact ⟨He.glo_ok KX G (c.t.d.fact 3), .inl ⟨isiB_ok (exGet c.more 5 rfl), sclsB_ok (exGet c.more 6 rfl)⟩⟩ | exact ⟨He.glo_ok KX G (c.t.d.fact 4), .inl ⟨isiB_ok (exGet c.more 7 rfl), sclsB_ok (exGet c.more 8 rfl)⟩⟩ | exact ⟨He.glo_ok KX G (c.t.d.fact 5), .inl ⟨isiB_ok (exGet c.more 9 rfl), sclsB_ok (exGet c.more 10 rfl)⟩⟩ | exact ⟨He.glo_ok KX G (c.t.d.fact 6), .inl ⟨isiB_ok (exGet c.more 11 rfl), sclsB_ok (exGet c.more 12 rfl)⟩⟩ | exact ⟨He.glo_ok KX G (c.t.d.fact 7), .inr ⟨isiB_ok (exGet c.more 13 rfl), He.cls_ok (c.t.d.fact 8)⟩⟩)
  g_is_integer := He.glo_ok KX G (c.t.d.fact 13)
  c_MAX_REPLY := He.int_ok KX G (c.t.d.fact 14)
  f_is_entry := c.t.d.def_ 1
  c_MAX_STATES := He.int_ok KX G (c.t.d.fact 15)
  g_is_entry := He.glo_ok KX G (c.t.d.fact 16)
  b_all := He.free_ok KX G (c.t.d.fact 17)
  f_is_edition := c.t.d.def_ 2
  c_MAX_COMMANDS := He.int_ok KX G (c.t.d.fact 18)
  f_commands_in := c.t.d.def_ 3
  c_MAX_EDITIONS := He.int_ok KX G (c.t.d.fact 19)
  g_commands_in := He.glo_ok KX G (c.t.d.fact 20)
  b_enumerate := He.free_ok KX G (c.t.d.fact 21)
  g_is_edition := He.glo_ok KX G (c.t.d.fact 22)
  c_MAX_PAIRS := He.int_ok KX G (c.t.d.fact 23)
  st_Shelf_rows := ⟨_, _, 1, He.glo_ok KX G (c.t.d.fact 1), sclsB_ok (exGet c.more 2 rfl), slotB_ok (exGet c.more 17 rfl), fun g hg hn => by simp only [List.mem_cons, List.not_mem_nil, or_false] at hg; rcases hg with rfl | rfl <;> first | exact (hn rfl).elim | exact ⟨_, 0, slotB_ok (exGet c.more 16 rfl), by decide⟩⟩
  st_Shelf_many := ⟨_, _, 0, He.glo_ok KX G (c.t.d.fact 1), sclsB_ok (exGet c.more 2 rfl), slotB_ok (exGet c.more 16 rfl), fun g hg hn => by simp only [List.mem_cons, List.not_mem_nil, or_false] at hg; rcases hg with rfl | rfl <;> first | exact (hn rfl).elim | exact ⟨_, 1, slotB_ok (exGet c.more 17 rfl), by decide⟩⟩
  f_Shelf____init__ := c.t.d.def_ 4
  f_Shelf____iter__ := c.t.d.def_ 5
  fs_Shelf_rows := ⟨_, _, 1, He.glo_ok KX G (c.t.d.fact 1), sclsB_ok (exGet c.more 2 rfl), slotB_ok (exGet c.more 17 rfl)⟩
  b_iter := He.free_ok KX G (c.t.d.fact 24)
  f_Shelf____len__ := c.t.d.def_ 6
  fd_Search_rows := ⟨_, He.glo_ok KX G (c.t.d.fact 7), He.cls_ok (c.t.d.fact 8), He.noat_ok (c.t.d.fact 25)⟩
  k_Shelf := He.glo_ok KX G (c.t.d.fact 1)
  an_Shelf := ansB_ok (exGet c.more 18 rfl) (fun x hx => by simp only [to_Shelf, List.map_cons, List.map_nil, List.mem_cons, List.not_mem_nil, or_false] at hx; rcases hx with rfl | rfl | rfl | rfl | rfl | rfl | rfl <;> first | exact ⟨He.glo_ok KX G (c.t.d.fact 1), .inl ⟨isiB_ok (exGet c.more 1 rfl), sclsB_ok (exGet c.more 2 rfl)⟩⟩ | exact ⟨He.glo_ok KX G (c.t.d.fact 2), .inl ⟨isiB_ok (exGet c.more 3 rfl), sclsB_ok (exGet c.more 4 rfl)⟩⟩ | exact ⟨He.glo_ok KX G (c.t.d.fact 3), .inl ⟨isiB_ok (exGet c.more 5 rfl), sclsB_ok (exGet c.more 6 rfl)⟩⟩ | exact ⟨He.glo_ok KX G (c.t.d.fact 4), .inl ⟨isiB_ok (exGet c.more 7 rfl), sclsB_ok (exGet c.more 8 rfl)⟩⟩ | exact ⟨He.glo_ok KX G (c.t.d.fact 5), .inl ⟨isiB_ok (exGet c.more 9 rfl), sclsB_ok (exGet c.more 10 rfl)⟩⟩ | exact ⟨He.glo_ok KX G (c.t.d.fact 6), .inl ⟨isiB_ok (exGet c.more 11 rfl), sclsB_ok (exGet c.more 12 rfl)⟩⟩ | exact ⟨He.glo_ok KX G (c.t.d.fact 7), .inr ⟨isiB_ok (exGet c.more 13 rfl), He.cls_ok (c.t.d.fact 8)⟩⟩)
  f_Shelf____eq__ := c.t.d.def_ 7
  fs_Shelf_many := ⟨_, _, 0, He.glo_ok KX G (c.t.d.fact 1), sclsB_ok (exGet c.more 2 rfl), slotB_ok (exGet c.more 16 rfl)⟩
  f_Shelf__commands := c.t.d.def_ 8
  f_check_shelf := c.t.d.def_ 9
  m_Shelf___iter__ := He.meth_ok (c.t.d.fact 26)
  b_range := He.free_ok KX G (c.t.d.fact 27)
  f_pairs_of := c.t.d.def_ 10
  f_entry_at := c.t.d.def_ 11
  m_Shelf___len__ := He.meth_ok (c.t.d.fact 28)
  f_is_pair := c.t.d.def_ 12
  g_entry_at := He.glo_ok KX G (c.t.d.fact 29)
  f_is_safe := c.t.d.def_ 13
  g_is_safe := He.glo_ok KX G (c.t.d.fact 30)
  f_safe_in := c.t.d.def_ 14
  b_sorted := He.free_ok KX G (c.t.d.fact 31)
  f_parts_after := c.t.d.def_ 15
  f_is_told := c.t.d.def_ 16
  g_pairs_of := He.glo_ok KX G (c.t.d.fact 32)
  lam_all_doubts := lamF_of tb (by unfold lamTf; simp) (exGet c.more 19 rfl)
  f_all_doubts := c.t.d.def_ 17
  g_safe_in := He.glo_ok KX G (c.t.d.fact 33)
  g_parts_after := He.glo_ok KX G (c.t.d.fact 34)
  b_list := He.free_ok KX G (c.t.d.fact 35)
  f_reach_of := c.t.d.def_ 18
  b_str := He.free_ok KX G (c.t.d.fact 36)
  an_str := ansB_ok (exGet c.more 20 rfl) (fun x hx => by simp only [to_str, List.map_cons, List.map_nil, List.mem_cons, List.not_mem_nil, or_false] at hx; rcases hx with rfl | rfl | rfl | rfl | rfl | rfl | rfl <;> first | exact ⟨He.glo_ok KX G (c.t.d.fact 1), .inl ⟨isiB_ok (exGet c.more 1 rfl), sclsB_ok (exGet c.more 2 rfl)⟩⟩ | exact ⟨He.glo_ok KX G (c.t.d.fact 2), .inl ⟨isiB_ok (exGet c.more 3 rfl), sclsB_ok (exGet c.more 4 rfl)⟩⟩ | exact ⟨He.glo_ok KX G (c.t.d.fact 3), .inl ⟨isiB_ok (exGet c.more 5 rfl), sclsB_ok (exGet c.more 6 rfl)⟩⟩ | exact ⟨He.glo_ok KX G (c.t.d.fact 4), .inl ⟨isiB_ok (exGet c.more 7 rfl), sclsB_ok (exGet c.more 8 rfl)⟩⟩ | exact ⟨He.glo_ok KX G (c.t.d.fact 5), .inl ⟨isiB_ok (exGet c.more 9 rfl), sclsB_ok (exGet c.more 10 rfl)⟩⟩ | exact ⟨He.glo_ok KX G (c.t.d.fact 6), .inl ⟨isiB_ok (exGet c.more 11 rfl), sclsB_ok (exGet c.more 12 rfl)⟩⟩ | exact ⟨He.glo_ok KX G (c.t.d.fact 7), .inr ⟨isiB_ok (exGet c.more 13 rfl), He.cls_ok (c.t.d.fact 8)⟩⟩)
  c_TELL := He.str_ok KX G (c.t.d.fact 37)
  g_is_pair := He.glo_ok KX G (c.t.d.fact 38)
  b_zip := He.free_ok KX G (c.t.d.fact 39)
  f_is_aim := c.t.d.def_ 19
  g_is_aim := He.glo_ok KX G (c.t.d.fact 40)
  f_check_aim := c.t.d.def_ 20
  g_is_told := He.glo_ok KX G (c.t.d.fact 41)
  f_is_met := c.t.d.def_ 21
  g_depth_of := He.glo_ok KX G (c.t.d.fact 42)
  b_max := He.free_ok KX G (c.t.d.fact 43)
  f_depth_of := c.t.d.def_ 22
  g_is_met := He.glo_ok KX G (c.t.d.fact 44)
  g_does_meet := He.glo_ok KX G (c.t.d.fact 45)
  f_does_meet := c.t.d.def_ 23
  st_Way_tree := ⟨_, _, 1, He.glo_ok KX G (c.t.d.fact 2), sclsB_ok (exGet c.more 4 rfl), slotB_ok (exGet c.more 22 rfl), fun g hg hn => by simp only [List.mem_cons, List.not_mem_nil, or_false] at hg; rcases hg with rfl | rfl <;> first | exact (hn rfl).elim | exact ⟨_, 0, slotB_ok (exGet c.more 21 rfl), by decide⟩⟩
  b_dict := He.free_ok KX G (c.t.d.fact 46)
  st_Way_levels := ⟨_, _, 0, He.glo_ok KX G (c.t.d.fact 2), sclsB_ok (exGet c.more 4 rfl), slotB_ok (exGet c.more 21 rfl), fun g hg hn => by simp only [List.mem_cons, List.not_mem_nil, or_false] at hg; rcases hg with rfl | rfl <;> first | exact (hn rfl).elim | exact ⟨_, 1, slotB_ok (exGet c.more 22 rfl), by decide⟩⟩
  f_Way____init__ := c.t.d.def_ 24
  fs_Way_levels := ⟨_, _, 0, He.glo_ok KX G (c.t.d.fact 2), sclsB_ok (exGet c.more 4 rfl), slotB_ok (exGet c.more 21 rfl)⟩
  fs_Way_tree := ⟨_, _, 1, He.glo_ok KX G (c.t.d.fact 2), sclsB_ok (exGet c.more 4 rfl), slotB_ok (exGet c.more 22 rfl)⟩
  k_Way := He.glo_ok KX G (c.t.d.fact 2)
  an_Way := ansB_ok (exGet c.more 23 rfl) (fun x hx => by simp only [to_Way, List.map_cons, List.map_nil, List.mem_cons, List.not_mem_nil, or_false] at hx; rcases hx with rfl | rfl | rfl | rfl | rfl | rfl | rfl <;> first | exact ⟨He.glo_ok KX G (c.t.d.fact 1), .inl ⟨isiB_ok (exGet c.more 1 rfl), sclsB_ok (exGet c.more 2 rfl)⟩⟩ | exact ⟨He.glo_ok KX G (c.t.d.fact 2), .inl ⟨isiB_ok (exGet c.more 3 rfl), sclsB_ok (exGet c.more 4 rfl)⟩⟩ | exact ⟨He.glo_ok KX G (c.t.d.fact 3), .inl ⟨isiB_ok (exGet c.more 5 rfl), sclsB_ok (exGet c.more 6 rfl)⟩⟩ | exact ⟨He.glo_ok KX G (c.t.d.fact 4), .inl ⟨isiB_ok (exGet c.more 7 rfl), sclsB_ok (exGet c.more 8 rfl)⟩⟩ | exact ⟨He.glo_ok KX G (c.t.d.fact 5), .inl ⟨isiB_ok (exGet c.more 9 rfl), sclsB_ok (exGet c.more 10 rfl)⟩⟩ | exact ⟨He.glo_ok KX G (c.t.d.fact 6), .inl ⟨isiB_ok (exGet c.more 11 rfl), sclsB_ok (exGet c.more 12 rfl)⟩⟩ | exact ⟨He.glo_ok KX G (c.t.d.fact 7), .inr ⟨isiB_ok (exGet c.more 13 rfl), He.cls_ok (c.t.d.fact 8)⟩⟩)
  f_Way____eq__ := c.t.d.def_ 25
  b_any := He.free_ok KX G (c.t.d.fact 47)
  f_Way__holds := c.t.d.def_ 26
  st_Stuck_doubts := ⟨_, _, 0, He.glo_ok KX G (c.t.d.fact 3), sclsB_ok (exGet c.more 6 rfl), slotB_ok (exGet c.more 24 rfl), fun g hg hn => by simp only [List.mem_cons, List.not_mem_nil, or_false] at hg; rcases hg with rfl <;> first | exact (hn rfl).elim ⟩
  f_Stuck____init__ := c.t.d.def_ 27
  f_Stuck____iter__ := c.t.d.def_ 28
  fs_Stuck_doubts := ⟨_, _, 0, He.glo_ok KX G (c.t.d.fact 3), sclsB_ok (exGet c.more 6 rfl), slotB_ok (exGet c.more 24 rfl)⟩
  fs_Serves_doubts := ⟨_, _, 1, He.glo_ok KX G (c.t.d.fact 5), sclsB_ok (exGet c.more 10 rfl), slotB_ok (exGet c.more 25 rfl)⟩
  k_Stuck := He.glo_ok KX G (c.t.d.fact 3)
  an_Stuck := ansB_ok (exGet c.more 26 rfl) (fun x hx => by simp only [to_Stuck, List.map_cons, List.map_nil, List.mem_cons, List.not_mem_nil, or_false] at hx; rcases hx with rfl | rfl | rfl | rfl | rfl | rfl | rfl <;> first | exact ⟨He.glo_ok KX G (c.t.d.fact 1), .inl ⟨isiB_ok (exGet c.more 1 rfl), sclsB_ok (exGet c.more 2 rfl)⟩⟩ | exact ⟨He.glo_ok KX G (c.t.d.fact 2), .inl ⟨isiB_ok (exGet c.more 3 rfl), sclsB_ok (exGet c.more 4 rfl)⟩⟩ | exact ⟨He.glo_ok KX G (c.t.d.fact 3), .inl ⟨isiB_ok (exGet c.more 5 rfl), sclsB_ok (exGet c.more 6 rfl)⟩⟩ | exact ⟨He.glo_ok KX G (c.t.d.fact 4), .inl ⟨isiB_ok (exGet c.more 7 rfl), sclsB_ok (exGet c.more 8 rfl)⟩⟩ | exact ⟨He.glo_ok KX G (c.t.d.fact 5), .inl ⟨isiB_ok (exGet c.more 9 rfl), sclsB_ok (exGet c.more 10 rfl)⟩⟩ | exact ⟨He.glo_ok KX G (c.t.d.fact 6), .inl ⟨isiB_ok (exGet c.more 11 rfl), sclsB_ok (exGet c.more 12 rfl)⟩⟩ | exact ⟨He.glo_ok KX G (c.t.d.fact 7), .inr ⟨isiB_ok (exGet c.more 13 rfl), He.cls_ok (c.t.d.fact 8)⟩⟩)
  f_Stuck____eq__ := c.t.d.def_ 29
  f_are_stuck := c.t.d.def_ 30
  b_min := He.free_ok KX G (c.t.d.fact 48)
  f_best_in := c.t.d.def_ 31
  g_best_in := He.glo_ok KX G (c.t.d.fact 49)
  g_tree_for := He.glo_ok KX G (c.t.d.fact 50)
  f_tree_for := c.t.d.def_ 32
  f_contains := c.t.d.def_ 33
  st_Bearable_ways := ⟨_, _, 1, He.glo_ok KX G (c.t.d.fact 4), sclsB_ok (exGet c.more 8 rfl), slotB_ok (exGet c.more 28 rfl), fun g hg hn => by simp only [List.mem_cons, List.not_mem_nil, or_false] at hg; rcases hg with rfl | rfl <;> first | exact (hn rfl).elim | exact ⟨_, 0, slotB_ok (exGet c.more 27 rfl), by decide⟩⟩
  st_Bearable_stucks := ⟨_, _, 0, He.glo_ok KX G (c.t.d.fact 4), sclsB_ok (exGet c.more 8 rfl), slotB_ok (exGet c.more 27 rfl), fun g hg hn => by simp only [List.mem_cons, List.not_mem_nil, or_false] at hg; rcases hg with rfl | rfl <;> first | exact (hn rfl).elim | exact ⟨_, 1, slotB_ok (exGet c.more 28 rfl), by decide⟩⟩
  f_Bearable____init__ := c.t.d.def_ 34
  fs_Bearable_stucks := ⟨_, _, 0, He.glo_ok KX G (c.t.d.fact 4), sclsB_ok (exGet c.more 8 rfl), slotB_ok (exGet c.more 27 rfl)⟩
  fs_Bearable_ways := ⟨_, _, 1, He.glo_ok KX G (c.t.d.fact 4), sclsB_ok (exGet c.more 8 rfl), slotB_ok (exGet c.more 28 rfl)⟩
  k_Bearable := He.glo_ok KX G (c.t.d.fact 4)
  an_Bearable := ansB_ok (exGet c.more 29 rfl) (fun x hx => by simp only [to_Bearable, List.map_cons, List.map_nil, List.mem_cons, List.not_mem_nil, or_false] at hx; rcases hx with rfl | rfl | rfl | rfl | rfl | rfl | rfl <;> first | exact ⟨He.glo_ok KX G (c.t.d.fact 1), .inl ⟨isiB_ok (exGet c.more 1 rfl), sclsB_ok (exGet c.more 2 rfl)⟩⟩ | exact ⟨He.glo_ok KX G (c.t.d.fact 2), .inl ⟨isiB_ok (exGet c.more 3 rfl), sclsB_ok (exGet c.more 4 rfl)⟩⟩ | exact ⟨He.glo_ok KX G (c.t.d.fact 3), .inl ⟨isiB_ok (exGet c.more 5 rfl), sclsB_ok (exGet c.more 6 rfl)⟩⟩ | exact ⟨He.glo_ok KX G (c.t.d.fact 4), .inl ⟨isiB_ok (exGet c.more 7 rfl), sclsB_ok (exGet c.more 8 rfl)⟩⟩ | exact ⟨He.glo_ok KX G (c.t.d.fact 5), .inl ⟨isiB_ok (exGet c.more 9 rfl), sclsB_ok (exGet c.more 10 rfl)⟩⟩ | exact ⟨He.glo_ok KX G (c.t.d.fact 6), .inl ⟨isiB_ok (exGet c.more 11 rfl), sclsB_ok (exGet c.more 12 rfl)⟩⟩ | exact ⟨He.glo_ok KX G (c.t.d.fact 7), .inr ⟨isiB_ok (exGet c.more 13 rfl), He.cls_ok (c.t.d.fact 8)⟩⟩)
  f_Bearable____eq__ := c.t.d.def_ 35
  g_contains := He.glo_ok KX G (c.t.d.fact 51)
  f_Bearable__is_known := c.t.d.def_ 36
  f_are_apart := c.t.d.def_ 37
  f_is_duty := c.t.d.def_ 38
  f_answers_in := c.t.d.def_ 39
  st_Serves_doubts := ⟨_, _, 1, He.glo_ok KX G (c.t.d.fact 5), sclsB_ok (exGet c.more 10 rfl), slotB_ok (exGet c.more 25 rfl), fun g hg hn => by simp only [List.mem_cons, List.not_mem_nil, or_false] at hg; rcases hg with rfl | rfl <;> first | exact (hn rfl).elim | exact ⟨_, 0, slotB_ok (exGet c.more 30 rfl), by decide⟩⟩
  st_Serves_answers := ⟨_, _, 0, He.glo_ok KX G (c.t.d.fact 5), sclsB_ok (exGet c.more 10 rfl), slotB_ok (exGet c.more 30 rfl), fun g hg hn => by simp only [List.mem_cons, List.not_mem_nil, or_false] at hg; rcases hg with rfl | rfl <;> first | exact (hn rfl).elim | exact ⟨_, 1, slotB_ok (exGet c.more 25 rfl), by decide⟩⟩
  f_Serves____init__ := c.t.d.def_ 40
  fs_Serves_answers := ⟨_, _, 0, He.glo_ok KX G (c.t.d.fact 5), sclsB_ok (exGet c.more 10 rfl), slotB_ok (exGet c.more 30 rfl)⟩
  k_Serves := He.glo_ok KX G (c.t.d.fact 5)
  an_Serves := ansB_ok (exGet c.more 31 rfl) (fun x hx => by simp only [to_Serves, List.map_cons, List.map_nil, List.mem_cons, List.not_mem_nil, or_false] at hx; rcases hx with rfl | rfl | rfl | rfl | rfl | rfl | rfl <;> first | exact ⟨He.glo_ok KX G (c.t.d.fact 1), .inl ⟨isiB_ok (exGet c.more 1 rfl), sclsB_ok (exGet c.more 2 rfl)⟩⟩ | exact ⟨He.glo_ok KX G (c.t.d.fact 2), .inl ⟨isiB_ok (exGet c.more 3 rfl), sclsB_ok (exGet c.more 4 rfl)⟩⟩ | exact ⟨He.glo_ok KX G (c.t.d.fact 3), .inl ⟨isiB_ok (exGet c.more 5 rfl), sclsB_ok (exGet c.more 6 rfl)⟩⟩ | exact ⟨He.glo_ok KX G (c.t.d.fact 4), .inl ⟨isiB_ok (exGet c.more 7 rfl), sclsB_ok (exGet c.more 8 rfl)⟩⟩ | exact ⟨He.glo_ok KX G (c.t.d.fact 5), .inl ⟨isiB_ok (exGet c.more 9 rfl), sclsB_ok (exGet c.more 10 rfl)⟩⟩ | exact ⟨He.glo_ok KX G (c.t.d.fact 6), .inl ⟨isiB_ok (exGet c.more 11 rfl), sclsB_ok (exGet c.more 12 rfl)⟩⟩ | exact ⟨He.glo_ok KX G (c.t.d.fact 7), .inr ⟨isiB_ok (exGet c.more 13 rfl), He.cls_ok (c.t.d.fact 8)⟩⟩)
  f_Serves____eq__ := c.t.d.def_ 41
  f_Serves__serves := c.t.d.def_ 42
  st_Breaks_plan := ⟨_, _, 0, He.glo_ok KX G (c.t.d.fact 6), sclsB_ok (exGet c.more 12 rfl), slotB_ok (exGet c.more 32 rfl), fun g hg hn => by simp only [List.mem_cons, List.not_mem_nil, or_false] at hg; rcases hg with rfl <;> first | exact (hn rfl).elim ⟩
  f_Breaks____init__ := c.t.d.def_ 43
  fs_Breaks_plan := ⟨_, _, 0, He.glo_ok KX G (c.t.d.fact 6), sclsB_ok (exGet c.more 12 rfl), slotB_ok (exGet c.more 32 rfl)⟩
  fd_Search_plan := ⟨_, He.glo_ok KX G (c.t.d.fact 7), He.cls_ok (c.t.d.fact 8), He.noat_ok (c.t.d.fact 52)⟩
  k_Breaks := He.glo_ok KX G (c.t.d.fact 6)
  an_Breaks := ansB_ok (exGet c.more 33 rfl) (fun x hx => by simp only [to_Breaks, List.map_cons, List.map_nil, List.mem_cons, List.not_mem_nil, or_false] at hx; rcases hx with rfl | rfl | rfl | rfl | rfl | rfl | rfl <;> first | exact ⟨He.glo_ok KX G (c.t.d.fact 1), .inl ⟨isiB_ok (exGet c.more 1 rfl), sclsB_ok (exGet c.more 2 rfl)⟩⟩ | exact ⟨He.glo_ok KX G (c.t.d.fact 2), .inl ⟨isiB_ok (exGet c.more 3 rfl), sclsB_ok (exGet c.more 4 rfl)⟩⟩ | exact ⟨He.glo_ok KX G (c.t.d.fact 3), .inl ⟨isiB_ok (exGet c.more 5 rfl), sclsB_ok (exGet c.more 6 rfl)⟩⟩ | exact ⟨He.glo_ok KX G (c.t.d.fact 4), .inl ⟨isiB_ok (exGet c.more 7 rfl), sclsB_ok (exGet c.more 8 rfl)⟩⟩ | exact ⟨He.glo_ok KX G (c.t.d.fact 5), .inl ⟨isiB_ok (exGet c.more 9 rfl), sclsB_ok (exGet c.more 10 rfl)⟩⟩ | exact ⟨He.glo_ok KX G (c.t.d.fact 6), .inl ⟨isiB_ok (exGet c.more 11 rfl), sclsB_ok (exGet c.more 12 rfl)⟩⟩ | exact ⟨He.glo_ok KX G (c.t.d.fact 7), .inr ⟨isiB_ok (exGet c.more 13 rfl), He.cls_ok (c.t.d.fact 8)⟩⟩)
  f_Breaks____eq__ := c.t.d.def_ 44
  g_answers_in := He.glo_ok KX G (c.t.d.fact 53)
  f_Breaks__leads_down := c.t.d.def_ 45
  f_Search__ends_of := c.t.d.def_ 46
  f_Search__has_answer := c.t.d.def_ 47
  mk_Serves := He.mkr_ok (c.t.d.fact 54)
  f_serving := c.t.d.def_ 48
  f_is_doubt := c.t.d.def_ 49
  g_check_shelf := He.glo_ok KX G (c.t.d.fact 55)
  g_is_doubt := He.glo_ok KX G (c.t.d.fact 56)
  f_check_doubt := c.t.d.def_ 50
  g_check_doubt := He.glo_ok KX G (c.t.d.fact 57)
  f_safe := c.t.d.def_ 51
  f_after := c.t.d.def_ 52
  g_reach_of := He.glo_ok KX G (c.t.d.fact 58)
  lam_doubts := lamF_of tb (by unfold lamTf; simp) (exGet c.more 19 rfl)
  f_doubts := c.t.d.def_ 53
  g_check_aim := He.glo_ok KX G (c.t.d.fact 59)
  sc_Way := sclsB_ok (exGet c.more 4 rfl)
  m_Way_holds := He.meth_ok (c.t.d.fact 60)
  f_Way__shows := c.t.d.def_ 54
  g_are_stuck := He.glo_ok KX G (c.t.d.fact 61)
  f_Stuck__shows := c.t.d.def_ 55
  f_can_in := c.t.d.def_ 56
  f_check_bearable := c.t.d.def_ 57
  c_MAX_DUTIES := He.int_ok KX G (c.t.d.fact 62)
  an_list_tuple := ansB_ok (exGet c.more 34 rfl) (fun x hx => by simp only [to_list_tuple, List.map_cons, List.map_nil, List.mem_cons, List.not_mem_nil, or_false] at hx; rcases hx with rfl | rfl | rfl | rfl | rfl | rfl | rfl <;> first | exact ⟨He.glo_ok KX G (c.t.d.fact 1), .inl ⟨isiB_ok (exGet c.more 1 rfl), sclsB_ok (exGet c.more 2 rfl)⟩⟩ | exact ⟨He.glo_ok KX G (c.t.d.fact 2), .inl ⟨isiB_ok (exGet c.more 3 rfl), sclsB_ok (exGet c.more 4 rfl)⟩⟩ | exact ⟨He.glo_ok KX G (c.t.d.fact 3), .inl ⟨isiB_ok (exGet c.more 5 rfl), sclsB_ok (exGet c.more 6 rfl)⟩⟩ | exact ⟨He.glo_ok KX G (c.t.d.fact 4), .inl ⟨isiB_ok (exGet c.more 7 rfl), sclsB_ok (exGet c.more 8 rfl)⟩⟩ | exact ⟨He.glo_ok KX G (c.t.d.fact 5), .inl ⟨isiB_ok (exGet c.more 9 rfl), sclsB_ok (exGet c.more 10 rfl)⟩⟩ | exact ⟨He.glo_ok KX G (c.t.d.fact 6), .inl ⟨isiB_ok (exGet c.more 11 rfl), sclsB_ok (exGet c.more 12 rfl)⟩⟩ | exact ⟨He.glo_ok KX G (c.t.d.fact 7), .inr ⟨isiB_ok (exGet c.more 13 rfl), He.cls_ok (c.t.d.fact 8)⟩⟩)
  g_is_duty := He.glo_ok KX G (c.t.d.fact 63)
  f_check_duties := c.t.d.def_ 58
  g_check_duties := He.glo_ok KX G (c.t.d.fact 64)
  sc_Serves := sclsB_ok (exGet c.more 10 rfl)
  m_Serves_serves := He.meth_ok (c.t.d.fact 65)
  f_Serves__shows := c.t.d.def_ 59
  sc_Breaks := sclsB_ok (exGet c.more 12 rfl)
  m_Breaks_leads_down := He.meth_ok (c.t.d.fact 66)
  f_Breaks__shows := c.t.d.def_ 60
  k_Search := He.glo_ok KX G (c.t.d.fact 7)
  ic_Search := He.cls_ok (c.t.d.fact 8)
  m_Search_has_answer := He.meth_ok (c.t.d.fact 67)
  f_Search__lost := c.t.d.def_ 61
  mk_Shelf := He.mkr_ok (c.t.d.fact 68)
  mk_Breaks := He.mkr_ok (c.t.d.fact 69)
  m_Breaks_shows := He.meth_ok (c.t.d.fact 70)
  m_Serves_shows := He.meth_ok (c.t.d.fact 71)
  f__law_plans_right := c.t.d.def_ 62
  mk_Way := He.mkr_ok (c.t.d.fact 72)
  m_Way_shows := He.meth_ok (c.t.d.fact 73)
  mk_Stuck := He.mkr_ok (c.t.d.fact 74)
  m_Stuck___iter__ := He.meth_ok (c.t.d.fact 75)
  mk_Bearable := He.mkr_ok (c.t.d.fact 76)
  m_Serves___eq__ := He.meth_ok (c.t.d.fact 77)
  nc_Serves := neB_ok (exGet c.more 35 rfl)
  m_Breaks___eq__ := He.meth_ok (c.t.d.fact 78)
  nc_Breaks := neB_ok (exGet c.more 36 rfl)
  m_Stuck___eq__ := He.meth_ok (c.t.d.fact 79)
  nc_Stuck := neB_ok (exGet c.more 37 rfl)
  m_Bearable___eq__ := He.meth_ok (c.t.d.fact 80)
  f__law_levels_right := c.t.d.def_ 63
  g_can_in := He.glo_ok KX G (c.t.d.fact 81)
  f_numbers_for := c.t.d.def_ 64
  g_numbers_for := He.glo_ok KX G (c.t.d.fact 82)
  f_way_of := c.t.d.def_ 65
  g_way_of := He.glo_ok KX G (c.t.d.fact 83)
  f_way := c.t.d.def_ 66
  g_way := He.glo_ok KX G (c.t.d.fact 84)
  f_fewest := c.t.d.def_ 67
  g_check_bearable := He.glo_ok KX G (c.t.d.fact 85)
  g_are_apart := He.glo_ok KX G (c.t.d.fact 86)
  sc_Stuck := sclsB_ok (exGet c.more 6 rfl)
  m_Stuck_shows := He.meth_ok (c.t.d.fact 87)
  g_all_doubts := He.glo_ok KX G (c.t.d.fact 88)
  sc_Bearable := sclsB_ok (exGet c.more 8 rfl)
  m_Bearable_is_known := He.meth_ok (c.t.d.fact 89)
  f_Bearable__shows := c.t.d.def_ 68
  f_bearable := c.t.d.def_ 69
  m_Search_ends_of := He.meth_ok (c.t.d.fact 90)
  m_Search_lost := He.meth_ok (c.t.d.fact 91)
  f_Search____init__ := c.t.d.def_ 70
  mk_Search := He.mkr_ok (c.t.d.fact 92)
  g_serving := He.glo_ok KX G (c.t.d.fact 93)
  f_serve := c.t.d.def_ 71
  g_serve := He.glo_ok KX G (c.t.d.fact 94)
  f_can_serve := c.t.d.def_ 72
  g_fewest := He.glo_ok KX G (c.t.d.fact 95)
  g_after := He.glo_ok KX G (c.t.d.fact 96)
  g_safe := He.glo_ok KX G (c.t.d.fact 97)
  g_doubts := He.glo_ok KX G (c.t.d.fact 98)
  g_bearable := He.glo_ok KX G (c.t.d.fact 99)
  g_can_serve := He.glo_ok KX G (c.t.d.fact 100)
  f__law_counters_right := c.t.d.def_ 73
  m_Bearable_shows := He.meth_ok (c.t.d.fact 101)
  f__law_harm_right := c.t.d.def_ 74
  g__law_plans_right := He.glo_ok KX G (c.t.d.fact 102)
  g__law_counters_right := He.glo_ok KX G (c.t.d.fact 103)
  an_list := ansB_ok (exGet c.more 38 rfl) (fun x hx => by simp only [to_list, List.map_cons, List.map_nil, List.mem_cons, List.not_mem_nil, or_false] at hx; rcases hx with rfl | rfl | rfl | rfl | rfl | rfl | rfl <;> first | exact ⟨He.glo_ok KX G (c.t.d.fact 1), .inl ⟨isiB_ok (exGet c.more 1 rfl), sclsB_ok (exGet c.more 2 rfl)⟩⟩ | exact ⟨He.glo_ok KX G (c.t.d.fact 2), .inl ⟨isiB_ok (exGet c.more 3 rfl), sclsB_ok (exGet c.more 4 rfl)⟩⟩ | exact ⟨He.glo_ok KX G (c.t.d.fact 3), .inl ⟨isiB_ok (exGet c.more 5 rfl), sclsB_ok (exGet c.more 6 rfl)⟩⟩ | exact ⟨He.glo_ok KX G (c.t.d.fact 4), .inl ⟨isiB_ok (exGet c.more 7 rfl), sclsB_ok (exGet c.more 8 rfl)⟩⟩ | exact ⟨He.glo_ok KX G (c.t.d.fact 5), .inl ⟨isiB_ok (exGet c.more 9 rfl), sclsB_ok (exGet c.more 10 rfl)⟩⟩ | exact ⟨He.glo_ok KX G (c.t.d.fact 6), .inl ⟨isiB_ok (exGet c.more 11 rfl), sclsB_ok (exGet c.more 12 rfl)⟩⟩ | exact ⟨He.glo_ok KX G (c.t.d.fact 7), .inr ⟨isiB_ok (exGet c.more 13 rfl), He.cls_ok (c.t.d.fact 8)⟩⟩)
  g__law_levels_right := He.glo_ok KX G (c.t.d.fact 104)
  g__law_harm_right := He.glo_ok KX G (c.t.d.fact 105)
  f_law := c.t.d.def_ 75
end K06
namespace K06
open PySem DL
def hA (_ : List Int) : Hd := Hd.empty
def hB (ns : List Int) : Hd := Hd.empty.push (.lst (ns.map .int))
noncomputable def cS0 : S := sSeq stm__law_counters_right_0 (sSeq stm__law_counters_right_1 stm__law_counters_right_2)
def rhoOf (r : Option (Fl × Rho × Hd)) : Rho := match r with
  | some (_, ρ, _) => ρ
  | none => []
def hdOf (r : Option (Fl × Rho × Hd)) : Hd := match r with
  | some (_, _, h) => h
  | none => Hd.empty
noncomputable def rho1 (hp : Hd) : Rho := rhoOf (cS0 (List.replicate 8 none) hp)
noncomputable def h1 (hp : Hd) : Hd := hdOf (cS0 (List.replicate 8 none) hp)
noncomputable def rho2 (hp : Hd) : Rho := rhoOf (stm__law_counters_right_4 (rho1 hp) (h1 hp))
theorem c0A (ns : List Int) : cS0 (List.replicate 8 none) (hA ns) = some (.nx, rho1 (hA ns), h1 (hA ns)) := by kernel_rfl
theorem c4A (ns : List Int) : stm__law_counters_right_4 (rho1 (hA ns)) (h1 (hA ns)) = some (.nx, rho2 (hA ns), h1 (hA ns)) := by kernel_rfl
theorem t0A (ns : List Int) : (tst__law_counters_right_0 (rho1 (hA ns)) (h1 (hA ns))).map (fun r => (r.1, objs (h1 (hA ns)).n r.2)) = some (false, objs (h1 (hA ns)).n (h1 (hA ns))) := by kernel_rfl
theorem t1A (ns : List Int) : (tst__law_counters_right_1 (rho2 (hA ns)) (h1 (hA ns))).map (fun r => (r.1, objs (h1 (hA ns)).n r.2)) = some (false, objs (h1 (hA ns)).n (h1 (hA ns))) := by kernel_rfl
theorem t2A (ns : List Int) : (tst__law_counters_right_2 (rho2 (hA ns)) (h1 (hA ns))).map (fun r => (r.1, objs (h1 (hA ns)).n r.2)) = some (false, objs (h1 (hA ns)).n (h1 (hA ns))) := by kernel_rfl
theorem t3A (ns : List Int) : (tst__law_counters_right_3 (rho2 (hA ns)) (h1 (hA ns))).map (fun r => (r.1, objs (h1 (hA ns)).n r.2)) = some (false, objs (h1 (hA ns)).n (h1 (hA ns))) := by kernel_rfl
theorem t4A (ns : List Int) : (tst__law_counters_right_4 (rho2 (hA ns)) (h1 (hA ns))).map (fun r => (r.1, objs (h1 (hA ns)).n r.2)) = some (false, objs (h1 (hA ns)).n (h1 (hA ns))) := by kernel_rfl
theorem t5A (ns : List Int) : (tst__law_counters_right_5 (rho2 (hA ns)) (h1 (hA ns))).map (fun r => (r.1, objs (h1 (hA ns)).n r.2)) = some (false, objs (h1 (hA ns)).n (h1 (hA ns))) := by kernel_rfl
theorem t6A (ns : List Int) : (tst__law_counters_right_6 (rho2 (hA ns)) (h1 (hA ns))).map (fun r => (r.1, objs (h1 (hA ns)).n r.2)) = some (false, objs (h1 (hA ns)).n (h1 (hA ns))) := by kernel_rfl
theorem t7A (ns : List Int) : (tst__law_counters_right_7 (rho2 (hA ns)) (h1 (hA ns))).map (fun r => (r.1, objs (h1 (hA ns)).n r.2)) = some (false, objs (h1 (hA ns)).n (h1 (hA ns))) := by kernel_rfl
theorem c7A (ns : List Int) : (sSeq stm__law_counters_right_7 stm__law_counters_right_8 (rho2 (hA ns)) (h1 (hA ns))).map (fun r => (r.1, objs (hA ns).n r.2.2)) = some (.rt (.bl true), objs (hA ns).n (hA ns)) := by kernel_rfl
theorem plA (ns : List Int) (d : D) : (tst_law_0 [some d] (hA ns)).map (fun r => (r.1, objs (hA ns).n r.2)) = some (false, objs (hA ns).n (hA ns)) := by kernel_rfl
theorem c0B (ns : List Int) : cS0 (List.replicate 8 none) (hB ns) = some (.nx, rho1 (hB ns), h1 (hB ns)) := by kernel_rfl
theorem c4B (ns : List Int) : stm__law_counters_right_4 (rho1 (hB ns)) (h1 (hB ns)) = some (.nx, rho2 (hB ns), h1 (hB ns)) := by kernel_rfl
theorem t0B (ns : List Int) : (tst__law_counters_right_0 (rho1 (hB ns)) (h1 (hB ns))).map (fun r => (r.1, objs (h1 (hB ns)).n r.2)) = some (false, objs (h1 (hB ns)).n (h1 (hB ns))) := by kernel_rfl
theorem t1B (ns : List Int) : (tst__law_counters_right_1 (rho2 (hB ns)) (h1 (hB ns))).map (fun r => (r.1, objs (h1 (hB ns)).n r.2)) = some (false, objs (h1 (hB ns)).n (h1 (hB ns))) := by kernel_rfl
theorem t2B (ns : List Int) : (tst__law_counters_right_2 (rho2 (hB ns)) (h1 (hB ns))).map (fun r => (r.1, objs (h1 (hB ns)).n r.2)) = some (false, objs (h1 (hB ns)).n (h1 (hB ns))) := by kernel_rfl
theorem t3B (ns : List Int) : (tst__law_counters_right_3 (rho2 (hB ns)) (h1 (hB ns))).map (fun r => (r.1, objs (h1 (hB ns)).n r.2)) = some (false, objs (h1 (hB ns)).n (h1 (hB ns))) := by kernel_rfl
theorem t4B (ns : List Int) : (tst__law_counters_right_4 (rho2 (hB ns)) (h1 (hB ns))).map (fun r => (r.1, objs (h1 (hB ns)).n r.2)) = some (false, objs (h1 (hB ns)).n (h1 (hB ns))) := by kernel_rfl
theorem t5B (ns : List Int) : (tst__law_counters_right_5 (rho2 (hB ns)) (h1 (hB ns))).map (fun r => (r.1, objs (h1 (hB ns)).n r.2)) = some (false, objs (h1 (hB ns)).n (h1 (hB ns))) := by kernel_rfl
theorem t6B (ns : List Int) : (tst__law_counters_right_6 (rho2 (hB ns)) (h1 (hB ns))).map (fun r => (r.1, objs (h1 (hB ns)).n r.2)) = some (false, objs (h1 (hB ns)).n (h1 (hB ns))) := by kernel_rfl
theorem t7B (ns : List Int) : (tst__law_counters_right_7 (rho2 (hB ns)) (h1 (hB ns))).map (fun r => (r.1, objs (h1 (hB ns)).n r.2)) = some (false, objs (h1 (hB ns)).n (h1 (hB ns))) := by kernel_rfl
theorem c7B (ns : List Int) : (sSeq stm__law_counters_right_7 stm__law_counters_right_8 (rho2 (hB ns)) (h1 (hB ns))).map (fun r => (r.1, objs (hB ns).n r.2.2)) = some (.rt (.bl true), objs (hB ns).n (hB ns)) := by kernel_rfl
theorem plB (ns : List Int) (d : D) : (tst_law_0 [some d] (hB ns)).map (fun r => (r.1, objs (hB ns).n r.2)) = some (false, objs (hB ns).n (hB ns)) := by kernel_rfl
theorem seq3 {a b c r : S} {ρ ρ' : Rho} {hp h' : Hd} (e : sSeq a (sSeq b c) ρ hp = some (.nx, ρ', h')) : sSeq a (sSeq b (sSeq c r)) ρ hp = r ρ' h' := by
  simp only [sSeq] at e ⊢
  cases ea : a ρ hp with
  | none => rw [ea] at e; cases e
  | some x =>
    obtain ⟨fl, ρ1, h1⟩ := x
    rw [ea] at e
    cases fl with
    | nx =>
      simp only at e ⊢
      cases eb : b ρ1 h1 with
      | none => rw [eb] at e; cases e
      | some y =>
        obtain ⟨fl2, ρ2, h2⟩ := y
        rw [eb] at e
        cases fl2 with
        | nx => simp only at e ⊢; rw [e]
        | _ => simp at e
    | _ => simp at e
theorem counters {hp : Hd} (c0 : cS0 (List.replicate 8 none) hp = some (.nx, rho1 hp, h1 hp)) (c4 : stm__law_counters_right_4 (rho1 hp) (h1 hp) = some (.nx, rho2 hp, h1 hp))
    (t0 : gcT tst__law_counters_right_0 (rho1 hp) (h1 hp) = some (false, h1 hp)) (t1 : gcT tst__law_counters_right_1 (rho2 hp) (h1 hp) = some (false, h1 hp)) (t2 : gcT tst__law_counters_right_2 (rho2 hp) (h1 hp) = some (false, h1 hp)) (t3 : gcT tst__law_counters_right_3 (rho2 hp) (h1 hp) = some (false, h1 hp))
    (t4 : gcT tst__law_counters_right_4 (rho2 hp) (h1 hp) = some (false, h1 hp)) (t5 : gcT tst__law_counters_right_5 (rho2 hp) (h1 hp) = some (false, h1 hp)) (t6 : gcT tst__law_counters_right_6 (rho2 hp) (h1 hp) = some (false, h1 hp)) (t7 : gcT tst__law_counters_right_7 (rho2 hp) (h1 hp) = some (false, h1 hp))
    (c7 : (sSeq stm__law_counters_right_7 stm__law_counters_right_8 (rho2 hp) (h1 hp)).map (fun r => (r.1, objs hp.n r.2.2)) = some (.rt (.bl true), objs hp.n hp)) :
    ∃ h', f__law_counters_right [] hp = some (.bl true, h') ∧ objs hp.n h' = objs hp.n hp := by
  obtain ⟨⟨fl, ρ', h'⟩, e1, e2⟩ := Option.map_eq_some_iff.mp c7
  simp only [Prod.mk.injEq] at e2
  obtain ⟨rfl, e3⟩ := e2
  refine ⟨h', ?_, e3⟩
  have e : m__law_counters_right (List.replicate 8 none) hp = some (.rt (.bl true), ρ', h') := by
    show sSeq stm__law_counters_right_0 (sSeq stm__law_counters_right_1 (sSeq stm__law_counters_right_2 (sSeq stm__law_counters_right_3 (sSeq stm__law_counters_right_4 (sSeq stm__law_counters_right_5 (sSeq stm__law_counters_right_6 (sSeq stm__law_counters_right_7 stm__law_counters_right_8))))))) (List.replicate 8 none) hp = _
    rw [seq3 c0, seq_nx (m := stm__law_counters_right_3) (if_f t0), seq_nx c4]
    rw [seq_nx (m := stm__law_counters_right_5) (ρ' := rho2 hp) (h' := h1 hp) (if_f ((or_f t4).trans ((or_f t3).trans ((or_f t2).trans t1))))]
    rw [seq_nx (m := stm__law_counters_right_6) (ρ' := rho2 hp) (h' := h1 hp) (if_f ((or_f t7).trans ((or_f t6).trans t5)))]
    exact e1
  show (match m__law_counters_right (List.replicate 8 none) hp with
    | some (.rt d, _, h) => some (d, h)
    | some (.nx, _, h) => some (.non, h)
    | _ => none) = _
  rw [e]
theorem law_of {hp : Hd} {d : D} (c : ∃ h', f__law_counters_right [] hp = some (.bl true, h') ∧ objs hp.n h' = objs hp.n hp) (p : (tst_law_0 [some d] hp).map (fun r => (r.1, objs hp.n r.2)) = some (false, objs hp.n hp))
    (r : (stm_law_1 [some d] hp).map (fun r => r.1) = some (.rt (.bl true))) : ∃ h', f_law [d] hp = some (.bl true, h') := by
  obtain ⟨hc, c1, c2⟩ := c
  have t1 : gcT tst_law_1 [some d] hp = some (false, hp) := gcT_ev (by
    have : tst_law_1 [some d] hp = some (false, hc) := by
      show bnd (mTst (mCall f__law_counters_right (pur []))) (fun c => pur (!c)) [some d] hp = _
      simp only [bnd, mTst, mCall, pur, lft, c1, blD, Option.map_some]
      rfl
    rw [this]
    simp only [Option.map_some, c2])
  have t0 : gcT tst_law_0 [some d] hp = some (false, hp) := gcT_ev p
  obtain ⟨⟨fl, ρ', h'⟩, e1, e2⟩ := Option.map_eq_some_iff.mp r
  simp only at e2
  subst e2
  refine ⟨h', ?_⟩
  have e : m_law [some d] hp = some (.rt (.bl true), ρ', h') := by
    show sSeq stm_law_0 stm_law_1 [some d] hp = _
    rw [seq_nx (m := stm_law_0) (ρ' := [some d]) (h' := hp) (if_f ((or_f t1).trans t0))]
    exact e1
  show (match m_law [some d] hp with
    | some (.rt d, _, h) => some (d, h)
    | some (.nx, _, h) => some (.non, h)
    | _ => none) = _
  rw [e]
theorem enA (ns : List Int) : (stm_law_1 [some (.kl ns)] (hA ns)).map (fun r => r.1) = some (.rt (.bl true)) := by kernel_rfl
theorem enB (ns : List Int) : (stm_law_1 [some (.ref 0)] (hB ns)).map (fun r => r.1) = some (.rt (.bl true)) := by kernel_rfl
theorem cnA (ns : List Int) : ∃ h', f__law_counters_right [] (hA ns) = some (.bl true, h') ∧ objs (hA ns).n h' = objs (hA ns).n (hA ns) := counters (c0A ns) (c4A ns) (gcT_ev (t0A ns)) (gcT_ev (t1A ns)) (gcT_ev (t2A ns)) (gcT_ev (t3A ns)) (gcT_ev (t4A ns)) (gcT_ev (t5A ns)) (gcT_ev (t6A ns)) (gcT_ev (t7A ns)) (c7A ns)
theorem cnB (ns : List Int) : ∃ h', f__law_counters_right [] (hB ns) = some (.bl true, h') ∧ objs (hB ns).n h' = objs (hB ns).n (hB ns) := counters (c0B ns) (c4B ns) (gcT_ev (t0B ns)) (gcT_ev (t1B ns)) (gcT_ev (t2B ns)) (gcT_ev (t3B ns)) (gcT_ev (t4B ns)) (gcT_ev (t5B ns)) (gcT_ev (t6B ns)) (gcT_ev (t7B ns)) (c7B ns)
theorem says : Says f_law 63 := ⟨fun ns _ => law_of (cnA ns) (plA ns _) (enA ns), fun ns _ => law_of (cnB ns) (plB ns _) (enB ns)⟩
end K06
namespace K06
open PySem PySem.Spec PyProof.Rows L2 DL
theorem law_at {w : World} {K : PySem.W.Frag} {mg : Str → Option Value} {h : Heap} (KX : K.In h) (G : h.Ns mainGlobals mg) (c : SaysP fa fn tf ex pr w h K) : LamX.LawAtS PySem.Challenge.rw_whichfirm_k06_known w K CX0 51 63 "_law_script" mg (He.fAd K ("law", none)) h := by
  obtain ⟨fd, F⟩ : ∃ fd, FunD K "law" "law" (defArgs (top 72)) (defBody (top 72)) (defScope (top 72)) [] [] (He.fAd K ("law", none)) fd := c.t.d.def_ 75
  refine lawAt KX c.hd c.out c.empty says ⟨fd, F.bindsN (fun _ _ _ _ _ _ us hl => match us, hl with | [_], _ => rfl), fun s u => F.bindsA (ps := ["_law_script"]) (fun _ _ _ _ _ _ us hl => match us, hl with | [_], _ => rfl) s [u] rfl, fun base hK hN tb => fnok_law F (fx_of KX G c tb)⟩
end K06
open PySem PySem.W PySem.Calls PyProof.Rows
namespace K06
abbrev dl : DefRec := HandSHeadRun.topDef R.prog 72
abbrev qv : Program := view R.prog [72]
theorem z_open : opening R.prog = plainProg R.prog.main.scope.names := by kernel_rfl
theorem z_fence : ∀ s, fenceModules? R.prog s = some s := fun s => by kernel_rfl
theorem z_hdef : defOf qv R.name = some (dl, []) := by kernel_rfl
theorem z_hp : R.prog.theDef R.name = some (dl.params, dl.body, dl.scope) := by kernel_rfl
theorem z_hk : kwWritten? dl.params.kwonlyargs dl.params.kw_defaults = some [] := by kernel_rfl
theorem z_hwr : (!R.writes || R.records.isEmpty) = true := by kernel_rfl
theorem z_k1 : R.wellSaid = true := by kernel_rfl
theorem z_ok : (chainsOk qv && opensWell R.prog && (frees R.toRowW && R.within.isEmpty)) = true := by kernel_rfl
theorem z_hb : R.prog.bare := ⟨by kernel_rfl, by kernel_rfl, by kernel_rfl, by kernel_rfl, by kernel_rfl, by decide +kernel⟩
theorem z_dn : dl.name = ("law" : PySem.Str) := by kernel_rfl
theorem z_dd : dl.params.defaults = [] := by kernel_rfl
theorem z_call : WalkO qv nms (XL qv []) hk.says R.toRowW dl [] (fun f vs => PySem.call f vs) := by
  refine DL.walk_ofX (l := PySem.Challenge.rw_whichfirm_k06_known) (n := 63) (k := 51) (x := "_law_script") rfl (by decide) z_dd ⟨rfl, by decide, by decide⟩ ?_
  intro w mg fa h Y G hmg0
  obtain ⟨K, KX, c⟩ := Y
  have hmg : mg ("law" : PySem.Str) = some (.ref fa) := by
    rw [← z_dn]
    exact hmg0
  have e : He.ga K "law" = fa := Value.ref.inj (Option.some.inj ((He.glo_ok KX G (c.t.d.fact 106)).symm.trans hmg))
  subst e
  exact ⟨K, KX, law_at KX G c⟩
end K06
theorem PySem.Challenge.cw_whichfirm_k06_known_holds : PySem.Challenge.rw_whichfirm_k06_known.Holds := by
  w_on; o_law
  refine HandSHeadRun.head_any (r := OpenLaw.row PySem.Challenge.rw_whichfirm_k06_known) (q := K06.qv) (H := K06.hk) (ob := K06.ob) (M := 6000) (loose := K06.nms) (d := K06.dl) (kwd := []) K06.ob_eq K06.z_open K06.z_fence K06.run K06.z_hdef K06.z_hp K06.z_hk K06.z_hwr K06.z_k1 K06.z_ok K06.z_hb ?hw K06.z_call
  case hw => w_witness2
