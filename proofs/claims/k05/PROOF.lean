import PyProof.Rows.All
import PySem.Challenge.RW_branchsure_k05_whole_books_and_their_lim
import Wide.All
import OpenK.AllK
import Wide.FinOn
import HandS.ForMost
import HandS.ForExc
import HandS.ExcCtx
import HandS.ExcInit
import HandS.ExcInitHot
import HandS.ExcField
import HandS.ExcIs
import KE.KExcIs
import HandS.Hot
import HandS.HotCalls
import HandS.Wide
import HandS.Flow
import HandS.IsInst
import HandS.Deep
import HandS.TupAny
import HandS.TupLe
import HandS.Style
import HandS.Set
import KE.KDictKeyed
import KE.KDictCopyH
import KE.KeyNested
import HandS.SortInts
import HandS.Defaults
import HandS.CallSlots
import HandS.Words
import HandS.WordsExc
import HandS.Ends
import Lean
import KE.KStateDown
import HandS.Head0
import HandS.Head1
import HandS.Head2
import HandS.HeadEnd
import HandS.HeadHook1
import HandS.HeadHook2
import HandS.Spec
import HandS.More
import HandS.WordsDict
import KE.KDictList
import HandS.SetBool
import HandS.DictComp
import HandS.Iter
set_option Elab.async false
set_option linter.all false
set_option maxRecDepth 100000
section
/-! A layer of plain data over the hand layer: data, what stands for them in the heap, a def's frame. -/
namespace DL
open PySem PySem.Spec L2
open PyProof.Rows hiding St

/-- plain data -/
inductive D where
  | non | bl (b : Bool) | int (i : Int) | str (x : Str) | ty (n : String)
  | tup (xs : List D) | lst (xs : List D) | dct (kvs : List (D × D)) | set (xs : List D)
  /-- a caught exception at a, its dict at d -/
  | exc (a d : Addr) (cls : Str) (fs : List (Str × D))
def D.fv : D → V
  | .bl b => .bl b | .int i => .int i | .str x => .str x | _ => .non

/-- a list that is read: tracked under G, or of the written part -/
def LsR (K : PySem.W.Frag) (G : Addr → Prop) (H : Hp) (a : Addr) (vs : List V) : Prop :=
  (G a ∧ Rd H a (.lst vs)) ∨
    ∃ (o : Obj) (its : Array Value) (n : Nat), K.lookup a = some o ∧ o.cls = .type "list" ∧ o.dict = none ∧ o.data = .seq its n ∧ its.size ≤ sizeLine ∧ Vals vs its.toList
theorem LsR.seq {K : PySem.W.Frag} {G : Addr → Prop} {H : Hp} {a : Addr} {vs : List V} (h : LsR K G H a vs) : SqL K H a vs := by
  rcases h with ⟨_, h⟩ | h
  · exact .inl h
  · exact .inr h

mutual
/-- v stands for d; the lists that it reaches are under G -/
def Rp (K : PySem.W.Frag) (G : Addr → Prop) (H : Hp) : D → V → Prop
  | .non, v => v = .non
  | .bl b, v => v = .bl b
  | .int i, v => v = .int i
  | .str x, v => v = .str x ∧ x.length ≤ sizeLine
  | .ty n, v => v = .ty n
  | .tup ds, v => ∃ a vs, v = .ref a ∧ ds.length ≤ sizeLine ∧ SqT K H a vs ∧ RpL K G H ds vs
  | .lst ds, v => ∃ a vs, v = .ref a ∧ ds.length ≤ sizeLine ∧ LsR K G H a vs ∧ RpL K G H ds vs
  | .dct _, _ => False
  | .set _, _ => False
  | .exc a d _ fs, v => v = .ref a ∧ G d ∧ H d = some (.xd (fs.map fun p => (p.1, p.2.fv)))
def RpL (K : PySem.W.Frag) (G : Addr → Prop) (H : Hp) : List D → List V → Prop
  | [], vs => vs = []
  | d :: ds, vs => ∃ v r, vs = v :: r ∧ Rp K G H d v ∧ RpL K G H ds r
end

/-- all but what is under O stands as it stood -/
structure Stp (O : Addr → Prop) (H H' : Hp) : Prop where
  k : ∀ b o, H b = some o → ¬ O b → H' b = some o
  t : ∀ b xs, H b = some (.tup xs) → H' b = some (.tup xs)
  f : ∀ b o u, H b = some (.frz o u) → H' b = some (.frz o u)
theorem Stp.same {O : Addr → Prop} {H H' : Hp} (e : Same H H') : Stp O H H' := ⟨fun b o h _ => e b o h, fun b xs h => e b _ h, fun b o u h => e b _ h⟩
theorem Stp.refl {O : Addr → Prop} {H : Hp} : Stp O H H := Stp.same (Same.refl H)
theorem Stp.trans {O : Addr → Prop} {H H1 H2 : Hp} (a : Stp O H H1) (b : Stp O H1 H2) : Stp O H H2 :=
  ⟨fun c o h n => b.k c o (a.k c o h n) n, fun c xs h => b.t c xs (a.t c xs h), fun c o u h => b.f c o u (a.f c o u h)⟩
theorem Stp.mono {O O' : Addr → Prop} {H H' : Hp} (a : Stp O H H') (h : ∀ b, O b → O' b) : Stp O' H H' := ⟨fun b o e n => a.k b o e fun z => n (h b z), a.t, a.f⟩

section
variable {w : World} {K : PySem.W.Frag} {G G' : Addr → Prop} {H H' : Hp}
theorem sqT_move (ht : ∀ b xs, H b = some (.tup xs) → H' b = some (.tup xs)) (hf : ∀ b o u, H b = some (.frz o u) → H' b = some (.frz o u)) {a : Addr} {vs : List V} (h : SqT K H a vs) : SqT K H' a vs := by
  rcases h with (h | ⟨o, h⟩) | h
  · exact .inl (.inl (ht _ _ h))
  · exact .inl (.inr ⟨o, hf _ _ _ h⟩)
  · exact .inr h
theorem lsR_move (hg : ∀ b o, G b → H b = some o → G' b ∧ H' b = some o) {a : Addr} {vs : List V} (h : LsR K G H a vs) : LsR K G' H' a vs := by
  rcases h with ⟨g, h | ⟨o, h⟩⟩ | h
  · obtain ⟨g', h'⟩ := hg _ _ g h
    exact .inl ⟨g', .inl h'⟩
  · obtain ⟨g', h'⟩ := hg _ _ g h
    exact .inl ⟨g', .inr ⟨o, h'⟩⟩
  · exact .inr h
mutual
theorem Rp.move (hg : ∀ b o, G b → H b = some o → G' b ∧ H' b = some o) (ht : ∀ b xs, H b = some (.tup xs) → H' b = some (.tup xs)) (hf : ∀ b o u, H b = some (.frz o u) → H' b = some (.frz o u)) :
    ∀ (d : D) (v : V), Rp K G H d v → Rp K G' H' d v
  | .non, v, h => by simpa only [Rp] using h
  | .bl b, v, h => by simpa only [Rp] using h
  | .int i, v, h => by simpa only [Rp] using h
  | .str x, v, h => by simpa only [Rp] using h
  | .ty n, v, h => by simpa only [Rp] using h
  | .tup ds, v, h => by
    simp only [Rp] at h ⊢
    obtain ⟨a, vs, e, z, s, r⟩ := h
    exact ⟨a, vs, e, z, sqT_move ht hf s, RpL.move hg ht hf ds vs r⟩
  | .lst ds, v, h => by
    simp only [Rp] at h ⊢
    obtain ⟨a, vs, e, z, s, r⟩ := h
    exact ⟨a, vs, e, z, lsR_move hg s, RpL.move hg ht hf ds vs r⟩
  | .dct kvs, v, h => by
    simp only [Rp] at h
  | .set kvs, v, h => by
    simp only [Rp] at h
  | .exc a d c fs, v, h => by
    simp only [Rp] at h ⊢
    obtain ⟨e, g, q⟩ := h
    obtain ⟨g', q'⟩ := hg d _ g q
    exact ⟨e, g', q'⟩
theorem RpL.move (hg : ∀ b o, G b → H b = some o → G' b ∧ H' b = some o) (ht : ∀ b xs, H b = some (.tup xs) → H' b = some (.tup xs)) (hf : ∀ b o u, H b = some (.frz o u) → H' b = some (.frz o u)) :
    ∀ (ds : List D) (vs : List V), RpL K G H ds vs → RpL K G' H' ds vs
  | [], vs, h => by simpa only [RpL] using h
  | d :: ds, vs, h => by
    simp only [RpL] at h ⊢
    obtain ⟨v, r, e, h1, h2⟩ := h
    exact ⟨v, r, e, Rp.move hg ht hf d v h1, RpL.move hg ht hf ds r h2⟩
end
theorem RpL.length : ∀ {ds : List D} {vs : List V}, RpL K G H ds vs → vs.length = ds.length
  | [], vs, h => by simp only [RpL] at h; subst h; rfl
  | d :: ds, vs, h => by
    simp only [RpL] at h
    obtain ⟨v, r, e, h1, h2⟩ := h
    subst e
    simp only [List.length_cons, RpL.length h2]
theorem RpL.get : ∀ {ds : List D} {vs : List V} {i : Nat} {d : D}, RpL K G H ds vs → ds[i]? = some d → ∃ v, vs[i]? = some v ∧ Rp K G H d v
  | [], vs, i, d, h, e => by simp at e
  | d :: ds, vs, 0, d', h, e => by
    simp only [RpL] at h
    obtain ⟨v, r, rfl, h1, h2⟩ := h
    simp only [List.getElem?_cons_zero, Option.some.injEq] at e
    subst e
    exact ⟨v, rfl, h1⟩
  | d :: ds, vs, i + 1, d', h, e => by
    simp only [RpL] at h
    obtain ⟨v, r, rfl, h1, h2⟩ := h
    simp only [List.getElem?_cons_succ] at e ⊢
    exact RpL.get h2 e
theorem RpL.get' : ∀ {ds : List D} {vs : List V} {i : Nat} {v : V}, RpL K G H ds vs → vs[i]? = some v → ∃ d, ds[i]? = some d ∧ Rp K G H d v
  | [], vs, i, d, h, e => by simp only [RpL] at h; subst h; simp at e
  | d :: ds, vs, 0, d', h, e => by
    simp only [RpL] at h
    obtain ⟨v, r, rfl, h1, h2⟩ := h
    simp only [List.getElem?_cons_zero, Option.some.injEq] at e
    subst e
    exact ⟨d, rfl, h1⟩
  | d :: ds, vs, i + 1, d', h, e => by
    simp only [RpL] at h
    obtain ⟨v, r, rfl, h1, h2⟩ := h
    simp only [List.getElem?_cons_succ] at e ⊢
    exact RpL.get' h2 e
theorem RpL.append : ∀ {ds es : List D} {vs us : List V}, RpL K G H ds vs → RpL K G H es us → RpL K G H (ds ++ es) (vs ++ us)
  | [], es, vs, us, h, h' => by simp only [RpL] at h; subst h; exact h'
  | d :: ds, es, vs, us, h, h' => by
    simp only [RpL] at h
    obtain ⟨v, r, rfl, h1, h2⟩ := h
    show RpL K G H (d :: (ds ++ es)) (v :: (r ++ us))
    simp only [RpL]
    exact ⟨v, _, rfl, h1, RpL.append h2 h'⟩
theorem RpL.nil : RpL K G H [] [] := by simp only [RpL]
theorem RpL.cons {d : D} {v : V} {ds : List D} {vs : List V} (h : Rp K G H d v) (h' : RpL K G H ds vs) : RpL K G H (d :: ds) (v :: vs) := by
  simp only [RpL]
  exact ⟨v, vs, rfl, h, h'⟩
theorem RpL.uncons {d : D} {ds : List D} {vs : List V} (h : RpL K G H (d :: ds) vs) : ∃ v r, vs = v :: r ∧ Rp K G H d v ∧ RpL K G H ds r := by
  simpa only [RpL] using h
theorem RpL.drop : ∀ {ds : List D} {vs : List V} (n : Nat), RpL K G H ds vs → RpL K G H (ds.drop n) (vs.drop n)
  | _, _, 0, h => h
  | [], vs, n + 1, h => by simp only [RpL] at h; subst h; simp only [List.drop_nil]; exact RpL.nil
  | d :: ds, vs, n + 1, h => by
    obtain ⟨v, r, rfl, h1, h2⟩ := RpL.uncons h
    exact RpL.drop n h2
theorem RpL.take : ∀ {ds : List D} {vs : List V} (n : Nat), RpL K G H ds vs → RpL K G H (ds.take n) (vs.take n)
  | _, _, 0, h => RpL.nil
  | [], vs, n + 1, h => by simp only [RpL] at h; subst h; exact RpL.nil
  | d :: ds, vs, n + 1, h => by
    obtain ⟨v, r, rfl, h1, h2⟩ := RpL.uncons h
    exact RpL.cons h1 (RpL.take n h2)
theorem RpL.set : ∀ {ds : List D} {vs : List V} {d : D} {v : V} (n : Nat), RpL K G H ds vs → Rp K G H d v → RpL K G H (ds.set n d) (vs.set n v)
  | [], vs, d, v, n, h, hd => by simp only [RpL] at h; subst h; exact RpL.nil
  | x :: ds, vs, d, v, 0, h, hd => by
    obtain ⟨v', r, rfl, h1, h2⟩ := RpL.uncons h
    exact RpL.cons hd h2
  | x :: ds, vs, d, v, n + 1, h, hd => by
    obtain ⟨v', r, rfl, h1, h2⟩ := RpL.uncons h
    exact RpL.cons h1 (RpL.set n h2 hd)
theorem RpL.same (e : Same H H') {ds : List D} {vs : List V} (h : RpL K G H ds vs) : RpL K G H' ds vs := RpL.move (fun b o g q => ⟨g, e b o q⟩) (fun b xs q => e b _ q) (fun b o u q => e b _ q) ds vs h
theorem Rp.same (e : Same H H') {d : D} {v : V} (h : Rp K G H d v) : Rp K G H' d v := Rp.move (fun b o g q => ⟨g, e b o q⟩) (fun b xs q => e b _ q) (fun b o u q => e b _ q) d v h
theorem Rp.tup {ds : List D} {a : Addr} {vs : List V} (z : ds.length ≤ sizeLine) (s : SqT K H a vs) (r : RpL K G H ds vs) : Rp K G H (.tup ds) (.ref a) := by
  simp only [Rp]
  exact ⟨a, vs, rfl, z, s, r⟩
theorem Rp.lst {ds : List D} {a : Addr} {vs : List V} (z : ds.length ≤ sizeLine) (s : LsR K G H a vs) (r : RpL K G H ds vs) : Rp K G H (.lst ds) (.ref a) := by
  simp only [Rp]
  exact ⟨a, vs, rfl, z, s, r⟩
theorem Rp.un_tup {ds : List D} {v : V} (h : Rp K G H (.tup ds) v) : ∃ a vs, v = .ref a ∧ ds.length ≤ sizeLine ∧ SqT K H a vs ∧ RpL K G H ds vs := by simpa only [Rp] using h
theorem Rp.un_lst {ds : List D} {v : V} (h : Rp K G H (.lst ds) v) : ∃ a vs, v = .ref a ∧ ds.length ≤ sizeLine ∧ LsR K G H a vs ∧ RpL K G H ds vs := by simpa only [Rp] using h
end

/-! ### a def's frame -/
abbrev Env := List (Option D)
/-- F: the abstract heap at the entry; R: what the arguments reach; O: the slots that own their object; P: those of them that are parameters, each with its object A; X: what is being made -/
structure Fr where
  w : World
  K : PySem.W.Frag
  F : Hp
  R : Addr → Prop
  O : Nat → Bool
  P : Nat → Bool
  A : Nat → Addr
  X : Addr → Prop
/-- the objects of the owning parameters -/
def Fr.S (fr : Fr) (b : Addr) : Prop := ∃ i, fr.P i = true ∧ fr.A i = b
def Owned (fr : Fr) (σ : St) (b : Addr) : Prop := ∃ i, fr.O i = true ∧ σ[i]? = some (some (.ref b))
def Good (fr : Fr) (σ : St) (b : Addr) : Prop := (fr.F b = none ∨ fr.R b) ∧ ¬ Owned fr σ b ∧ ¬ fr.X b
/-! keys -/
mutual
/-- what a key is, up to == -/
def nk : D → Option NestedKey
  | .non => some .none
  | .bl b => some (.num (if b = true then 1 else 0))
  | .int i => some (.num i)
  | .str x => some (.text x)
  | .tup ds => (nks ds).map .tup
  | _ => none
def nks : List D → Option (List NestedKey)
  | [] => some []
  | d :: ds => match nk d, nks ds with
    | some k, some ks => some (k :: ks)
    | _, _ => none
end
def D.isTup : D → Bool
  | .tup _ => true
  | _ => false
def D.leaf : D → Bool
  | .non => true
  | .bl _ => true
  | .int _ => true
  | .str _ => true
  | _ => false
/-- the dict at a: keys (what they are, as they stand) and values, in their order -/
def DictOb (w : World) (h : Heap) (a : Addr) (es : List (NestedKey × V × V)) : Prop :=
  (a == sysModules) = false ∧ ∃ (o : Obj) (ents : Array DictEntry) (ep : Nat), h.get? a = some o ∧ o.ExactDict ∧ o.data = .dict ents ep ∧ Paired (fun (e : NestedKey × V × V) (x : DictEntry) => x.hash = e.1.hash w ∧ RelV e.2.1 x.key ∧ RelV e.2.2 x.val) es ents.toList
def DctO (w : World) (a : Addr) (es : List (NestedKey × V × V)) : HO := .ext fun h => DictOb w h a es
/-- the set at a: its members, in whatever order -/
def SetOb (w : World) (h : Heap) (a : Addr) (ks : List (NestedKey × V)) : Prop :=
  ∃ (o : Obj) (es : Array (Int × Value)) (ep : Nat) (t : SetTable) (ms : List (NestedKey × V)), h.get? a = some o ∧ o.ExactSet ∧ o.data = .set es ep t ∧ ms.Perm ks ∧ Paired (fun (k : NestedKey × V) (e : Int × Value) => e.1 = k.1.hash w ∧ RelV k.2 e.2) ms es.toList ∧
    es.size < scanBound ∧ t.fits es.size = true ∧ Ris t.place.toList ∧ (w.params.followText "set-order" = true ∨ t.led = true)
def SetOO (w : World) (a : Addr) (ks : List (NestedKey × V)) : HO := .ext fun h => SetOb w h a ks
def KvR (K : PySem.W.Frag) (G : Addr → Prop) (H : Hp) : List (D × D) → List (NestedKey × V × V) → Prop := Paired fun kv e => nk kv.1 = some e.1 ∧ e.1.depth ≤ 8 ∧ Rp K G H kv.1 e.2.1 ∧ Rp K G H kv.2 e.2.2
def KsR (K : PySem.W.Frag) (G : Addr → Prop) (H : Hp) : List D → List (NestedKey × V) → Prop := Paired fun d k => nk d = some k.1 ∧ k.1.depth ≤ 8 ∧ Rp K G H d k.2
/-- keys that are ints, texts -/
def KvK (K : PySem.W.Frag) (G : Addr → Prop) (H : Hp) : List (D × D) → List (Key × V) → Prop := Paired fun kv e => Rp K G H kv.1 (kV e.1) ∧ Rp K G H kv.2 e.2
/-- the object o at a holds d, and may be changed -/
def Ob (w : World) (K : PySem.W.Frag) (G : Addr → Prop) (H : Hp) (d : D) (a : Addr) (o : HO) : Prop := match d with
  | .lst ds => ds.length ≤ sizeLine ∧ ∃ vs, o = .lst vs ∧ RpL K G H ds vs
  | .dct kvs => kvs.length ≤ sizeLine ∧ ((∃ es, o = .dK es ∧ KvK K G H kvs es) ∨ (kvs ≠ [] ∧ (∀ kv ∈ kvs, kv.1.isTup = true) ∧ ∃ es, o = DctO w a es ∧ KvR K G H kvs es ∧ (es.map (·.1)).Nodup))
  | .set ds => ds.length ≤ 4095 ∧ (∀ d ∈ ds, d.leaf = true) ∧ ∃ ks, o = SetOO w a ks ∧ KsR K G H ds ks ∧ (ks.map (·.1)).Nodup
  | _ => False
def Ow (w : World) (K : PySem.W.Frag) (G : Addr → Prop) (H : Hp) (d : D) (a : Addr) : Prop := ∃ o, H a = some o ∧ Ob w K G H d a o
structure ER (fr : Fr) (σ : St) (H : Hp) (ρ : Env) : Prop where
  len : σ.length = ρ.length
  pl : ∀ i d, ρ[i]? = some (some d) → fr.O i = false → ∃ v, σ[i]? = some (some v) ∧ Rp fr.K (Good fr σ) H d v
  ow : ∀ i d, ρ[i]? = some (some d) → fr.O i = true → ∃ a, σ[i]? = some (some (.ref a)) ∧ Ow fr.w fr.K (Good fr σ) H d a ∧ (fr.S a ∨ fr.F a = none)
  nn : ∀ i, fr.O i = true → ρ[i]? = some none → σ[i]? = some none
  ne : ∀ i j a, fr.O i = true → fr.O j = true → σ[i]? = some (some (.ref a)) → σ[j]? = some (some (.ref a)) → i = j
  par : ∀ i, fr.P i = true → fr.O i = true ∧ σ[i]? = some (some (.ref (fr.A i))) ∧ ∃ d, ρ[i]? = some (some d)
  step : Stp fr.S fr.F H
  xt : ∀ b, fr.X b → (∃ o, H b = some o) ∧ ¬ Owned fr σ b

section
variable {fr : Fr} {σ : St} {H H' : Hp} {ρ : Env}
theorem Paired.mono {α β : Type} {F G : α → β → Prop} : ∀ {l₁ : List α} {l₂ : List β}, Paired F l₁ l₂ → (∀ a b, F a b → G a b) → Paired G l₁ l₂
  | _, _, .nil, _ => .nil
  | _, _, .cons r t, f => .cons (f _ _ r) (Paired.mono t f)
/-- a thing that may be changed: tracked, no tuple, not frozen -/
def Trk (o : HO) : Prop := Mut (some o) ∧ (∀ xs, o ≠ .tup xs) ∧ ∀ ob u, o ≠ .frz ob u
theorem trk_lst {vs : List V} : Trk (.lst vs) := ⟨True.intro, fun xs z => (by cases z), fun ob u z => (by cases z)⟩
theorem trk_dK {es : List (Key × V)} : Trk (.dK es) := ⟨True.intro, fun xs z => (by cases z), fun ob u z => (by cases z)⟩
theorem trk_dct {w : World} {a : Addr} {es : List (NestedKey × V × V)} : Trk (DctO w a es) := ⟨True.intro, fun xs z => (by cases z), fun ob u z => (by cases z)⟩
theorem trk_set {w : World} {a : Addr} {es : List (NestedKey × V)} : Trk (SetOO w a es) := ⟨True.intro, fun xs z => (by cases z), fun ob u z => (by cases z)⟩
theorem Ob.trk {w : World} {K : PySem.W.Frag} {G : Addr → Prop} {d : D} {a : Addr} {o : HO} (h : Ob w K G H d a o) : Trk o := by
  unfold Ob at h
  split at h
  · obtain ⟨_, vs, rfl, _⟩ := h
    exact trk_lst
  · obtain ⟨_, ⟨es, rfl, _⟩ | ⟨_, _, es, rfl, _⟩⟩ := h
    · exact trk_dK
    · exact trk_dct
  · obtain ⟨_, _, es, rfl, _⟩ := h
    exact trk_set
  · exact h.elim
theorem Ow.trk {w : World} {K : PySem.W.Frag} {G : Addr → Prop} {d : D} {a : Addr} (h : Ow w K G H d a) : ∃ o, H a = some o ∧ Mut (some o) ∧ (∀ xs, o ≠ .tup xs) ∧ ∀ ob u, o ≠ .frz ob u := by
  obtain ⟨o, e, h⟩ := h
  exact ⟨o, e, h.trk⟩
theorem Ob.move {w : World} {K : PySem.W.Frag} {G G' : Addr → Prop} {d : D} {a : Addr} {o : HO} (hg : ∀ b o, G b → H b = some o → G' b ∧ H' b = some o) (ht : ∀ b xs, H b = some (.tup xs) → H' b = some (.tup xs)) (hf : ∀ b o u, H b = some (.frz o u) → H' b = some (.frz o u))
    (h : Ob w K G H d a o) : Ob w K G' H' d a o := by
  unfold Ob at h ⊢
  split at h
  · obtain ⟨z, vs, e, r⟩ := h
    exact ⟨z, vs, e, RpL.move hg ht hf _ _ r⟩
  · obtain ⟨z, ⟨es, e, r⟩ | ⟨hn, hm, es, e, r, n⟩⟩ := h
    · exact ⟨z, .inl ⟨es, e, Paired.mono r fun a b ⟨h1, h2⟩ => ⟨Rp.move hg ht hf _ _ h1, Rp.move hg ht hf _ _ h2⟩⟩⟩
    · exact ⟨z, .inr ⟨hn, hm, es, e, Paired.mono r fun a b ⟨h1, h2, h3, h4⟩ => ⟨h1, h2, Rp.move hg ht hf _ _ h3, Rp.move hg ht hf _ _ h4⟩, n⟩⟩
  · obtain ⟨z, hm, es, e, r, n⟩ := h
    exact ⟨z, hm, es, e, Paired.mono r fun a b ⟨h1, h2, h3⟩ => ⟨h1, h2, Rp.move hg ht hf _ _ h3⟩, n⟩
  · exact h.elim
theorem Ow.move {w : World} {K : PySem.W.Frag} {G G' : Addr → Prop} {d : D} {a : Addr} (ha : ∀ o, H a = some o → H' a = some o) (hg : ∀ b o, G b → H b = some o → G' b ∧ H' b = some o) (ht : ∀ b xs, H b = some (.tup xs) → H' b = some (.tup xs)) (hf : ∀ b o u, H b = some (.frz o u) → H' b = some (.frz o u))
    (h : Ow w K G H d a) : Ow w K G' H' d a := by
  obtain ⟨o, e, h⟩ := h
  exact ⟨o, ha _ e, h.move hg ht hf⟩
/-- an owning slot that holds an object holds one that is tracked -/
theorem ER.owned (E : ER fr σ H ρ) {b : Addr} (h : Owned fr σ b) : ∃ o, H b = some o ∧ Mut (some o) ∧ (∀ xs, o ≠ .tup xs) ∧ ∀ ob u, o ≠ .frz ob u := by
  obtain ⟨i, hO, hs⟩ := h
  have hi : i < ρ.length := by
    rw [← E.len]
    exact (List.getElem?_eq_some_iff.mp hs).1
  cases e : ρ[i]? with
  | none => rw [List.getElem?_eq_none_iff] at e; omega
  | some x =>
    cases x with
    | none =>
      have := E.nn i hO e
      rw [hs] at this
      cases this
    | some d =>
      obtain ⟨a, h1, h2, _⟩ := E.ow i d e hO
      rw [hs] at h1
      cases h1
      exact h2.trk
theorem ER.free0 (E : ER fr σ H ρ) {b : Addr} (h : H b = none) : fr.F b = none := by
  cases e : fr.F b with
  | none => rfl
  | some o =>
    by_cases hs : fr.S b
    · obtain ⟨i, hP, hA⟩ := hs
      obtain ⟨hO, h1, d, hd⟩ := E.par i hP
      obtain ⟨o', h2, _⟩ := E.owned ⟨i, hO, hA ▸ h1⟩
      rw [h] at h2
      cases h2
    · have := E.step.k b o e hs
      rw [h] at this
      cases this
theorem ER.free (E : ER fr σ H ρ) {b : Addr} (h : H b = none) : Good fr σ b := by
  refine ⟨.inl (E.free0 h), fun z => ?_, fun z => ?_⟩
  · obtain ⟨o, h2, _⟩ := E.owned z
    rw [h] at h2
    cases h2
  · obtain ⟨⟨o, h2⟩, _⟩ := E.xt b z
    rw [h] at h2
    cases h2
/-- the heap has grown -/
theorem ER.same (E : ER fr σ H ρ) (e : Same H H') : ER fr σ H' ρ where
  len := E.len
  pl := fun i d h1 h2 => by
    obtain ⟨v, h3, h4⟩ := E.pl i d h1 h2
    exact ⟨v, h3, h4.same e⟩
  ow := fun i d h1 h2 => by
    obtain ⟨a, h3, h4, h5⟩ := E.ow i d h1 h2
    exact ⟨a, h3, h4.move (fun o q => e _ _ q) (fun b o g q => ⟨g, e _ _ q⟩) (fun b xs q => e _ _ q) (fun b o u q => e _ _ q), h5⟩
  nn := E.nn
  ne := E.ne
  par := E.par
  step := E.step.trans (Stp.same e)
  xt := fun b h => ⟨(E.xt b h).1.imp fun o q => e _ _ q, (E.xt b h).2⟩
theorem same_upd {H : Hp} {p : Addr} {o : HO} (h : H p = none) : Same H (upd H p o) := fun b x e => by
  rw [upd_ne (ne_of_none e h)]
  exact e
end
end DL
end
section
namespace DL
open PySem PySem.Spec L2
open PyProof.Rows hiding St

inductive Exn where
  | mk (cls : Str) (fs : List (Str × D))
/-- what a piece of the text gives: a result and the slots, an exception, or nothing is said -/
inductive Res (α : Type) where
  | ok (a : α) (ρ : Env) | exn (e : Exn) (ρ : Env) | stuck
abbrev M (α : Type) := Env → Res α
def Res.bind {α β : Type} : Res α → (α → M β) → Res β
  | .ok a ρ, f => f a ρ
  | .exn e ρ, _ => .exn e ρ
  | .stuck, _ => .stuck
@[simp] theorem Res.bind_ok {α β : Type} (a : α) (ρ : Env) (f : α → M β) : (Res.ok a ρ).bind f = f a ρ := rfl
@[simp] theorem Res.bind_exn {α β : Type} (e : Exn) (ρ : Env) (f : α → M β) : (Res.exn e ρ : Res α).bind f = .exn e ρ := rfl
@[simp] theorem Res.bind_stuck {α β : Type} (f : α → M β) : (Res.stuck : Res α).bind f = .stuck := rfl
def M.bind {α β : Type} (m : M α) (f : α → M β) : M β := fun ρ => (m ρ).bind f
def M.pure {α : Type} (a : α) : M α := fun ρ => .ok a ρ
def M.opt {α : Type} (o : Option α) : M α := fun ρ => match o with | some a => .ok a ρ | none => .stuck
@[simp] theorem M.bind_app {α β : Type} (m : M α) (f : α → M β) (ρ : Env) : M.bind m f ρ = (m ρ).bind f := rfl
@[simp] theorem M.pure_app {α : Type} (a : α) (ρ : Env) : M.pure a ρ = .ok a ρ := rfl
@[simp] theorem M.opt_some {α : Type} (a : α) (ρ : Env) : M.opt (some a) ρ = .ok a ρ := rfl
@[simp] theorem M.opt_none {α : Type} (ρ : Env) : (M.opt none : M α) ρ = .stuck := rfl

def wpR {α : Type} (r : Res α) (Qo : α → Env → Prop) (Qe : Exn → Env → Prop) : Prop := match r with
  | .ok a ρ => Qo a ρ
  | .exn e ρ => Qe e ρ
  | .stuck => False
theorem wpR.mono {α : Type} {r : Res α} {Qo Qo' : α → Env → Prop} {Qe Qe' : Exn → Env → Prop} (h : wpR r Qo Qe) (ho : ∀ a ρ, Qo a ρ → Qo' a ρ) (he : ∀ e ρ, Qe e ρ → Qe' e ρ) : wpR r Qo' Qe' := by
  cases r with
  | ok a ρ => exact ho a ρ h
  | exn e ρ => exact he e ρ h
  | stuck => exact h
theorem wpR.of_bind {α β : Type} {r : Res α} {f : α → M β} {Qo : β → Env → Prop} {Qe : Exn → Env → Prop} (h : wpR (r.bind f) Qo Qe) : wpR r (fun a ρ => wpR (f a ρ) Qo Qe) Qe := by
  cases r with
  | ok a ρ => exact h
  | exn e ρ => exact h
  | stuck => exact h

/-- how an exception stands -/
abbrev XR := Exn → Value → Option Addr → Hp → Prop
structure Fx extends Fr where
  ex : XR

section
variable (fr : Fx) (W : WX)
def Ex (σ : St) (e : Exn) (ρ : Env) : Prop := ∀ c dd H, ER fr.toFr σ H ρ → (∀ d, dd = some d → fr.F d = none) → fr.ex e c dd H → W c dd σ H
def Go (σ : St) (H : Hp) (r : Res D) (Q : VK) : Prop :=
  wpR r (fun d ρ' => ∀ v H', ER fr.toFr σ H' ρ' → Stp (Owned fr.toFr σ) H H' → Rp fr.K (Good fr.toFr σ) H' d v → Q v H') (Ex fr W σ)
/-- the reading of an expression -/
def tD (f : M D) : TE := fun σ H Q => ∃ ρ, ER fr.toFr σ H ρ ∧ Go fr W σ H (f ρ) Q
/-- .. of a test -/
def tDT (f : M Bool) : TT := fun σ H Q => ∃ ρ, ER fr.toFr σ H ρ ∧ wpR (f ρ) (fun b ρ' => ∀ H', ER fr.toFr σ H' ρ' → Stp (Owned fr.toFr σ) H H' → Q b H') (Ex fr W σ)
end
theorem pe_mono {X : Cx} {e : Expr} {t t' : TE} (h : PE X e t) (hi : ∀ σ H Q, t' σ H Q → t σ H Q) : PE X e t' := ⟨fun pins s σ H Q I q => h.run pins s σ H Q I (hi σ H Q q)⟩
theorem pt_mono {X : Cx} {e : Expr} {t t' : TT} (h : PT X e t) (hi : ∀ σ H Q, t' σ H Q → t σ H Q) : PT X e t' := ⟨fun pins s σ H Q I q => h.run pins s σ H Q I (hi σ H Q q)⟩
theorem pw_mono {X : Cx} {e : Expr} {t t' : TT} (h : PW X e t) (hi : ∀ σ H Q, t' σ H Q → t σ H Q) : PW X e t' := ⟨fun wh pins s σ H Q I q => h.run wh pins s σ H Q I (hi σ H Q q)⟩
theorem ps_mono {X : Cx} {e : Stmt} {t t' : TS} (h : PS X e t) (hi : ∀ D σ H, t' D σ H → t D σ H) : PS X e t' := ⟨fun pins s σ H D I q => h.run pins s σ H D I (hi D σ H q)⟩
theorem pss_mono {X : Cx} {e : List Stmt} {t t' : TS} (h : PSs X e t) (hi : ∀ D σ H, t' D σ H → t D σ H) : PSs X e t' := ⟨fun pins s σ H D I q => h.run pins s σ H D I (hi D σ H q)⟩

section
variable {fr : Fx} {W : WX} {σ : St} {H H1 H' : Hp} {ρ : Env} {Q : VK}
theorem Rp.stp {G : Addr → Prop} {O : Addr → Prop} (hO : ∀ b, G b → ¬ O b) (s : Stp O H H') {K : PySem.W.Frag} {d : D} {v : V} (h : Rp K G H d v) : Rp K G H' d v :=
  Rp.move (fun b o g q => ⟨g, s.k b o q (hO b g)⟩) s.t s.f d v h
theorem Rp.good (s : Stp (Owned fr.toFr σ) H H') {K : PySem.W.Frag} {d : D} {v : V} (h : Rp K (Good fr.toFr σ) H d v) : Rp K (Good fr.toFr σ) H' d v :=
  Rp.stp (fun b g => g.2.1) s h
theorem Go.stp {r : Res D} (h : Go fr W σ H r Q) (s : Stp (Owned fr.toFr σ) H H1) : Go fr W σ H1 r Q :=
  wpR.mono h (fun d ρ' q v H' e s' r => q v H' e (s.trans s') r) fun _ _ q => q
theorem Go.bind {f : M D} {g : D → M D} (h : Go fr W σ H ((f ρ).bind g) Q) :
    Go fr W σ H (f ρ) fun v H1 => ∃ d ρ1, ER fr.toFr σ H1 ρ1 ∧ Stp (Owned fr.toFr σ) H H1 ∧ Rp fr.K (Good fr.toFr σ) H1 d v ∧ Go fr W σ H1 (g d ρ1) Q :=
  wpR.mono (wpR.of_bind h) (fun d ρ1 q v H1 e s r => ⟨d, ρ1, e, s, r, Go.stp (show Go fr W σ H (g d ρ1) Q from q) s⟩) fun _ _ q => q

/-! ### arguments: values, places (owning slots, read when all are there) -/
inductive ArgM where
  | v (f : M D) | p (j : Nat)
def evalA : List ArgM → M (List (Option D))
  | [] => M.pure []
  | .v f :: r => f.bind fun d => (evalA r).bind fun ds => M.pure (some d :: ds)
  | .p j :: r => fun ρ => match ρ[j]? with
    | some (some _) => (evalA r ρ).bind fun ds => M.pure (none :: ds)
    | _ => .stuck
def fillA : List ArgM → List (Option D) → Env → Option (List D)
  | [], [], _ => some []
  | .v _ :: r, some d :: ds, ρ => (fillA r ds ρ).map (d :: ·)
  | .p j :: r, none :: ds, ρ => match ρ[j]? with
    | some (some d) => (fillA r ds ρ).map (d :: ·)
    | _ => none
  | _, _, _ => none
/-- the operands, then one operation on them -/
def appM (fs : List ArgM) (g : List D → Option D) : M D := (evalA fs).bind fun ods ρ => match fillA fs ods ρ with
  | some ds => M.opt (g ds) ρ
  | none => .stuck
def tArg (fr : Fx) (W : WX) : ArgM → TE
  | .v f => tD fr W f
  | .p j => tVar j
def tArgs (fr : Fx) (W : WX) : List ArgM → TA
  | [] => tNil
  | a :: r => tCons (tArg fr W a) (tArgs fr W r)
/-- an operand as it is read: the object itself may be owned -/
def Rs (w : World) (K : PySem.W.Frag) (G : Addr → Prop) (H : Hp) (d : D) (v : V) : Prop := match d with
  | .lst ds => ∃ a vs, v = .ref a ∧ ds.length ≤ sizeLine ∧ SqL K H a vs ∧ RpL K G H ds vs
  | .dct kvs => ∃ a, v = .ref a ∧ Ow w K G H (.dct kvs) a
  | .set ds => ∃ a, v = .ref a ∧ Ow w K G H (.set ds) a
  | d => Rp K G H d v
def RsL (w : World) (K : PySem.W.Frag) (G : Addr → Prop) (H : Hp) : List D → List V → Prop
  | [], vs => vs = []
  | d :: ds, vs => ∃ v r, vs = v :: r ∧ Rs w K G H d v ∧ RsL w K G H ds r
theorem Rp.rs {w : World} {K : PySem.W.Frag} {G : Addr → Prop} {d : D} {v : V} (h : Rp K G H d v) : Rs w K G H d v := by
  unfold Rs
  split
  · obtain ⟨a, vs, e, z, l, r⟩ := h.un_lst
    exact ⟨a, vs, e, z, l.seq, r⟩
  · simp only [Rp] at h
  · simp only [Rp] at h
  · exact h
theorem Ow.rs {w : World} {K : PySem.W.Frag} {G : Addr → Prop} {d : D} {a : Addr} (h : Ow w K G H d a) : Rs w K G H d (.ref a) := by
  obtain ⟨o, e, h⟩ := h
  have h0 := h
  unfold Ob at h
  split at h
  · obtain ⟨z, vs, rfl, r⟩ := h
    exact ⟨a, vs, rfl, z, .inl (.inl e), r⟩
  · exact ⟨a, rfl, o, e, h0⟩
  · exact ⟨a, rfl, o, e, h0⟩
  · exact h.elim
/-- values as they lie behind the evaluation of the arguments -/
def RpA (fr : Fx) (σ : St) (H : Hp) : List ArgM → List (Option D) → List V → Prop
  | [], ods, vs => ods = [] ∧ vs = []
  | .v _ :: r, ods, vs => ∃ d v os us, ods = some d :: os ∧ vs = v :: us ∧ Rp fr.K (Good fr.toFr σ) H d v ∧ RpA fr σ H r os us
  | .p j :: r, ods, vs => ∃ v os us, ods = none :: os ∧ vs = v :: us ∧ σ[j]? = some (some v) ∧ RpA fr σ H r os us
theorem tArgs_of : ∀ (fs : List ArgM) (H : Hp) (ρ : Env) (Q : List V → Hp → Prop), (∀ j, ArgM.p j ∈ fs → fr.O j = true) → ER fr.toFr σ H ρ →
    wpR (evalA fs ρ) (fun ods ρ' => ∀ vs H', ER fr.toFr σ H' ρ' → Stp (Owned fr.toFr σ) H H' → RpA fr σ H' fs ods vs → Q vs H') (Ex fr W σ) → tArgs fr W fs σ H Q
  | [], H, ρ, Q, hp, E, h => h [] H E Stp.refl ⟨rfl, rfl⟩
  | .v f :: r, H, ρ, Q, hp, E, h => by
    refine ⟨ρ, E, ?_⟩
    have h := wpR.of_bind (r := f ρ) h
    refine wpR.mono h (fun d ρ1 q v H1 E1 s1 r1 => ?_) fun _ _ q => q
    refine tArgs_of r H1 ρ1 _ (fun j hj => hp j (List.mem_cons_of_mem _ hj)) E1 ?_
    have q := wpR.of_bind (r := evalA r ρ1) q
    exact wpR.mono q (fun ods ρ2 q2 vs H2 E2 s2 r2 => q2 (v :: vs) H2 E2 (s1.trans s2) ⟨d, v, ods, vs, rfl, rfl, r1.good s2, r2⟩) fun _ _ q => q
  | .p j :: r, H, ρ, Q, hp, E, h => by
    have hO := hp j (List.mem_cons_self ..)
    simp only [evalA] at h
    split at h
    · rename_i d hd
      obtain ⟨a, h1, _⟩ := E.ow j d hd hO
      refine ⟨.ref a, h1, tArgs_of r H ρ _ (fun j hj => hp j (List.mem_cons_of_mem _ hj)) E ?_⟩
      have q := wpR.of_bind (r := evalA r ρ) h
      exact wpR.mono q (fun ods ρ2 q2 vs H2 E2 s2 r2 => q2 (.ref a :: vs) H2 E2 s2 ⟨.ref a, ods, vs, rfl, rfl, h1, r2⟩) fun _ _ q => q
    · exact h.elim
theorem rsL_of : ∀ (fs : List ArgM) (ods : List (Option D)) (vs : List V) (ds : List D), (∀ j, ArgM.p j ∈ fs → fr.O j = true) → ER fr.toFr σ H ρ → RpA fr σ H fs ods vs → fillA fs ods ρ = some ds → RsL fr.w fr.K (Good fr.toFr σ) H ds vs
  | [], ods, vs, ds, hp, E, h, hf => by
    obtain ⟨rfl, rfl⟩ := h
    simp only [fillA, Option.some.injEq] at hf
    subst hf
    exact rfl
  | .v f :: r, ods, vs, ds, hp, E, h, hf => by
    obtain ⟨d, v, os, us, rfl, rfl, h1, h2⟩ := h
    simp only [fillA, Option.map_eq_some_iff] at hf
    obtain ⟨ds', e, rfl⟩ := hf
    exact ⟨v, us, rfl, h1.rs, rsL_of r os us ds' (fun j hj => hp j (List.mem_cons_of_mem _ hj)) E h2 e⟩
  | .p j :: r, ods, vs, ds, hp, E, h, hf => by
    obtain ⟨v, os, us, rfl, rfl, h1, h2⟩ := h
    simp only [fillA] at hf
    split at hf
    · rename_i d hd
      rw [Option.map_eq_some_iff] at hf
      obtain ⟨ds', e, rfl⟩ := hf
      obtain ⟨a, h3, h4, _⟩ := E.ow j d hd (hp j (List.mem_cons_self ..))
      rw [h1] at h3
      cases h3
      exact ⟨_, us, rfl, h4.rs, rsL_of r os us ds' (fun j hj => hp j (List.mem_cons_of_mem _ hj)) E h2 e⟩
    · cases hf
/-- an operation on values does what g says -/
def AppD (w : World) (K : PySem.W.Frag) (g : List D → Option D) (r : List V → Hp → VK → Prop) : Prop := ∀ (G : Addr → Prop) (ds : List D) (vs : List V) (d : D) (H : Hp) (Q : VK), (∀ b, H b = none → G b) → g ds = some d → RsL w K G H ds vs →
  (∀ v H', Same H H' → Rp K G H' d v → Q v H') → r vs H Q
theorem app_of {fs : List ArgM} {g : List D → Option D} {r : List V → Hp → VK → Prop} (hp : ∀ j, ArgM.p j ∈ fs → fr.O j = true) (hg : AppD fr.w fr.K g r) (h : tD fr W (appM fs g) σ H Q) :
    tArgs fr W fs σ H fun vs H' => r vs H' Q := by
  obtain ⟨ρ, E, h⟩ := h
  have h := wpR.of_bind (r := evalA fs ρ) h
  refine tArgs_of fs H ρ _ hp E (wpR.mono h (fun ods ρ1 q vs H1 E1 s1 r1 => ?_) fun _ _ q => q)
  split at q
  · rename_i ds hds
    cases hgd : g ds with
    | none =>
      rw [hgd] at q
      exact q.elim
    | some d =>
      rw [hgd] at q
      exact hg _ ds vs d H1 Q (fun b hb => E1.free hb) hgd (rsL_of fs ods vs ds hp E1 r1 hds) fun v H' s r => q v H' (E1.same s) (s1.trans (Stp.same s)) r
  · exact q.elim
end
end DL
end
section
namespace DL
open PySem PySem.Spec L2
open PyProof.Rows hiding St

/-! ### operands and judgements -/
abbrev DE (X : Cx) (fr : Fx) (W : WX) (e : Expr) (f : M D) : Prop := PE X e (tD fr W f)
abbrev DT (X : Cx) (fr : Fx) (W : WX) (e : Expr) (f : M Bool) : Prop := PT X e (tDT fr W f)
def Pl (fr : Fx) (fs : List ArgM) : Prop := ∀ j, ArgM.p j ∈ fs → fr.O j = true
structure DA (X : Cx) (fr : Fx) (W : WX) (e : Expr) (a : ArgM) : Prop where
  e : PE X e (tArg fr W a)
  p : Pl fr [a]
structure DAs (X : Cx) (fr : Fx) (W : WX) (es : List Expr) (fs : List ArgM) : Prop where
  e : PA X es (tArgs fr W fs)
  p : Pl fr fs
section
variable {X : Cx} {fr : Fx} {W : WX} {e a b c : Expr} {es : List Expr} {fa fb fc : ArgM} {fs : List ArgM} {f : M D} {pos : Pos}
theorem Pl.nil : Pl fr [] := fun j h => by cases h
theorem Pl.v : Pl fr [.v f] := fun j h => by
  rcases List.mem_cons.mp h with h | h
  · cases h
  · cases h
theorem Pl.cons (h : Pl fr [fa]) (h' : Pl fr fs) : Pl fr (fa :: fs) := fun j hj => by
  rcases List.mem_cons.mp hj with e | e
  · exact h j (by rw [e]; exact List.mem_cons_self ..)
  · exact h' j e
theorem DA.v (h : DE X fr W e f) : DA X fr W e (.v f) := ⟨h, Pl.v⟩
theorem DA.pl {i : Nat} {x : Str} (hO : fr.O i = true) (hN : X.N[i]? = some x) (hv : Vis X.env.scope x) (hd : (x == ("__debug__" : Str)) = false := by decide) (hcd : (x == ("__classdict__" : Str)) = false := by decide) : DA X fr W (.Name x pos) (.p i) :=
  ⟨pe_var hN hv hd hcd, fun j h => by
    rcases List.mem_cons.mp h with h | h
    · cases h; exact hO
    · cases h⟩
theorem DAs.nil : DAs X fr W [] [] := ⟨pa_nil, Pl.nil⟩
theorem DAs.cons (ha : DA X fr W a fa) (hr : DAs X fr W es fs) (hs : starEach (a :: es) X.env = (false, eval a X.env) :: starEach es X.env := by rfl) : DAs X fr W (a :: es) (fa :: fs) :=
  ⟨pa_cons ha.e hr.e hs, ha.p.cons hr.p⟩

/-! ### constants and names -/
def eC (d : D) : M D := M.pure d
def eV (i : Nat) : M D := fun ρ => match ρ[i]? with
  | some (some d) => .ok d ρ
  | _ => .stuck
@[simp] theorem eC_app (d : D) (ρ : Env) : eC d ρ = .ok d ρ := rfl
theorem de_of_tC {v : V} {d : D} (h : PE X e (tC v)) (hr : ∀ G H, Rp fr.K G H d v) : DE X fr W e (eC d) :=
  pe_mono h fun σ H Q ⟨ρ, E, h⟩ => h v H E Stp.refl (hr _ _)
theorem de_int {i j pos} : DE X fr W (.Constant (.int i) j pos) (eC (.int i)) := de_of_tC pe_int fun _ _ => by simp only [Rp]
theorem de_bl {b j pos} : DE X fr W (.Constant (.bool b) j pos) (eC (.bl b)) := de_of_tC pe_bl fun _ _ => by simp only [Rp]
theorem de_non {j pos} : DE X fr W (.Constant .none j pos) (eC .non) := de_of_tC pe_non fun _ _ => by simp only [Rp]
theorem de_str {x j pos} (hx : x.length ≤ 16777216 := by decide +kernel) : DE X fr W (.Constant (.str x) j pos) (eC (.str x)) := de_of_tC pe_str fun _ _ => by simp only [Rp]; exact ⟨trivial, by rw [sizeLine_eq]; exact hx⟩
theorem de_var {i : Nat} {x : Str} (hO : fr.O i = false) (hN : X.N[i]? = some x) (hv : Vis X.env.scope x) (hd : (x == ("__debug__" : Str)) = false := by decide) (hcd : (x == ("__classdict__" : Str)) = false := by decide) : DE X fr W (.Name x pos) (eV i) :=
  pe_mono (pe_var hN hv hd hcd) fun σ H Q ⟨ρ, E, h⟩ => by
    unfold eV at h
    split at h
    · rename_i d hd
      obtain ⟨v, h1, h2⟩ := E.pl i d hd hO
      exact ⟨v, h1, h v H E Stp.refl h2⟩
    · exact h.elim
/-- a constant of the module -/
theorem de_glob {x : Str} {v : V} {u : Value} {d : D} (hg : Gl X x) (hm : X.mg x = some u) (r : RelV v u) (hr : ∀ G H, Rp fr.K G H d v) (hd : (x == ("__debug__" : Str)) = false := by decide) : DE X fr W (.Name x pos) (eC d) :=
  de_of_tC (pe_glob hg hm r hd) hr
theorem de_ty {x : Str} {n : String} (hg : Gl X x) (hm : X.mg x = none) (hv : bootBuiltins x = some (.type n)) (hn : x ≠ "__name__" := by decide) (hd : (x == ("__debug__" : Str)) = false := by decide) : DE X fr W (.Name x pos) (eC (.ty n)) :=
  de_of_tC (pe_bltn (v := .ty n) hg hm hv rfl hn hd) fun _ _ => by simp only [Rp]

/-! ### operators -/
def r1 (r : V → Hp → VK → Prop) : List V → Hp → VK → Prop := fun vs H Q => match vs with
  | [x] => r x H Q
  | _ => False
def r2 (r : R2) : List V → Hp → VK → Prop := fun vs H Q => match vs with
  | [x, y] => r x y H Q
  | _ => False
theorem de_op {op : Operator} {r : R2} {g : List D → Option D} (ho : OpR X (binaryOp op) r) (hg : AppD X.w X.K g (r2 r)) (ha : DA X fr W a fa) (hb : DA X fr W b fb) (hk : fr.K = X.K := by rfl) (hw : fr.w = X.w := by rfl) : DE X fr W (.BinOp a op b pos) (appM [fa, fb] g) :=
  pe_mono (pe_op ho ha.e hb.e) fun σ H Q h => app_of (fs := [fa, fb]) (r := r2 r) (ha.p.cons hb.p) (hk ▸ hw ▸ hg) h
theorem de_un {op : UnaryOp} {r : V → Hp → VK → Prop} {g : List D → Option D} (ho : UnR X (unaryOp op) r) (hg : AppD X.w X.K g (r1 r)) (ha : DA X fr W a fa) (hk : fr.K = X.K := by rfl) (hw : fr.w = X.w := by rfl) : DE X fr W (.UnaryOp op a pos) (appM [fa] g) :=
  pe_mono (pe_un ho ha.e) fun σ H Q h => app_of (fs := [fa]) (r := r1 r) ha.p (hk ▸ hw ▸ hg) h
theorem de_cmp {op : CmpOp} {r : R2} {g : List D → Option D} (ho : OpR X (compareOp op) r) (hg : AppD X.w X.K g (r2 r)) (ha : DA X fr W a fa) (hb : DA X fr W b fb) (hm : behindInMarks op b = false) (hk : fr.K = X.K := by rfl) (hw : fr.w = X.w := by rfl) : DE X fr W (.Compare a [op] [b] pos) (appM [fa, fb] g) :=
  pe_mono (pe_cmpR ho ha.e hb.e hm) fun σ H Q h => app_of (fs := [fa, fb]) (r := r2 r) (ha.p.cons hb.p) (hk ▸ hw ▸ hg) h
theorem de_ix {r : R2} {g : List D → Option D} (ho : IxR X r) (hg : AppD X.w X.K g (r2 r)) (ha : DA X fr W a fa) (hb : DA X fr W b fb) (hs : PlainIx b) (hk : fr.K = X.K := by rfl) (hw : fr.w = X.w := by rfl) : DE X fr W (.Subscript a b pos) (appM [fa, fb] g) :=
  pe_mono (pe_ix ho ha.e hb.e hs) fun σ H Q h => app_of (fs := [fa, fb]) (r := r2 r) (ha.p.cons hb.p) (hk ▸ hw ▸ hg) h
theorem de_callB {x : Str} {id : String} {p : Pos} {r : List V → Hp → VK → Prop} {g : List D → Option D} (hc : CallR X (.builtin id) r) (hg : AppD X.w X.K g r) (hx : Gl X x) (hm : X.mg x = none) (hv : bootBuiltins x = some (.builtin id))
    (ha : DAs X fr W (e :: es) fs) (hn : x ≠ "__name__" := by decide) (hdb : (x == ("__debug__" : Str)) = false := by decide)
    (he : starEach (e :: es) X.env = (false, eval e X.env) :: starEach es X.env := by rfl) (hpl : (backTo pos (starEach es X.env)).any (·.1) = false := by rfl) (hk : fr.K = X.K := by rfl) (hw : fr.w = X.w := by rfl) : DE X fr W (.Call (.Name x p) (e :: es) [] pos) (appM fs g) :=
  pe_mono (pe_callB hc hx hm hv ha.e hn hdb he hpl) fun σ H Q h => app_of ha.p (hk ▸ hw ▸ hg) h
theorem de_callTy {x : Str} {T : String} {p : Pos} {r : List V → Hp → VK → Prop} {g : List D → Option D} (hc : CallR X (.type T) r) (hg : AppD X.w X.K g r) (hx : Gl X x) (hm : X.mg x = none) (hv : bootBuiltins x = some (.type T))
    (ha : DAs X fr W (e :: es) fs) (hn : x ≠ "__name__" := by decide) (hdb : (x == ("__debug__" : Str)) = false := by decide)
    (he : starEach (e :: es) X.env = (false, eval e X.env) :: starEach es X.env := by rfl) (hpl : (backTo pos (starEach es X.env)).any (·.1) = false := by rfl) (hk : fr.K = X.K := by rfl) (hw : fr.w = X.w := by rfl) : DE X fr W (.Call (.Name x p) (e :: es) [] pos) (appM fs g) :=
  pe_mono (pe_callTy hc hx hm hv ha.e hn hdb he hpl) fun σ H Q h => app_of ha.p (hk ▸ hw ▸ hg) h
end
end DL
end
section
namespace DL
open PySem PySem.Spec L2
open PyProof.Rows hiding St

/-! ### what stands behind operands -/
section
variable {w : World} {K : PySem.W.Frag} {G : Addr → Prop} {H H' : Hp} {a b c : D} {vs : List V} {ds es : List D} {p : Addr}
theorem rsl0 (h : RsL w K G H [] vs) : vs = [] := h
theorem rsl1 (h : RsL w K G H [a] vs) : ∃ x, vs = [x] ∧ Rs w K G H a x := by
  obtain ⟨x, r, rfl, h1, rfl⟩ := h
  exact ⟨x, rfl, h1⟩
theorem rsl2 (h : RsL w K G H [a, b] vs) : ∃ x y, vs = [x, y] ∧ Rs w K G H a x ∧ Rs w K G H b y := by
  obtain ⟨x, r, rfl, h1, h2⟩ := h
  obtain ⟨y, rfl, h3⟩ := rsl1 h2
  exact ⟨x, y, rfl, h1, h3⟩
theorem rsl3 (h : RsL w K G H [a, b, c] vs) : ∃ x y z, vs = [x, y, z] ∧ Rs w K G H a x ∧ Rs w K G H b y ∧ Rs w K G H c z := by
  obtain ⟨x, r, rfl, h1, h2⟩ := h
  obtain ⟨y, z, rfl, h3, h4⟩ := rsl2 h2
  exact ⟨x, y, z, rfl, h1, h3, h4⟩
theorem Rs.int {i : Int} {v : V} (h : Rs w K G H (.int i) v) : v = .int i := by simpa only [Rs, Rp] using h
theorem Rs.strL {x : Str} {v : V} (h : Rs w K G H (.str x) v) : v = .str x ∧ x.length ≤ sizeLine := by simpa only [Rs, Rp] using h
theorem Rs.str {x : Str} {v : V} (h : Rs w K G H (.str x) v) : v = .str x := h.strL.1
theorem Rs.bl {x : Bool} {v : V} (h : Rs w K G H (.bl x) v) : v = .bl x := by simpa only [Rs, Rp] using h
theorem Rs.non {v : V} (h : Rs w K G H .non v) : v = .non := by simpa only [Rs, Rp] using h
theorem Rs.ty {n : String} {v : V} (h : Rs w K G H (.ty n) v) : v = .ty n := by simpa only [Rs, Rp] using h
theorem Rs.lstL {v : V} (h : Rs w K G H (.lst ds) v) : ∃ a vs, v = .ref a ∧ ds.length ≤ sizeLine ∧ SqL K H a vs ∧ RpL K G H ds vs := h
theorem Rs.lst {v : V} (h : Rs w K G H (.lst ds) v) : ∃ a vs, v = .ref a ∧ SqL K H a vs ∧ RpL K G H ds vs := by
  obtain ⟨a, vs, e, _, s, r⟩ := h.lstL
  exact ⟨a, vs, e, s, r⟩
theorem Rs.llen {v : V} (h : Rs w K G H (.lst ds) v) : ds.length ≤ sizeLine := by
  obtain ⟨a, vs, e, z, s, r⟩ := h.lstL
  exact z
theorem Rs.tupL {v : V} (h : Rs w K G H (.tup ds) v) : ∃ a vs, v = .ref a ∧ ds.length ≤ sizeLine ∧ SqT K H a vs ∧ RpL K G H ds vs := by simpa only [Rs, Rp] using h
theorem Rs.tup {v : V} (h : Rs w K G H (.tup ds) v) : ∃ a vs, v = .ref a ∧ SqT K H a vs ∧ RpL K G H ds vs := by
  obtain ⟨a, vs, e, _, s, r⟩ := h.tupL
  exact ⟨a, vs, e, s, r⟩
theorem Rs.tlen {v : V} (h : Rs w K G H (.tup ds) v) : ds.length ≤ sizeLine := by
  obtain ⟨a, vs, e, z, s, r⟩ := h.tupL
  exact z
theorem rp_int {i : Int} : Rp K G H (.int i) (.int i) := by simp only [Rp]
theorem rp_str {x : Str} (h : x.length ≤ sizeLine) : Rp K G H (.str x) (.str x) := by simp only [Rp]; exact ⟨trivial, h⟩
theorem rp_bl {x : Bool} : Rp K G H (.bl x) (.bl x) := by simp only [Rp]
theorem rp_non : Rp K G H .non .non := by simp only [Rp]
theorem newL (hG : ∀ b, H b = none → G b) (z : ds.length ≤ sizeLine) (r : RpL K G H ds vs) (hp : H p = none) : Rp K G (upd H p (.lst vs)) (.lst ds) (.ref p) :=
  Rp.lst z (.inl ⟨hG p hp, .inl upd_same⟩) (RpL.same (same_upd hp) r)
theorem newT (z : ds.length ≤ sizeLine) (r : RpL K G H ds vs) (hp : H p = none) : Rp K G (upd H p (.tup vs)) (.tup ds) (.ref p) :=
  Rp.tup z (.inl (.inl upd_same)) (RpL.same (same_upd hp) r)
theorem RpL.ints : ∀ {ns : List Int} {vs : List V}, RpL K G H (ns.map D.int) vs → vs = ns.map V.int
  | [], vs, h => by simpa only [List.map_nil, RpL] using h
  | n :: ns, vs, h => by
    obtain ⟨v, r, rfl, h1, h2⟩ := RpL.uncons h
    simp only [Rp] at h1
    subst h1
    rw [RpL.ints h2]
    rfl
theorem RpL.strs : ∀ {ns : List Str} {vs : List V}, RpL K G H (ns.map D.str) vs → vs = ns.map V.str
  | [], vs, h => by simpa only [List.map_nil, RpL] using h
  | n :: ns, vs, h => by
    obtain ⟨v, r, rfl, h1, h2⟩ := RpL.uncons h
    simp only [Rp] at h1
    obtain ⟨h1, _⟩ := h1
    subst h1
    rw [RpL.strs h2]
    rfl
theorem RpL.bls : ∀ {ns : List Bool} {vs : List V}, RpL K G H (ns.map D.bl) vs → vs = ns.map V.bl
  | [], vs, h => by simpa only [List.map_nil, RpL] using h
  | n :: ns, vs, h => by
    obtain ⟨v, r, rfl, h1, h2⟩ := RpL.uncons h
    simp only [Rp] at h1
    subst h1
    rw [RpL.bls h2]
    rfl
theorem rpl_strs : ∀ {ns : List Str}, (∀ z ∈ ns, z.length ≤ sizeLine) → RpL K G H (ns.map D.str) (ns.map V.str)
  | [], _ => RpL.nil
  | n :: ns, h => RpL.cons (rp_str (h n (List.mem_cons_self ..))) (rpl_strs fun z hz => h z (List.mem_cons_of_mem _ hz))
theorem RpL.strLen : ∀ {ns : List Str} {vs : List V}, RpL K G H (ns.map D.str) vs → ∀ z ∈ ns, z.length ≤ sizeLine
  | [], _, _, z, hz => by cases hz
  | n :: ns, vs, h, z, hz => by
    obtain ⟨v, r, rfl, h1, h2⟩ := RpL.uncons h
    simp only [Rp] at h1
    rcases List.mem_cons.mp hz with rfl | hz
    · exact h1.2
    · exact RpL.strLen h2 z hz
theorem rpl_ints : ∀ {ns : List Int}, RpL K G H (ns.map D.int) (ns.map V.int)
  | [] => RpL.nil
  | n :: ns => RpL.cons rp_int rpl_ints
end

section
variable {X : Cx} {f : Value → Value → Sem Value} {r r' : R2}
theorem OpR.or (h : OpR X f r) (h' : OpR X f r') : OpR X f (fun x y H Q => r x y H Q ∨ r' x y H Q) := by
  intro pins s σ H x y v u Q I rx ry q
  rcases q with q | q
  · exact h pins s σ H x y v u Q I rx ry q
  · exact h' pins s σ H x y v u Q I rx ry q
theorem CallR.or {f : Value} {r r' : List V → Hp → VK → Prop} (h : CallR X f r) (h' : CallR X f r') : CallR X f (fun xs H Q => r xs H Q ∨ r' xs H Q) := by
  intro pins s σ H xs us Q I rx q
  rcases q with q | q
  · exact h pins s σ H xs us Q I rx q
  · exact h' pins s σ H xs us Q I rx q
/-- two lists, whatever they are -/
def rCatL (K : PySem.W.Frag) : R2 := fun x y H Q => ∃ a b xs ys, x = .ref a ∧ y = .ref b ∧ SqL K H a xs ∧ SqL K H b ys ∧ xs.length + ys.length ≤ sizeLine ∧ ∀ p, H p = none → Q (.ref p) (upd H p (.lst (xs ++ ys)))
theorem op_catL : OpR X (binaryOp .Add) (rCatL X.K) := by
  intro pins s σ H x y v u Q I rx ry h
  obtain ⟨l, b, xs, ys, rfl, rfl, h1, h2, hz, q⟩ := h
  cases rx
  cases ry
  obtain ⟨its, r1, p1, z1⟩ := I.list h1
  obtain ⟨its2, r2, p2, z2⟩ := I.list h2
  obtain ⟨⟨cls, dd, data, sl⟩, n, ho, hc, hdn, hd⟩ := p1
  obtain ⟨⟨cls2, dd2, data2, sl2⟩, n2, ho2, hc2, hdn2, hd2⟩ := p2
  simp only at hc hd hc2 hd2 hdn hdn2
  subst hc hd hc2 hd2 hdn hdn2
  have e : its.toArray ++ its2.toArray = (its ++ its2).toArray := by simp
  have l1 := r1.length
  have l2 := r2.length
  refine concat_meets ⟨_, ho, rfl⟩ ⟨_, ho2, rfl⟩ noFill_list_add seq_list_add PySem.F.slot_list_add PySem.F.entry_list_add (PySem.F.args_list_add_2 _ _) (list_addW l b its.toArray its2.toArray n n2 none none sl sl2 (by simp; omega)) ⟨ho, ho2, ?_⟩
  rw [e]
  exact ⟨.ref _, _, I.lnew (t' := s.toks) (r1.append r2) (by rw [List.length_append]; omega), rfl, q _ I.fresh⟩
/-- a text some times -/
theorem foldl_app (x : Array Nat) : ∀ (n : Nat) (a : Array Nat), ((List.replicate n x).foldl (· ++ ·) a).toList = a.toList ++ (List.replicate n x.toList).flatten
  | 0, a => by simp
  | n + 1, a => by
    rw [List.replicate_succ, List.foldl_cons, foldl_app x n, List.replicate_succ, List.flatten_cons, Array.toList_append, List.append_assoc]
def rMulS : R2 := fun x y H Q => ∃ (z : Str) (k : Int), x = .str z ∧ y = .int k ∧ 2 ≤ k ∧ k ≤ 1000000 ∧ 1 ≤ z.length ∧ z.length ≤ 1000000 ∧ z.length * k.toNat ≤ sizeLine ∧ Q (.str ⟨(List.replicate k.toNat z.cps.toList).flatten.toArray⟩) H
theorem op_mulS : OpR X (binaryOp .Mult) rMulS := by
  intro pins s σ H x y v u Q I rx ry h
  obtain ⟨z, k, rfl, rfl, h1, h2, h3, h4, h5, q⟩ := h
  obtain ⟨t, rfl⟩ := rx
  obtain ⟨t', rfl⟩ := ry
  have e : (⟨(List.replicate k.toNat z.cps).foldl (· ++ ·) #[]⟩ : Str) = ⟨(List.replicate k.toNat z.cps.toList).flatten.toArray⟩ := by
    congr 1
    apply Array.ext'
    rw [foldl_app]
    simp
  have hsl := sizeLine_eq
  refine PySem.P.mul_str (by rw [decide_eq_false (by omega), decide_eq_false (by omega)]; rfl) (fun _ _ => ?_) (fun _ _ => ?_) ?_
  · have : (z.length : Int) ≤ (2 ^ 63 - 1) / k := by
      rw [Int.le_ediv_iff_mul_le (by omega)]
      have : (z.length : Int) * k ≤ 1000000 * 1000000 := Int.mul_le_mul (by omega) h2 (by omega) (by omega)
      omega
    omega
  · unfold PySem.Builtin.Str.tooLong
    simp only [decide_eq_false_iff_not]
    omega
  · rw [if_neg (by omega), if_neg (by simp; omega), e]
    refine ⟨?_, ⟨.str _, H, I.tok _, ⟨_, rfl⟩, q⟩⟩
    show (List.replicate k.toNat z.cps.toList).flatten.toArray.size ≤ sizeLine
    rw [List.size_toArray, List.length_flatten, List.map_replicate, List.sum_replicate_nat, Array.length_toList, Nat.mul_comm]
    exact h5
end
end DL
end
section
namespace DL
open PySem PySem.Spec L2
open PyProof.Rows hiding St

def D.flat : D → Bool
  | .non => true | .bl _ => true | .int _ => true | .str _ => true | _ => false
mutual
def D.isPy : D → Bool
  | .non => true | .bl _ => true | .int _ => true | .str _ => true
  | .tup xs => D.isPyL xs | .lst xs => D.isPyL xs | _ => false
def D.isPyL : List D → Bool
  | [] => true
  | x :: xs => x.isPy && D.isPyL xs
end
mutual
def D.toPy : D → PyData
  | .non => .none | .bl b => .bool b | .int i => .int i | .str x => .str x
  | .tup xs => .tuple (D.toPyL xs) | .lst xs => .list (D.toPyL xs) | _ => .none
def D.toPyL : List D → List PyData
  | [] => []
  | x :: xs => x.toPy :: D.toPyL xs
end
/-- Python's == -/
def eqB (a b : D) : Bool := PyData.eqv a.toPy b.toPy
def okEq (a b : D) : Bool := (a.flat && b.flat) || (a.isPy && b.isPy && SeqAt.shaped a.toPy && SeqAt.shaped b.toPy)
section
variable {w : World} {K : PySem.W.Frag} {G : Addr → Prop} {H : Hp}
mutual
theorem Rp.dp : ∀ (d : D) (v : V), Rp K G H d v → d.isPy = true → Dp K H v d.toPy
  | .non, v, h, _ => by
    simp only [Rp] at h
    subst h
    exact .non
  | .bl b, v, h, _ => by
    simp only [Rp] at h
    subst h
    exact .bl b
  | .int b, v, h, _ => by
    simp only [Rp] at h
    subst h
    exact .int b
  | .str b, v, h, _ => by
    simp only [Rp] at h
    obtain ⟨h, _⟩ := h
    subst h
    exact .str b
  | .tup xs, v, h, p => by
    obtain ⟨a, vs, rfl, _, s, r⟩ := h.un_tup
    exact .tup s (RpL.dp xs vs r (by simpa only [D.isPy] using p))
  | .lst xs, v, h, p => by
    obtain ⟨a, vs, rfl, _, s, r⟩ := h.un_lst
    exact .lst s.seq (RpL.dp xs vs r (by simpa only [D.isPy] using p))
  | .ty n, v, h, p => by simp [D.isPy] at p
  | .dct n, v, h, p => by simp [D.isPy] at p
  | .set n, v, h, p => by simp [D.isPy] at p
  | .exc _ _ _ _, v, h, p => by simp [D.isPy] at p
theorem RpL.dp : ∀ (ds : List D) (vs : List V), RpL K G H ds vs → D.isPyL ds = true → DpAll K H vs (D.toPyL ds)
  | [], vs, h, _ => by
    simp only [RpL] at h
    subst h
    exact .nil
  | d :: ds, vs, h, p => by
    obtain ⟨v, r, rfl, h1, h2⟩ := RpL.uncons h
    simp only [D.isPyL, Bool.and_eq_true] at p
    exact .cons (Rp.dp d v h1 p.1) (RpL.dp ds r h2 p.2)
end
theorem Rs.dp {d : D} {v : V} (h : Rs w K G H d v) (p : d.isPy = true) : Dp K H v d.toPy := by
  cases d with
  | lst xs =>
    obtain ⟨a, vs, rfl, s, r⟩ := h.lst
    exact .lst s (RpL.dp xs vs r (by simpa only [D.isPy] using p))
  | dct n => simp [D.isPy] at p
  | set n => simp [D.isPy] at p
  | _ => exact Rp.dp (G := G) _ v h p
theorem Rs.fv {d : D} {v : V} (h : Rs w K G H d v) (p : d.flat = true) : v = d.fv := by
  cases d with
  | non => exact h.non
  | bl b => exact h.bl
  | int b => exact h.int
  | str b => exact h.str
  | _ => cases p
theorem Rp.fv {d : D} {v : V} (h : Rp K G H d v) (p : d.flat = true) : v = d.fv := by
  cases d <;> first | exact (Bool.false_ne_true p).elim | exact (by simp only [Rp] at h; exact h) | exact (by simp only [Rp] at h; exact h.1)
theorem RpL.fv : ∀ {ds : List D} {vs : List V}, RpL K G H ds vs → ds.all D.flat = true → vs = ds.map D.fv
  | [], vs, h, _ => by simpa only [List.map_nil, RpL] using h
  | n :: ns, vs, h, p => by
    obtain ⟨v, r, rfl, h1, h2⟩ := RpL.uncons h
    rw [List.all_cons, Bool.and_eq_true] at p
    rw [RpL.fv h2 p.2, h1.fv p.1]
    rfl
theorem fv_flat (d : D) : flatV d.fv = true := by cases d <;> rfl
theorem eqV_fv : ∀ (a b : D), a.flat = true → b.flat = true → eqV a.fv b.fv = eqB a b := by
  intro a b ha hb
  cases a <;> first | exact (Bool.false_ne_true ha).elim | (cases b <;> first | exact (Bool.false_ne_true hb).elim | (simp [D.fv, eqV, eqB, D.toPy, PyData.eqv]))
theorem shaped_flat : ∀ (a : D), a.flat = true → (∀ x, a ≠ .str x) → SeqAt.shaped a.toPy = true := by
  intro a ha hx
  cases a <;> first | exact (Bool.false_ne_true ha).elim | exact absurd rfl (hx _) | rfl
theorem scal_fv : ∀ (a b : D), a.flat = true → b.flat = true → (scal a.fv b.fv = true ∧ decide (a.fv = b.fv) = eqB a b) ∨ ((∀ x, a ≠ .str x) ∧ ∀ x, b ≠ .str x) := by
  intro a b ha hb
  cases a <;> first | exact (Bool.false_ne_true ha).elim | (cases b <;> first | exact (Bool.false_ne_true hb).elim | (left; refine ⟨rfl, ?_⟩; simp [D.fv, eqB, D.toPy, PyData.eqv, Bool.beq_eq_decide_eq]; done) | (right; constructor <;> (intro x z; cases z)))
end

/-! ### what the operators say -/
def lenOk (n : Nat) : Bool := decide (n ≤ 16777216)
theorem lenOk_iff {n : Nat} : lenOk n = true ↔ n ≤ sizeLine := by rw [sizeLine_eq]; exact decide_eq_true_iff
def addD : List D → Option D
  | [.int i, .int j] => some (.int (i + j))
  | [.str x, .str y] => if lenOk (x.length + y.length) then some (.str (x ++ y)) else none
  | [.tup x, .tup y] => if lenOk (x.length + y.length) then some (.tup (x ++ y)) else none
  | [.lst x, .lst y] => if lenOk (x.length + y.length) then some (.lst (x ++ y)) else none
  | _ => none
def subD : List D → Option D
  | [.int i, .int j] => some (.int (i - j))
  | _ => none
def mulD : List D → Option D
  | [.int i, .int j] => if decide (i.natAbs < 2 ^ 64) || decide (j.natAbs < 2 ^ 64) then some (.int (i * j)) else none
  | [.str z, .int k] => if decide (2 ≤ k) && decide (k ≤ 1000000) && decide (1 ≤ z.length) && decide (z.length ≤ 1000000) && lenOk (z.length * k.toNat) then some (.str ⟨(List.replicate k.toNat z.cps.toList).flatten.toArray⟩) else none
  | _ => none
def fdivD : List D → Option D
  | [.int i, .int j] => if decide (0 < j) && decide (j < 1073741824) then some (.int (i / j)) else none
  | _ => none
def modD : List D → Option D
  | [.int i, .int j] => if decide (0 < j) then some (.int (i % j)) else none
  | _ => none
def powD : List D → Option D
  | [.int i, .int j] => if decide (0 ≤ j) && decide (j ≤ 1000000) && decide (i.natAbs < 2 ^ 64) then some (.int (i ^ j.toNat)) else none
  | _ => none
def negD : List D → Option D
  | [.int i] => some (.int (-i))
  | _ => none
def eqD : List D → Option D
  | [a, b] => if okEq a b then some (.bl (eqB a b)) else none
  | _ => none
def neD : List D → Option D
  | [a, b] => if okEq a b then some (.bl (!eqB a b)) else none
  | _ => none
def ltS (x y : Str) : Bool := decide (x.cps.toList < y.cps.toList)
def ltD : List D → Option D
  | [.int i, .int j] => some (.bl (decide (i < j)))
  | [.str x, .str y] => some (.bl (ltS x y))
  | _ => none
def leD : List D → Option D
  | [.int i, .int j] => some (.bl (decide (i ≤ j)))
  | [.str x, .str y] => some (.bl (!ltS y x))
  | _ => none
def gtD : List D → Option D
  | [.int i, .int j] => some (.bl (decide (j < i)))
  | [.str x, .str y] => some (.bl (ltS y x))
  | _ => none
def geD : List D → Option D
  | [.int i, .int j] => some (.bl (decide (j ≤ i)))
  | [.str x, .str y] => some (.bl (!ltS x y))
  | _ => none
def isD : List D → Option D
  | [.bl a, .bl b] => some (.bl (decide (a = b)))
  | [.non, .non] => some (.bl true)
  | [.bl _, .non] => some (.bl false)
  | [.int _, .non] => some (.bl false)
  | [.str _, .non] => some (.bl false)
  | [.tup _, .non] => some (.bl false)
  | [.lst _, .non] => some (.bl false)
  | _ => none
def notD1 : Option D → Option D
  | some (.bl b) => some (.bl (!b))
  | _ => none
def isNotD (l : List D) : Option D := notD1 (isD l)
/-- x in a tuple, a list, one sign in a text -/
def inD : List D → Option D
  | [x, .tup ys] => if x.flat && ys.all D.flat then some (.bl (ys.any fun y => eqB y x)) else none
  | [x, .lst ys] => if (x.flat && ys.all D.flat) || (x.isPy && D.isPyL ys && SeqAt.shaped x.toPy && SeqAt.shaped (.list (D.toPyL ys))) then some (.bl (ys.any fun y => eqB y x)) else none
  | [.str x, .str y] => if x.length = 1 then some (.bl (decide (x.cps.toList.headD 0 ∈ y.cps.toList))) else none
  | _ => none
def notInD (l : List D) : Option D := notD1 (inD l)

theorem str_app_len (x y : Str) : (x ++ y).length = x.length + y.length := by
  show (x.cps ++ y.cps).size = _
  rw [Array.size_append]
  rfl
theorem rep_len (z : Str) (k : Nat) : (⟨(List.replicate k z.cps.toList).flatten.toArray⟩ : Str).length = z.length * k := by
  show (List.replicate k z.cps.toList).flatten.toArray.size = _
  rw [List.size_toArray, List.length_flatten, List.map_replicate, List.sum_replicate_nat, Array.length_toList, Nat.mul_comm]
  rfl
section
variable {X : Cx} {w : World} {K : PySem.W.Frag}
def rAdd (K : PySem.W.Frag) : R2 := fun x y H Q => (((rI0 fun i j => V.int (i + j)) x y H Q ∨ (∃ i j, x = V.str i ∧ y = V.str j ∧ i.length + j.length ≤ sizeLine ∧ Q (V.str (i ++ j)) H)) ∨ rCatA K x y H Q) ∨ rCatL K x y H Q
theorem op_addD : OpR X (binaryOp .Add) (rAdd X.K) := OpR.or (OpR.or (OpR.or op_add op_add_str) op_catA) op_catL
theorem add_ok : AppD w K addD (r2 (rAdd K)) := by
  intro G ds vs d H Q hG hg hr q
  unfold addD at hg
  split at hg
  · obtain ⟨x, y, rfl, h1, h2⟩ := rsl2 hr
    cases h1.int
    cases h2.int
    cases hg
    exact .inl (.inl (.inl ⟨_, _, rfl, rfl, q _ H (Same.refl H) rp_int⟩))
  · obtain ⟨x, y, rfl, h1, h2⟩ := rsl2 hr
    cases h1.str
    cases h2.str
    split at hg
    · rename_i hl
      cases hg
      exact .inl (.inl (.inr ⟨_, _, rfl, rfl, lenOk_iff.mp hl, q _ H (Same.refl H) (rp_str (by rw [str_app_len]; exact lenOk_iff.mp hl))⟩))
    · cases hg
  · obtain ⟨x, y, rfl, h1, h2⟩ := rsl2 hr
    obtain ⟨a, us, rfl, s1, l1⟩ := h1.tup
    obtain ⟨b, ws, rfl, s2, l2⟩ := h2.tup
    split at hg
    · rename_i hl
      cases hg
      have hl' := lenOk_iff.mp hl
      have hz := lenOk_iff.mp hl
      rw [← List.length_append] at hz
      rw [← l1.length, ← l2.length] at hl'
      refine .inl (.inr ⟨a, b, us, ws, rfl, rfl, s1, s2, hl', fun e => ?_, fun e1 e2 => ?_, fun e1 e2 p hp => ?_⟩)
      · subst e
        exact q _ H (Same.refl H) (Rp.tup hz s2 (by simpa using RpL.append l1 l2))
      · subst e2
        exact q _ H (Same.refl H) (Rp.tup hz s1 (by simpa using RpL.append l1 l2))
      · exact q _ _ (same_upd hp) (newT hz (RpL.append l1 l2) hp)
    · cases hg
  · obtain ⟨x, y, rfl, h1, h2⟩ := rsl2 hr
    obtain ⟨a, us, rfl, s1, l1⟩ := h1.lst
    obtain ⟨b, ws, rfl, s2, l2⟩ := h2.lst
    split at hg
    · rename_i hl
      cases hg
      have hl' := lenOk_iff.mp hl
      have hz := lenOk_iff.mp hl
      rw [← List.length_append] at hz
      rw [← l1.length, ← l2.length] at hl'
      exact .inr ⟨a, b, us, ws, rfl, rfl, s1, s2, hl', fun p hp => q _ _ (same_upd hp) (newL hG hz (RpL.append l1 l2) hp)⟩
    · cases hg
  · cases hg
theorem sub_ok : AppD w K subD (r2 (rI0 fun i j => V.int (i - j))) := by
  intro G ds vs d H Q hG hg hr q
  unfold subD at hg
  split at hg
  · obtain ⟨x, y, rfl, h1, h2⟩ := rsl2 hr
    cases h1.int
    cases h2.int
    cases hg
    exact ⟨_, _, rfl, rfl, q _ H (Same.refl H) rp_int⟩
  · cases hg
def rMul : R2 := fun x y H Q => (rI CMul fun i j => V.int (i * j)) x y H Q ∨ rMulS x y H Q
theorem op_mulD : OpR X (binaryOp .Mult) rMul := OpR.or op_mul op_mulS
theorem mul_ok : AppD w K mulD (r2 rMul) := by
  intro G ds vs d H Q hG hg hr q
  unfold mulD at hg
  split at hg
  · obtain ⟨x, y, rfl, h1, h2⟩ := rsl2 hr
    cases h1.int
    cases h2.int
    split at hg
    · rename_i hl
      cases hg
      simp only [Bool.or_eq_true, decide_eq_true_eq] at hl
      refine .inl ⟨_, _, rfl, rfl, ?_, q _ H (Same.refl H) rp_int⟩
      rcases hl with hl | hl
      · exact .inl ⟨by omega, by omega⟩
      · exact .inr ⟨by omega, by omega⟩
    · cases hg
  · obtain ⟨x, y, rfl, h1, h2⟩ := rsl2 hr
    cases h1.str
    cases h2.int
    split at hg
    · rename_i hl
      cases hg
      simp only [Bool.and_eq_true, decide_eq_true_eq] at hl
      obtain ⟨⟨⟨⟨a1, a2⟩, a3⟩, a4⟩, a5⟩ := hl
      exact .inr ⟨_, _, rfl, rfl, a1, a2, a3, a4, lenOk_iff.mp a5, q _ H (Same.refl H) (rp_str (by rw [rep_len]; exact lenOk_iff.mp a5))⟩
    · cases hg
  · cases hg
theorem fdiv_ok : AppD w K fdivD (r2 (rI CDivN fun i j => V.int (i.fdiv j))) := by
  intro G ds vs d H Q hG hg hr q
  unfold fdivD at hg
  split at hg
  · obtain ⟨x, y, rfl, h1, h2⟩ := rsl2 hr
    cases h1.int
    cases h2.int
    split at hg
    · rename_i hl
      cases hg
      simp only [Bool.and_eq_true, decide_eq_true_eq] at hl
      refine ⟨_, _, rfl, rfl, ⟨by omega, by omega⟩, ?_⟩
      show Q (V.int (Int.fdiv _ _)) H
      rw [Int.fdiv_eq_ediv_of_nonneg _ (by omega)]
      exact q _ H (Same.refl H) rp_int
    · cases hg
  · cases hg
theorem mod_ok : AppD w K modD (r2 (rI (fun _ j => j ≠ 0) fun i j => V.int (i.fmod j))) := by
  intro G ds vs d H Q hG hg hr q
  unfold modD at hg
  split at hg
  · obtain ⟨x, y, rfl, h1, h2⟩ := rsl2 hr
    cases h1.int
    cases h2.int
    split at hg
    · rename_i hl
      cases hg
      simp only [decide_eq_true_eq] at hl
      refine ⟨_, _, rfl, rfl, by omega, ?_⟩
      show Q (V.int (Int.fmod _ _)) H
      rw [Int.fmod_eq_emod_of_nonneg _ (by omega)]
      exact q _ H (Same.refl H) rp_int
    · cases hg
  · cases hg
theorem pow_ok : AppD w K powD (r2 (rI CPow fun i j => V.int (i ^ j.toNat))) := by
  intro G ds vs d H Q hG hg hr q
  unfold powD at hg
  split at hg
  · obtain ⟨x, y, rfl, h1, h2⟩ := rsl2 hr
    cases h1.int
    cases h2.int
    split at hg
    · rename_i hl
      cases hg
      simp only [Bool.and_eq_true, decide_eq_true_eq] at hl
      exact ⟨_, _, rfl, rfl, ⟨by omega, by omega, by omega⟩, q _ H (Same.refl H) rp_int⟩
    · cases hg
  · cases hg
theorem neg_ok : AppD w K negD (r1 (rU fun i => V.int (-i))) := by
  intro G ds vs d H Q hG hg hr q
  unfold negD at hg
  split at hg
  · obtain ⟨x, rfl, h1⟩ := rsl1 hr
    cases h1.int
    cases hg
    exact ⟨_, rfl, q _ H (Same.refl H) rp_int⟩
  · cases hg
def rEqX (K : PySem.W.Frag) : R2 := fun x y H Q => rEq x y H Q ∨ rEqD K x y H Q
def rNeX (K : PySem.W.Frag) : R2 := fun x y H Q => rNe x y H Q ∨ rNeD K x y H Q
theorem op_eqX (hu : X.A.units + 64 < cLine) : OpR X (compareOp .Eq) (rEqX X.K) := OpR.or op_eq (op_eqD hu)
theorem op_neX (hu : X.A.units + 64 < cLine) : OpR X (compareOp .NotEq) (rNeX X.K) := OpR.or op_ne (op_neD hu)
theorem eq_cases {G : Addr → Prop} {H : Hp} {a b : D} {x y : V} (h : okEq a b = true) (h1 : Rs w K G H a x) (h2 : Rs w K G H b y) :
    (scal x y = true ∧ decide (x = y) = eqB a b) ∨ ∃ d e, Dp K H x d ∧ Dp K H y e ∧ SeqAt.shaped d = true ∧ SeqAt.shaped e = true ∧ PyData.eqv d e = eqB a b := by
  unfold okEq at h
  rw [Bool.or_eq_true] at h
  rcases h with h | h
  · rw [Bool.and_eq_true] at h
    rw [h1.fv h.1, h2.fv h.2]
    rcases scal_fv a b h.1 h.2 with e | ⟨e1, e2⟩
    · exact .inl e
    · have p1 : a.isPy = true := by
        have := h.1
        cases a <;> first | rfl | cases this
      have p2 : b.isPy = true := by
        have := h.2
        cases b <;> first | rfl | cases this
      rw [← h1.fv h.1, ← h2.fv h.2]
      exact .inr ⟨_, _, h1.dp p1, h2.dp p2, shaped_flat a h.1 e1, shaped_flat b h.2 e2, rfl⟩
  · simp only [Bool.and_eq_true] at h
    obtain ⟨⟨⟨p1, p2⟩, s1⟩, s2⟩ := h
    exact .inr ⟨_, _, h1.dp p1, h2.dp p2, s1, s2, rfl⟩
theorem eq_ok : AppD w K eqD (r2 (rEqX K)) := by
  intro G ds vs d H Q hG hg hr q
  unfold eqD at hg
  split at hg
  · obtain ⟨x, y, rfl, h1, h2⟩ := rsl2 hr
    split at hg
    · rename_i hl
      cases hg
      rcases eq_cases hl h1 h2 with ⟨e1, e2⟩ | ⟨d, e, a1, a2, a3, a4, a5⟩
      · exact .inl ⟨e1, by rw [e2]; exact q _ H (Same.refl H) rp_bl⟩
      · exact .inr ⟨d, e, a1, a2, a3, a4, by rw [a5]; exact q _ H (Same.refl H) rp_bl⟩
    · cases hg
  · cases hg
theorem ne_ok : AppD w K neD (r2 (rNeX K)) := by
  intro G ds vs d H Q hG hg hr q
  unfold neD at hg
  split at hg
  · obtain ⟨x, y, rfl, h1, h2⟩ := rsl2 hr
    split at hg
    · rename_i hl
      cases hg
      rcases eq_cases hl h1 h2 with ⟨e1, e2⟩ | ⟨d, e, a1, a2, a3, a4, a5⟩
      · exact .inl ⟨e1, by rw [e2]; exact q _ H (Same.refl H) rp_bl⟩
      · exact .inr ⟨d, e, a1, a2, a3, a4, by rw [a5]; exact q _ H (Same.refl H) rp_bl⟩
    · cases hg
  · cases hg
end
end DL
end
section
namespace DL
open PySem PySem.Spec L2
open PyProof.Rows hiding St
section
variable {X : Cx} {w : World} {K : PySem.W.Frag}
def rCmpX (fi : Int → Int → Bool) (fs : Str → Str → Bool) : R2 := fun x y H Q => (∃ i j, x = V.int i ∧ y = V.int j ∧ Q (.bl (fi i j)) H) ∨ ∃ i j, x = V.str i ∧ y = V.str j ∧ Q (.bl (fs i j)) H
theorem op_ltX : OpR X (compareOp .Lt) (rCmpX (fun i j => decide (i < j)) ltS) := OpR.or (r := fun x y H Q => ∃ i j, x = V.int i ∧ y = V.int j ∧ Q (.bl (decide (i < j))) H) op_lt op_lt_str
theorem op_leX : OpR X (compareOp .LtE) (rCmpX (fun i j => decide (i ≤ j)) fun x y => !ltS y x) := OpR.or (r := fun x y H Q => ∃ i j, x = V.int i ∧ y = V.int j ∧ Q (.bl (decide (i ≤ j))) H) op_le op_le_str
theorem op_gtX : OpR X (compareOp .Gt) (rCmpX (fun i j => decide (j < i)) fun x y => ltS y x) := OpR.or (r := fun x y H Q => ∃ i j, x = V.int i ∧ y = V.int j ∧ Q (.bl (decide (j < i))) H) op_gt op_gt_str
theorem op_geX : OpR X (compareOp .GtE) (rCmpX (fun i j => decide (j ≤ i)) fun x y => !ltS x y) := OpR.or (r := fun x y H Q => ∃ i j, x = V.int i ∧ y = V.int j ∧ Q (.bl (decide (j ≤ i))) H) op_ge op_ge_str
theorem cmpX_ok {g : List D → Option D} {fi : Int → Int → Bool} {fs : Str → Str → Bool} (h : ∀ ds d, g ds = some d → (∃ i j, ds = [.int i, .int j] ∧ d = .bl (fi i j)) ∨ ∃ i j, ds = [.str i, .str j] ∧ d = .bl (fs i j)) : AppD w K g (r2 (rCmpX fi fs)) := by
  intro G ds vs d H Q hG hg hr q
  rcases h ds d hg with ⟨i, j, rfl, rfl⟩ | ⟨i, j, rfl, rfl⟩
  · obtain ⟨x, y, rfl, h1, h2⟩ := rsl2 hr
    cases h1.int
    cases h2.int
    exact .inl ⟨_, _, rfl, rfl, q _ H (Same.refl H) rp_bl⟩
  · obtain ⟨x, y, rfl, h1, h2⟩ := rsl2 hr
    cases h1.str
    cases h2.str
    exact .inr ⟨_, _, rfl, rfl, q _ H (Same.refl H) rp_bl⟩
theorem lt_ok : AppD w K ltD (r2 (rCmpX (fun i j => decide (i < j)) ltS)) := cmpX_ok fun ds d h => by
  unfold ltD at h
  split at h
  · cases h; exact .inl ⟨_, _, rfl, rfl⟩
  · cases h; exact .inr ⟨_, _, rfl, rfl⟩
  · cases h
theorem le_ok : AppD w K leD (r2 (rCmpX (fun i j => decide (i ≤ j)) fun x y => !ltS y x)) := cmpX_ok fun ds d h => by
  unfold leD at h
  split at h
  · cases h; exact .inl ⟨_, _, rfl, rfl⟩
  · cases h; exact .inr ⟨_, _, rfl, rfl⟩
  · cases h
theorem gt_ok : AppD w K gtD (r2 (rCmpX (fun i j => decide (j < i)) fun x y => ltS y x)) := cmpX_ok fun ds d h => by
  unfold gtD at h
  split at h
  · cases h; exact .inl ⟨_, _, rfl, rfl⟩
  · cases h; exact .inr ⟨_, _, rfl, rfl⟩
  · cases h
theorem ge_ok : AppD w K geD (r2 (rCmpX (fun i j => decide (j ≤ i)) fun x y => !ltS x y)) := cmpX_ok fun ds d h => by
  unfold geD at h
  split at h
  · cases h; exact .inl ⟨_, _, rfl, rfl⟩
  · cases h; exact .inr ⟨_, _, rfl, rfl⟩
  · cases h
/-! is, is not -/
def rIsX (n : Bool) : R2 := fun x y H Q => (∃ a b : Bool, x = .bl a ∧ y = .bl b ∧ Q (.bl (if n then !decide (a = b) else decide (a = b))) H) ∨ (y = .non ∧ Q (.bl (if n then !decide (x = .non) else decide (x = .non))) H)
theorem op_isX : OpR X (compareOp .Is) (rIsX false) := OpR.or (r := fun x y H Q => ∃ a b : Bool, x = .bl a ∧ y = .bl b ∧ Q (.bl (decide (a = b))) H) op_isBl op_isN
theorem op_isNotX : OpR X (compareOp .IsNot) (rIsX true) := OpR.or (r := fun x y H Q => ∃ a b : Bool, x = .bl a ∧ y = .bl b ∧ Q (.bl (!decide (a = b))) H) op_notBl op_notN
theorem is_some {ds : List D} {d : D} (h : isD ds = some d) : (∃ a b, ds = [.bl a, .bl b] ∧ d = .bl (decide (a = b))) ∨ ∃ a, ds = [a, .non] ∧ ((a = .non ∧ d = .bl true) ∨ (d = .bl false ∧ ((∃ b, a = .bl b) ∨ (∃ i, a = .int i) ∨ (∃ x, a = .str x) ∨ (∃ xs, a = .tup xs) ∨ ∃ xs, a = .lst xs))) := by
  unfold isD at h
  split at h <;> cases h
  · exact .inl ⟨_, _, rfl, rfl⟩
  · exact .inr ⟨_, rfl, .inl ⟨rfl, rfl⟩⟩
  · exact .inr ⟨_, rfl, .inr ⟨rfl, .inl ⟨_, rfl⟩⟩⟩
  · exact .inr ⟨_, rfl, .inr ⟨rfl, .inr (.inl ⟨_, rfl⟩)⟩⟩
  · exact .inr ⟨_, rfl, .inr ⟨rfl, .inr (.inr (.inl ⟨_, rfl⟩))⟩⟩
  · exact .inr ⟨_, rfl, .inr ⟨rfl, .inr (.inr (.inr (.inl ⟨_, rfl⟩)))⟩⟩
  · exact .inr ⟨_, rfl, .inr ⟨rfl, .inr (.inr (.inr (.inr ⟨_, rfl⟩)))⟩⟩
theorem isN_v {G : Addr → Prop} {H : Hp} {a : D} {v : V} (h : (∃ b, a = .bl b) ∨ (∃ i, a = .int i) ∨ (∃ x, a = .str x) ∨ (∃ xs, a = .tup xs) ∨ ∃ xs, a = .lst xs) (r : Rs w K G H a v) : decide (v = .non) = false := by
  rcases h with ⟨b, rfl⟩ | ⟨b, rfl⟩ | ⟨b, rfl⟩ | ⟨b, rfl⟩ | ⟨b, rfl⟩
  · rw [r.bl]; rfl
  · rw [r.int]; rfl
  · rw [r.str]; rfl
  · obtain ⟨_, _, rfl, _⟩ := r.tup; rfl
  · obtain ⟨_, _, rfl, _⟩ := r.lst; rfl
theorem is_ok : AppD w K isD (r2 (rIsX false)) := by
  intro G ds vs d H Q hG hg hr q
  rcases is_some hg with ⟨a, b, rfl, rfl⟩ | ⟨a, rfl, h⟩
  · obtain ⟨x, y, rfl, h1, h2⟩ := rsl2 hr
    cases h1.bl
    cases h2.bl
    exact .inl ⟨_, _, rfl, rfl, q _ H (Same.refl H) rp_bl⟩
  · obtain ⟨x, y, rfl, h1, h2⟩ := rsl2 hr
    cases h2.non
    rcases h with ⟨rfl, rfl⟩ | ⟨rfl, h⟩
    · cases h1.non
      exact .inr ⟨rfl, q _ H (Same.refl H) rp_bl⟩
    · refine .inr ⟨rfl, ?_⟩
      rw [isN_v h h1]
      exact q _ H (Same.refl H) rp_bl
theorem isNot_ok : AppD w K isNotD (r2 (rIsX true)) := by
  intro G ds vs d H Q hG hg hr q
  unfold isNotD notD1 at hg
  split at hg
  · rename_i b hb
    cases hg
    rcases is_some hb with ⟨a, c, rfl, e⟩ | ⟨a, rfl, h⟩
    · cases e
      obtain ⟨x, y, rfl, h1, h2⟩ := rsl2 hr
      cases h1.bl
      cases h2.bl
      exact .inl ⟨_, _, rfl, rfl, q _ H (Same.refl H) rp_bl⟩
    · obtain ⟨x, y, rfl, h1, h2⟩ := rsl2 hr
      cases h2.non
      rcases h with ⟨rfl, e⟩ | ⟨e, h⟩
      · cases e
        cases h1.non
        exact .inr ⟨rfl, q _ H (Same.refl H) rp_bl⟩
      · cases e
        refine .inr ⟨rfl, ?_⟩
        rw [isN_v h h1]
        exact q _ H (Same.refl H) rp_bl
  · cases hg
/-! in, not in -/
def rInX (K : PySem.W.Frag) (n : Bool) : R2 := fun x y H Q => (rIn K n x y H Q ∨ (∃ d ds, Dp K H x d ∧ Dp K H y (.list ds) ∧ SeqAt.shaped d = true ∧ SeqAt.shaped (.list ds) = true ∧ Q (.bl (if n then !(ds.any fun z => PyData.eqv z d) else ds.any fun z => PyData.eqv z d)) H)) ∨
  ∃ (c : Nat) (z : Str), x = .str ⟨#[c]⟩ ∧ y = .str z ∧ Q (.bl (if n then !decide (c ∈ z.cps.toList) else decide (c ∈ z.cps.toList))) H
theorem op_inX (hu : X.A.units + 65 < cLine) : OpR X (compareOp .In) (rInX X.K false) := OpR.or (OpR.or op_in_seq (op_inD hu)) op_in_sign
theorem op_notInX (hu : X.A.units + 65 < cLine) : OpR X (compareOp .NotIn) (rInX X.K true) := OpR.or (OpR.or op_notIn_seq (op_notInD hu)) op_notIn_sign
theorem inV_fv (x : D) (hx : x.flat = true) : ∀ ys : List D, ys.all D.flat = true → inV x.fv (ys.map D.fv) = ys.any fun y => eqB y x
  | [], _ => rfl
  | y :: ys, h => by
    rw [List.all_cons, Bool.and_eq_true] at h
    have ih := inV_fv x hx ys h.2
    unfold inV at ih ⊢
    rw [List.map_cons, List.any_cons, List.any_cons, ih, eqV_fv y x h.1 hx]
theorem flat_all : ∀ ys : List D, (ys.map D.fv).all flatV = true
  | [] => rfl
  | y :: ys => by rw [List.map_cons, List.all_cons, fv_flat, flat_all ys]; rfl
theorem any_py (x : D) : ∀ ys : List D, (D.toPyL ys).any (fun z => PyData.eqv z x.toPy) = ys.any fun y => eqB y x
  | [] => by simp only [D.toPyL, List.any_nil]
  | y :: ys => by simp only [D.toPyL, List.any_cons, any_py x ys]; rfl
theorem in_core {ds : List D} {d : D} {G : Addr → Prop} {vs : List V} {H : Hp} {n : Bool} {Q : VK} (hg : inD ds = some d) (hr : RsL w K G H ds vs) : ∃ b, d = .bl b ∧ (Q (.bl (if n then !b else b)) H → r2 (rInX K n) vs H Q) := by
  unfold inD at hg
  split at hg
  · obtain ⟨x, y, rfl, h1, h2⟩ := rsl2 hr
    split at hg
    · rename_i hl
      cases hg
      rw [Bool.and_eq_true] at hl
      obtain ⟨a, us, rfl, s1, l1⟩ := h2.tup
      refine ⟨_, rfl, fun q => .inl (.inl ⟨a, us, rfl, .inr s1, ?_, ?_, ?_⟩)⟩
      · rw [h1.fv hl.1]; exact fv_flat _
      · rw [l1.fv hl.2]; exact flat_all _
      · rw [h1.fv hl.1, l1.fv hl.2, inV_fv _ hl.1 _ hl.2]; exact q
    · cases hg
  · obtain ⟨x, y, rfl, h1, h2⟩ := rsl2 hr
    split at hg
    · rename_i hl
      cases hg
      rw [Bool.or_eq_true] at hl
      rcases hl with hl | hl
      · rw [Bool.and_eq_true] at hl
        obtain ⟨a, us, rfl, s1, l1⟩ := h2.lst
        refine ⟨_, rfl, fun q => .inl (.inl ⟨a, us, rfl, .inl s1, ?_, ?_, ?_⟩)⟩
        · rw [h1.fv hl.1]; exact fv_flat _
        · rw [l1.fv hl.2]; exact flat_all _
        · rw [h1.fv hl.1, l1.fv hl.2, inV_fv _ hl.1 _ hl.2]; exact q
      · simp only [Bool.and_eq_true] at hl
        obtain ⟨⟨⟨p1, p2⟩, s1⟩, s2⟩ := hl
        have h2' := h2.dp (by simpa only [D.isPy] using p2)
        simp only [D.toPy] at h2'
        refine ⟨_, rfl, fun q => .inl (.inr ⟨_, _, h1.dp p1, h2', s1, s2, ?_⟩)⟩
        rw [any_py]
        exact q
    · cases hg
  · obtain ⟨x, y, rfl, h1, h2⟩ := rsl2 hr
    cases h1.str
    cases h2.str
    split at hg
    · rename_i sx sy hl
      cases hg
      refine ⟨_, rfl, fun q => .inr ⟨sx.cps.toList.headD 0, _, ?_, rfl, q⟩⟩
      obtain ⟨cps⟩ := sx
      obtain ⟨l⟩ := cps
      have : l.length = 1 := hl
      obtain ⟨c, rfl⟩ := List.length_eq_one_iff.mp this
      rfl
    · cases hg
  · cases hg
theorem in_ok : AppD w K inD (r2 (rInX K false)) := by
  intro G ds vs d H Q hG hg hr q
  obtain ⟨b, rfl, h⟩ := in_core (n := false) (Q := Q) hg hr
  exact h (q _ H (Same.refl H) rp_bl)
theorem notIn_ok : AppD w K notInD (r2 (rInX K true)) := by
  intro G ds vs d H Q hG hg hr q
  unfold notInD notD1 at hg
  split at hg
  · rename_i b hb
    cases hg
    obtain ⟨b', e, h⟩ := in_core (n := true) (Q := Q) hb hr
    cases e
    exact h (q _ H (Same.refl H) rp_bl)
  · cases hg
/-! subscripts -/
def ixD : List D → Option D
  | [.tup xs, .int i] => atI xs i
  | [.lst xs, .int i] => atI xs i
  | [.str z, .int i] => (atI z.cps.toList i).map fun c => .str ⟨#[c]⟩
  | _ => none
theorem atI_rp {G : Addr → Prop} {H : Hp} {ds : List D} {vs : List V} {i : Int} {d : D} (r : RpL K G H ds vs) (e : atI ds i = some d) : ∃ v, atI vs i = some v ∧ Rp K G H d v := by
  unfold atI at e ⊢
  rw [r.length]
  cases h : ixN ds.length i with
  | none => rw [h] at e; cases e
  | some j =>
    rw [h] at e
    exact r.get e
theorem ix_ok : AppD w K ixD (r2 (rIx K)) := by
  intro G ds vs d H Q hG hg hr q
  unfold ixD at hg
  split at hg
  · obtain ⟨x, y, rfl, h1, h2⟩ := rsl2 hr
    cases h2.int
    obtain ⟨a, us, rfl, s1, l1⟩ := h1.tup
    obtain ⟨v, e, r⟩ := atI_rp l1 hg
    exact .inr (.inl ⟨a, us, _, v, rfl, rfl, s1, e, q _ H (Same.refl H) r⟩)
  · obtain ⟨x, y, rfl, h1, h2⟩ := rsl2 hr
    cases h2.int
    obtain ⟨a, us, rfl, s1, l1⟩ := h1.lst
    obtain ⟨v, e, r⟩ := atI_rp l1 hg
    exact .inl ⟨a, us, _, v, rfl, rfl, s1, e, q _ H (Same.refl H) r⟩
  · obtain ⟨x, y, rfl, h1, h2⟩ := rsl2 hr
    cases h2.int
    have hz := h1.strL.2
    cases h1.str
    rw [Option.map_eq_some_iff] at hg
    obtain ⟨c, e, rfl⟩ := hg
    exact .inr (.inr ⟨_, _, c, rfl, rfl, hz, e, q _ H (Same.refl H) (rp_str (by show 1 ≤ _; rw [sizeLine_eq]; decide))⟩)
  · cases hg
end
end DL
end
section
namespace DL
open PySem PySem.Spec L2
open PyProof.Rows hiding St

/-! ### values that are stored -/
def evalV : List (M D) → M (List D)
  | [] => M.pure []
  | f :: r => f.bind fun d => (evalV r).bind fun ds => M.pure (d :: ds)
def vs_ (fs : List (M D)) : List ArgM := fs.map .v
section
variable {X : Cx} {fr : Fx} {W : WX} {σ : St} {H H1 H' : Hp} {ρ : Env} {Q : VK} {e a b c : Expr} {es rest : List Expr} {f fa fb fc : M D} {fs : List (M D)} {pos : Pos}
theorem Pl.vs : ∀ fs : List (M D), Pl fr (vs_ fs)
  | [] => Pl.nil
  | f :: fs => Pl.cons Pl.v (Pl.vs fs)
theorem tArgsV_of : ∀ (fs : List (M D)) (H : Hp) (ρ : Env) (Q : List V → Hp → Prop), ER fr.toFr σ H ρ →
    wpR (evalV fs ρ) (fun ds ρ' => ∀ vs H', ER fr.toFr σ H' ρ' → Stp (Owned fr.toFr σ) H H' → RpL fr.K (Good fr.toFr σ) H' ds vs → Q vs H') (Ex fr W σ) → tArgs fr W (vs_ fs) σ H Q
  | [], H, ρ, Q, E, h => h [] H E Stp.refl RpL.nil
  | f :: r, H, ρ, Q, E, h => by
    refine ⟨ρ, E, ?_⟩
    have h := wpR.of_bind (r := f ρ) h
    refine wpR.mono h (fun d ρ1 q v H1 E1 s1 r1 => ?_) fun _ _ q => q
    refine tArgsV_of r H1 ρ1 _ E1 ?_
    have q := wpR.of_bind (r := evalV r ρ1) q
    exact wpR.mono q (fun ods ρ2 q2 vs H2 E2 s2 r2 => q2 (v :: vs) H2 E2 (s1.trans s2) (RpL.cons (r1.good s2) r2)) fun _ _ q => q
def eTup (fs : List (M D)) : M D := (evalV fs).bind fun ds => M.opt (if lenOk ds.length then some (.tup ds) else none)
def eLst (fs : List (M D)) : M D := (evalV fs).bind fun ds => M.opt (if lenOk ds.length then some (.lst ds) else none)
theorem de_tup {x1} (h : DAs X fr W es (vs_ fs)) : DE X fr W (.Tuple es x1 pos) (eTup fs) :=
  pe_mono (pe_tup h.e) fun σ H Q ⟨ρ, E, h⟩ => tArgsV_of fs H ρ _ E (wpR.mono (wpR.of_bind (r := evalV fs ρ) h) (fun ds ρ1 q vs H1 E1 s1 r1 => by
    by_cases hl : lenOk ds.length = true
    · rw [if_pos hl] at q
      exact ⟨by rw [r1.length]; exact lenOk_iff.mp hl, fun p hp => q _ _ (E1.same (same_upd hp)) (s1.trans (Stp.same (same_upd hp))) (newT (lenOk_iff.mp hl) r1 hp)⟩
    · rw [if_neg hl] at q
      exact q.elim) fun _ _ q => q)
theorem de_lst (h : DAs X fr W es (vs_ fs)) : DE X fr W (.List es pos) (eLst fs) :=
  pe_mono (pe_lst h.e) fun σ H Q ⟨ρ, E, h⟩ => tArgsV_of fs H ρ _ E (wpR.mono (wpR.of_bind (r := evalV fs ρ) h) (fun ds ρ1 q vs H1 E1 s1 r1 => by
    by_cases hl : lenOk ds.length = true
    · rw [if_pos hl] at q
      exact ⟨by rw [r1.length]; exact lenOk_iff.mp hl, fun p hp => q _ _ (E1.same (same_upd hp)) (s1.trans (Stp.same (same_upd hp))) (newL (fun b hb => E1.free hb) (lenOk_iff.mp hl) r1 hp)⟩
    · rw [if_neg hl] at q
      exact q.elim) fun _ _ q => q)

/-! ### truth, and, or, not -/
def truthD : D → Option Bool
  | .non => some false
  | .bl b => some b
  | .int i => some (i != 0)
  | .str z => some (z.length != 0)
  | .tup xs => some (!xs.isEmpty)
  | .lst xs => some (!xs.isEmpty)
  | _ => none
theorem empty_eq {K : PySem.W.Frag} {G : Addr → Prop} {ds : List D} {vs : List V} (r : RpL K G H ds vs) : ds.isEmpty = vs.isEmpty := by
  have := r.length
  cases ds <;> cases vs <;> first | rfl | simp at this
theorem truth_ok {w : World} {K : PySem.W.Frag} {G : Addr → Prop} {d : D} {v : V} {k : Bool} (h : truthD d = some k) (r : Rs w K G H d v) : TruV K v H k := by
  unfold truthD at h
  split at h
  · cases h; rw [r.non]; rfl
  · cases h; rw [r.bl]; rfl
  · cases h; rw [r.int]; rfl
  · have hz := r.strL.2
    cases h
    rw [r.str]
    refine ⟨hz, ?_⟩
    rename_i z
    cases z.length <;> first | rfl | (simp; omega)
  · cases h
    obtain ⟨a, us, rfl, s, l⟩ := r.tup
    exact .inr (.inl ⟨us, s, by rw [empty_eq l]⟩)
  · cases h
    obtain ⟨a, us, rfl, s, l⟩ := r.lst
    exact .inl ⟨us, s, by rw [empty_eq l]⟩
  · cases h
def eAnd (fa fb : M D) : M D := fa.bind fun d ρ => match truthD d with
  | some true => fb ρ
  | some false => .ok d ρ
  | none => .stuck
def eOr (fa fb : M D) : M D := fa.bind fun d ρ => match truthD d with
  | some false => fb ρ
  | some true => .ok d ρ
  | none => .stuck
theorem de_one {op} (h : DE X fr W a f) : DE X fr W (.BoolOp op [a] pos) f := pe_one h
theorem de_and (ha : DE X fr W a fa) (hb : DE X fr W (.BoolOp .And (b :: rest) pos) fb) (hk : fr.K = X.K) : DE X fr W (.BoolOp .And (a :: b :: rest) pos) (eAnd fa fb) :=
  pe_mono (pe_andT ha hb) fun σ H Q ⟨ρ, E, h⟩ => ⟨ρ, E, wpR.mono (Go.bind h) (fun d ρ1 q v H1 E1 s1 r1 => by
    obtain ⟨d', ρ1', E1', s1', r1', q⟩ := q v H1 E1 s1 r1
    cases hd : truthD d' with
    | none => simp only [Go, hd] at q; exact q.elim
    | some k =>
      cases k with
      | true => simp only [Go, hd] at q; exact ⟨true, hk ▸ truth_ok hd (r1'.rs (w := fr.w)), (if_pos rfl).mpr ⟨_, E1', q⟩⟩
      | false => simp only [Go, hd] at q; exact ⟨false, hk ▸ truth_ok hd (r1'.rs (w := fr.w)), (if_neg Bool.false_ne_true).mpr (q v H1 E1' Stp.refl r1')⟩) fun _ _ q => q⟩
theorem de_or (ha : DE X fr W a fa) (hb : DE X fr W (.BoolOp .Or (b :: rest) pos) fb) (hk : fr.K = X.K) : DE X fr W (.BoolOp .Or (a :: b :: rest) pos) (eOr fa fb) :=
  pe_mono (pe_orT ha hb) fun σ H Q ⟨ρ, E, h⟩ => ⟨ρ, E, wpR.mono (Go.bind h) (fun d ρ1 q v H1 E1 s1 r1 => by
    obtain ⟨d', ρ1', E1', s1', r1', q⟩ := q v H1 E1 s1 r1
    cases hd : truthD d' with
    | none => simp only [Go, hd] at q; exact q.elim
    | some k =>
      cases k with
      | false => simp only [Go, hd] at q; exact ⟨false, hk ▸ truth_ok hd (r1'.rs (w := fr.w)), (if_neg Bool.false_ne_true).mpr ⟨_, E1', q⟩⟩
      | true => simp only [Go, hd] at q; exact ⟨true, hk ▸ truth_ok hd (r1'.rs (w := fr.w)), (if_pos rfl).mpr (q v H1 E1' Stp.refl r1')⟩) fun _ _ q => q⟩
def notD : List D → Option D
  | [d] => (truthD d).map fun k => .bl (!k)
  | _ => none
theorem de_not {fa : ArgM} (ha : DA X fr W a fa) (hk : fr.K = X.K) : DE X fr W (.UnaryOp .Not a pos) (appM [fa] notD) :=
  pe_mono (pe_notT ha.e) fun σ H Q h => app_of (fs := [fa]) (r := r1 fun x H Q => ∃ k, TruV X.K x H k ∧ Q (.bl (!k)) H) ha.p (fun G ds vs d H Q hG hg hr q => by
    unfold notD at hg
    split at hg
    · obtain ⟨x, rfl, h1⟩ := rsl1 hr
      rw [Option.map_eq_some_iff] at hg
      obtain ⟨k, e, rfl⟩ := hg
      exact ⟨k, hk ▸ truth_ok e h1, q _ H (Same.refl H) rp_bl⟩
    · cases hg) h

/-! ### tests -/
def GoT (fr : Fx) (W : WX) (σ : St) (H : Hp) (r : Res Bool) (Q : Bool → Hp → Prop) : Prop := wpR r (fun b ρ' => ∀ H', ER fr.toFr σ H' ρ' → Stp (Owned fr.toFr σ) H H' → Q b H') (Ex fr W σ)
theorem GoT.stp {r : Res Bool} {Q : Bool → Hp → Prop} (h : GoT fr W σ H r Q) (s : Stp (Owned fr.toFr σ) H H1) : GoT fr W σ H1 r Q :=
  wpR.mono h (fun d ρ' q H' e s' => q H' e (s.trans s')) fun _ _ q => q
def eTru (f : M D) : M Bool := f.bind fun d => M.opt (truthD d)
def eTst (f : M D) : M Bool := f.bind fun d => match d with
  | .bl b => M.pure b
  | _ => fun _ => .stuck
theorem dt_truth (h : DE X fr W e f) (hk : fr.K = X.K) (he : ∀ whole, isTrue e X.env whole = (do let v ← whole; standAt e.pos; holding [v] (truthy v)) := by intro _; rfl) : DT X fr W e (eTru f) :=
  pt_mono (pt_truth h he) fun σ H Q ⟨ρ, E, h⟩ => ⟨ρ, E, wpR.mono (wpR.of_bind (r := f ρ) h) (fun d ρ1 q v H1 E1 s1 r1 => by
    cases hd : truthD d with
    | none => rw [hd] at q; exact q.elim
    | some k =>
      rw [hd] at q
      exact ⟨k, hk ▸ truth_ok hd (r1.rs (w := fr.w)), q H1 E1 s1⟩) fun _ _ q => q⟩
/-- a place's truth -/
def eTruP (j : Nat) : M Bool := fun ρ => match ρ[j]? with
  | some (some d) => M.opt (truthD d) ρ
  | _ => .stuck
theorem tst_of (h : tDT fr W (eTst f) σ H Q') : tD fr W f σ H fun x H' => ∃ k, x = .bl k ∧ Q' k H' := by
  obtain ⟨ρ, E, h⟩ := h
  refine ⟨ρ, E, wpR.mono (wpR.of_bind (r := f ρ) h) (fun d ρ1 q v H1 E1 s1 r1 => ?_) fun _ _ q => q⟩
  cases d with
  | bl b =>
    have e : v = .bl b := (r1.rs (w := fr.w)).bl
    exact ⟨b, e, q H1 E1 s1⟩
  | _ => exact q.elim
theorem dt_cmp {op : CmpOp} {r : R2} {g : List D → Option D} {fa fb : ArgM} (ho : OpR X (compareOp op) r) (hg : AppD X.w X.K g (r2 r)) (ha : DA X fr W a fa) (hb : DA X fr W b fb) (hm : behindInMarks op b = false) (hk : fr.K = X.K := by rfl) (hw : fr.w = X.w := by rfl) : DT X fr W (.Compare a [op] [b] pos) (eTst (appM [fa, fb] g)) :=
  pt_mono (pt_cmpR ho ha.e hb.e hm) fun σ H Q h => app_of (fs := [fa, fb]) (r := r2 r) (ha.p.cons hb.p) (hk ▸ hw ▸ hg) (tst_of h)
def tAndM (ft fu : M Bool) : M Bool := ft.bind fun c => if c then fu else M.pure false
def tOrM (ft fu : M Bool) : M Bool := ft.bind fun c => if c then M.pure true else fu
def tNotM (ft : M Bool) : M Bool := ft.bind fun c => M.pure (!c)
abbrev DW (X : Cx) (fr : Fx) (W : WX) (e : Expr) (f : M Bool) : Prop := PW X e (tDT fr W f)
section
variable {ft fu : M Bool}
theorem dw_and1 (ha : DT X fr W a ft) : DW X fr W (.BoolOp .And [a] pos) ft := pw_and1 ha
theorem dw_or1 (ha : DT X fr W a ft) : DW X fr W (.BoolOp .Or [a] pos) ft := pw_or1 ha
theorem dw_and (ha : DT X fr W a ft) (hb : DW X fr W (.BoolOp .And (b :: rest) pos) fu) : DW X fr W (.BoolOp .And (a :: b :: rest) pos) (tAndM ft fu) :=
  pw_mono (pw_and ha hb) fun σ H Q ⟨ρ, E, h⟩ => ⟨ρ, E, wpR.mono (wpR.of_bind (r := ft ρ) h) (fun c ρ1 q H1 E1 s1 => by
    cases c with
    | true => exact (if_pos rfl).mpr ⟨ρ1, E1, GoT.stp (show GoT fr W σ H (fu ρ1) Q from q) s1⟩
    | false => exact (if_neg Bool.false_ne_true).mpr (q H1 E1 s1)) fun _ _ q => q⟩
theorem dw_or (ha : DT X fr W a ft) (hb : DW X fr W (.BoolOp .Or (b :: rest) pos) fu) : DW X fr W (.BoolOp .Or (a :: b :: rest) pos) (tOrM ft fu) :=
  pw_mono (pw_or ha hb) fun σ H Q ⟨ρ, E, h⟩ => ⟨ρ, E, wpR.mono (wpR.of_bind (r := ft ρ) h) (fun c ρ1 q H1 E1 s1 => by
    cases c with
    | true => exact (if_pos rfl).mpr (q H1 E1 s1)
    | false => exact (if_neg Bool.false_ne_true).mpr ⟨ρ1, E1, GoT.stp (show GoT fr W σ H (fu ρ1) Q from q) s1⟩) fun _ _ q => q⟩
theorem dt_w (h : DW X fr W e ft) : DT X fr W e ft := h.pt
theorem dt_not (ha : DT X fr W a ft) : DT X fr W (.UnaryOp .Not a pos) (tNotM ft) :=
  pt_mono (pt_not ha) fun σ H Q ⟨ρ, E, h⟩ => ⟨ρ, E, wpR.mono (wpR.of_bind (r := ft ρ) h) (fun c ρ1 q H1 E1 s1 => q H1 E1 s1) fun _ _ q => q⟩
def eIf (ft : M Bool) (fa fb : M D) : M D := ft.bind fun c => if c then fa else fb
theorem de_if (hc : DT X fr W c ft) (ha : DE X fr W a fa) (hb : DE X fr W b fb) : DE X fr W (.IfExp c a b pos) (eIf ft fa fb) :=
  pe_mono (pe_ifExp hc ha hb) fun σ H Q ⟨ρ, E, h⟩ => ⟨ρ, E, wpR.mono (wpR.of_bind (r := ft ρ) h) (fun c ρ1 q H1 E1 s1 => by
    cases c with
    | true => exact (if_pos rfl).mpr ⟨ρ1, E1, Go.stp (show Go fr W σ H (fa ρ1) Q from q) s1⟩
    | false => exact (if_neg Bool.false_ne_true).mpr ⟨ρ1, E1, Go.stp (show Go fr W σ H (fb ρ1) Q from q) s1⟩) fun _ _ q => q⟩
end
end
end DL
end
section
namespace DL
open PySem PySem.Spec L2
open PyProof.Rows hiding St

def boolsL : List D → Option (List Bool)
  | [] => some []
  | .bl b :: r => (boolsL r).map (b :: ·)
  | _ => none
def intsL : List D → Option (List Int)
  | [] => some []
  | .int b :: r => (intsL r).map (b :: ·)
  | _ => none
def strsL : List D → Option (List Str)
  | [] => some []
  | .str b :: r => (strsL r).map (b :: ·)
  | _ => none
theorem bools_eq : ∀ {ds : List D} {bs : List Bool}, boolsL ds = some bs → ds = bs.map D.bl
  | [], bs, h => by simp only [boolsL, Option.some.injEq] at h; subst h; rfl
  | .bl b :: r, bs, h => by
    simp only [boolsL, Option.map_eq_some_iff] at h
    obtain ⟨x, e, rfl⟩ := h
    rw [bools_eq e]
    rfl
  | .non :: r, bs, h => by simp [boolsL] at h
  | .int _ :: r, bs, h => by simp [boolsL] at h
  | .str _ :: r, bs, h => by simp [boolsL] at h
  | .ty _ :: r, bs, h => by simp [boolsL] at h
  | .tup _ :: r, bs, h => by simp [boolsL] at h
  | .lst _ :: r, bs, h => by simp [boolsL] at h
  | .dct _ :: r, bs, h => by simp [boolsL] at h
  | .set _ :: r, bs, h => by simp [boolsL] at h
  | .exc _ _ _ _ :: r, bs, h => by simp [boolsL] at h
theorem ints_eq : ∀ {ds : List D} {bs : List Int}, intsL ds = some bs → ds = bs.map D.int
  | [], bs, h => by simp only [intsL, Option.some.injEq] at h; subst h; rfl
  | .int b :: r, bs, h => by
    simp only [intsL, Option.map_eq_some_iff] at h
    obtain ⟨x, e, rfl⟩ := h
    rw [ints_eq e]
    rfl
  | .non :: r, bs, h => by simp [intsL] at h
  | .bl _ :: r, bs, h => by simp [intsL] at h
  | .str _ :: r, bs, h => by simp [intsL] at h
  | .ty _ :: r, bs, h => by simp [intsL] at h
  | .tup _ :: r, bs, h => by simp [intsL] at h
  | .lst _ :: r, bs, h => by simp [intsL] at h
  | .dct _ :: r, bs, h => by simp [intsL] at h
  | .set _ :: r, bs, h => by simp [intsL] at h
  | .exc _ _ _ _ :: r, bs, h => by simp [intsL] at h
theorem strs_eq : ∀ {ds : List D} {bs : List Str}, strsL ds = some bs → ds = bs.map D.str
  | [], bs, h => by simp only [strsL, Option.some.injEq] at h; subst h; rfl
  | .str b :: r, bs, h => by
    simp only [strsL, Option.map_eq_some_iff] at h
    obtain ⟨x, e, rfl⟩ := h
    rw [strs_eq e]
    rfl
  | .non :: r, bs, h => by simp [strsL] at h
  | .bl _ :: r, bs, h => by simp [strsL] at h
  | .int _ :: r, bs, h => by simp [strsL] at h
  | .ty _ :: r, bs, h => by simp [strsL] at h
  | .tup _ :: r, bs, h => by simp [strsL] at h
  | .lst _ :: r, bs, h => by simp [strsL] at h
  | .dct _ :: r, bs, h => by simp [strsL] at h
  | .set _ :: r, bs, h => by simp [strsL] at h
  | .exc _ _ _ _ :: r, bs, h => by simp [strsL] at h
@[simp] theorem bools_map : ∀ bs : List Bool, boolsL (bs.map D.bl) = some bs
  | [] => rfl
  | b :: bs => by simp only [List.map_cons, boolsL, bools_map bs, Option.map_some]
@[simp] theorem ints_map : ∀ bs : List Int, intsL (bs.map D.int) = some bs
  | [] => rfl
  | b :: bs => by simp only [List.map_cons, intsL, ints_map bs, Option.map_some]
@[simp] theorem strs_map : ∀ bs : List Str, strsL (bs.map D.str) = some bs
  | [] => rfl
  | b :: bs => by simp only [List.map_cons, strsL, strs_map bs, Option.map_some]

def lenD : List D → Option D
  | [.str z] => some (.int z.length)
  | [.tup xs] => some (.int xs.length)
  | [.lst xs] => some (.int xs.length)
  | _ => none
def listD : List D → Option D
  | [.tup xs] => some (.lst xs)
  | [.lst xs] => some (.lst xs)
  | _ => none
def tupleD : List D → Option D
  | [.tup xs] => some (.tup xs)
  | [.lst xs] => some (.tup xs)
  | _ => none
def allD : List D → Option D
  | [.lst xs] => (boolsL xs).map fun bs => .bl (bs.all id)
  | _ => none
def anyD : List D → Option D
  | [.lst xs] => (boolsL xs).map fun bs => .bl (bs.any id)
  | _ => none
def sumD : List D → Option D
  | [.lst xs] => (intsL xs).map fun ns => .int ns.sum
  | _ => none
def absD : List D → Option D
  | [.int i] => some (.int (if i < 0 then -i else i))
  | _ => none
def max2D : List D → Option D
  | [.int i, .int j] => some (.int (if j > i then j else i))
  | _ => none
def min2D : List D → Option D
  | [.int i, .int j] => some (.int (if j < i then j else i))
  | _ => none
def intD : List D → Option D
  | [.int i] => some (.int i)
  | [.bl k] => some (.int (if k then 1 else 0))
  | _ => none
def leS (x y : Str) : Bool := !ltS y x
def sortedD : List D → Option D
  | [.lst xs] => match intsL xs with
    | some ns => some (.lst ((ns.mergeSort fun a b => decide (a ≤ b)).map .int))
    | none => match strsL xs with
      | some zs => if zs.length < 64 then some (.lst ((zs.mergeSort leS).map .str)) else none
      | none => none
  | _ => none
/-- isinstance: the classes that are asked -/
def tyNm : D → String
  | .non => "NoneType" | .bl _ => "bool" | .int _ => "int" | .str _ => "str" | .tup _ => "tuple" | .lst _ => "list" | _ => ""
def isTy (t n : String) : Bool := t == n || (t == "bool" && n == "int")
def tyAsk : List String := ["int", "bool", "str", "tuple", "list"]
def tyHas : List String := ["NoneType", "bool", "int", "str", "tuple", "list"]
def isiD : List D → Option D
  | [d, .ty n] => if tyAsk.contains n && tyHas.contains (tyNm d) then some (.bl (isTy (tyNm d) n)) else none
  | _ => none
theorem kit_table : tyHas.all (fun t => tyAsk.all fun n => decide (kitB t n = some (isTy t n))) = true := by decide +kernel
theorem kit_isTy {t n : String} (h1 : tyHas.contains t = true) (h2 : tyAsk.contains n = true) : kitB t n = some (isTy t n) := by
  have := kit_table
  rw [List.all_eq_true] at this
  have := this t (by simpa using h1)
  rw [List.all_eq_true] at this
  exact of_decide_eq_true (this n (by simpa using h2))
section
variable {X : Cx} {w : World} {K : PySem.W.Frag}
def rLen (K : PySem.W.Frag) : List V → Hp → VK → Prop := fun xs H Q => ∃ x n, xs = [x] ∧ LenV K x H n ∧ Q (.int n) H
theorem len_ok : AppD w K lenD (rLen K) := by
  intro G ds vs d H Q hG hg hr q
  unfold lenD at hg
  split at hg
  · obtain ⟨x, rfl, h1⟩ := rsl1 hr
    have hz := h1.strL.2
    cases hg
    rw [h1.str]
    exact ⟨_, _, rfl, ⟨hz, rfl⟩, q _ H (Same.refl H) rp_int⟩
  · obtain ⟨x, rfl, h1⟩ := rsl1 hr
    obtain ⟨a, us, rfl, s, l⟩ := h1.tup
    cases hg
    exact ⟨_, _, rfl, .inr ⟨us, s, l.length.symm⟩, q _ H (Same.refl H) rp_int⟩
  · obtain ⟨x, rfl, h1⟩ := rsl1 hr
    obtain ⟨a, us, rfl, s, l⟩ := h1.lst
    cases hg
    exact ⟨_, _, rfl, .inl ⟨us, s, l.length.symm⟩, q _ H (Same.refl H) rp_int⟩
  · cases hg
def rList (K : PySem.W.Frag) : List V → Hp → VK → Prop := fun xs H Q => ∃ p ys, xs = [.ref p] ∧ (SqL K H p ys ∨ SqT K H p ys) ∧ ∀ l, H l = none → Q (.ref l) (upd H l (.lst ys))
theorem list_ok : AppD w K listD (rList K) := by
  intro G ds vs d H Q hG hg hr q
  unfold listD at hg
  split at hg
  · obtain ⟨x, rfl, h1⟩ := rsl1 hr
    have hz := h1.tlen
    obtain ⟨a, us, rfl, s, l⟩ := h1.tup
    cases hg
    exact ⟨a, us, rfl, .inr s, fun p hp => q _ _ (same_upd hp) (newL hG hz l hp)⟩
  · obtain ⟨x, rfl, h1⟩ := rsl1 hr
    have hz := h1.llen
    obtain ⟨a, us, rfl, s, l⟩ := h1.lst
    cases hg
    exact ⟨a, us, rfl, .inl s, fun p hp => q _ _ (same_upd hp) (newL hG hz l hp)⟩
  · cases hg
def rTuple (K : PySem.W.Frag) : List V → Hp → VK → Prop := fun xs H Q => ∃ p ys, xs = [.ref p] ∧ ((SqL K H p ys ∧ ∀ l, H l = none → Q (.ref l) (upd H l (.tup ys))) ∨ (SqT K H p ys ∧ Q (.ref p) H))
theorem tuple_ok : AppD w K tupleD (rTuple K) := by
  intro G ds vs d H Q hG hg hr q
  unfold tupleD at hg
  split at hg
  · obtain ⟨x, rfl, h1⟩ := rsl1 hr
    have hz := h1.tlen
    obtain ⟨a, us, rfl, s, l⟩ := h1.tup
    cases hg
    exact ⟨a, us, rfl, .inr ⟨s, q _ H (Same.refl H) (Rp.tup hz s l)⟩⟩
  · obtain ⟨x, rfl, h1⟩ := rsl1 hr
    have hz := h1.llen
    obtain ⟨a, us, rfl, s, l⟩ := h1.lst
    cases hg
    exact ⟨a, us, rfl, .inl ⟨s, fun p hp => q _ _ (same_upd hp) (newT hz l hp)⟩⟩
  · cases hg
theorem all_ok : AppD w K allD (rAll K) := by
  intro G ds vs d H Q hG hg hr q
  unfold allD at hg
  split at hg
  · obtain ⟨x, rfl, h1⟩ := rsl1 hr
    obtain ⟨a, us, rfl, s, l⟩ := h1.lst
    rw [Option.map_eq_some_iff] at hg
    obtain ⟨bs, e, rfl⟩ := hg
    rw [bools_eq e] at l
    rw [RpL.bls l] at s
    exact ⟨a, bs, rfl, s, q _ H (Same.refl H) rp_bl⟩
  · cases hg
theorem any_ok : AppD w K anyD (rAny K) := by
  intro G ds vs d H Q hG hg hr q
  unfold anyD at hg
  split at hg
  · obtain ⟨x, rfl, h1⟩ := rsl1 hr
    obtain ⟨a, us, rfl, s, l⟩ := h1.lst
    rw [Option.map_eq_some_iff] at hg
    obtain ⟨bs, e, rfl⟩ := hg
    rw [bools_eq e] at l
    rw [RpL.bls l] at s
    exact ⟨a, bs, rfl, s, q _ H (Same.refl H) rp_bl⟩
  · cases hg
theorem sum_ok : AppD w K sumD (rSum K) := by
  intro G ds vs d H Q hG hg hr q
  unfold sumD at hg
  split at hg
  · obtain ⟨x, rfl, h1⟩ := rsl1 hr
    obtain ⟨a, us, rfl, s, l⟩ := h1.lst
    rw [Option.map_eq_some_iff] at hg
    obtain ⟨bs, e, rfl⟩ := hg
    rw [ints_eq e] at l
    rw [RpL.«ints» l] at s
    exact ⟨a, bs, rfl, s, q _ H (Same.refl H) rp_int⟩
  · cases hg
theorem abs_ok : AppD w K absD (fun xs H Q => ∃ i, xs = [V.int i] ∧ Q (.int (if i < 0 then -i else i)) H) := by
  intro G ds vs d H Q hG hg hr q
  unfold absD at hg
  split at hg
  · obtain ⟨x, rfl, h1⟩ := rsl1 hr
    cases hg
    rw [h1.int]
    exact ⟨_, rfl, q _ H (Same.refl H) rp_int⟩
  · cases hg
theorem max2_ok : AppD w K max2D (fun xs H Q => ∃ i j, xs = [V.int i, V.int j] ∧ Q (.int (if j > i then j else i)) H) := by
  intro G ds vs d H Q hG hg hr q
  unfold max2D at hg
  split at hg
  · obtain ⟨x, y, rfl, h1, h2⟩ := rsl2 hr
    cases hg
    rw [h1.int, h2.int]
    exact ⟨_, _, rfl, q _ H (Same.refl H) rp_int⟩
  · cases hg
theorem min2_ok : AppD w K min2D (fun xs H Q => ∃ i j, xs = [V.int i, V.int j] ∧ Q (.int (if j < i then j else i)) H) := by
  intro G ds vs d H Q hG hg hr q
  unfold min2D at hg
  split at hg
  · obtain ⟨x, y, rfl, h1, h2⟩ := rsl2 hr
    cases hg
    rw [h1.int, h2.int]
    exact ⟨_, _, rfl, q _ H (Same.refl H) rp_int⟩
  · cases hg
theorem int_ok : AppD w K intD (fun xs H Q => (∃ i, xs = [V.int i] ∧ Q (.int i) H) ∨ ∃ k, xs = [V.bl k] ∧ Q (.int (if k then 1 else 0)) H) := by
  intro G ds vs d H Q hG hg hr q
  unfold intD at hg
  split at hg
  · obtain ⟨x, rfl, h1⟩ := rsl1 hr
    cases hg
    rw [h1.int]
    exact .inl ⟨_, rfl, q _ H (Same.refl H) rp_int⟩
  · obtain ⟨x, rfl, h1⟩ := rsl1 hr
    cases hg
    rw [h1.bl]
    exact .inr ⟨_, rfl, q _ H (Same.refl H) rp_int⟩
  · cases hg
/-! sorted -/
theorem ltS_eq (x y : Str) : ltS x y = ltCps x.cps.toList y.cps.toList := by rw [ltCps_eq]; rfl
theorem leS_trans (a b c : Str) (h1 : leS a b = true) (h2 : leS b c = true) : leS a c = true := by
  unfold leS ltS at *
  simp only [Bool.not_eq_true', decide_eq_false_iff_not, List.not_lt] at *
  exact List.le_trans h1 h2
theorem leS_total (a b : Str) : (leS a b || leS b a) = true := by
  unfold leS ltS
  simp only [Bool.or_eq_true, Bool.not_eq_true', decide_eq_false_iff_not, List.not_lt]
  exact List.le_total _ _
theorem leS_antisymm {a b : Str} (h1 : leS a b = true) (h2 : leS b a = true) : a = b := by
  unfold leS ltS at *
  simp only [Bool.not_eq_true', decide_eq_false_iff_not, List.not_lt] at *
  have := List.le_antisymm h1 h2
  obtain ⟨⟨x⟩⟩ := a
  obtain ⟨⟨y⟩⟩ := b
  congr
theorem rising_all : ∀ (p : Str) (l : List Str), risingS p l = true → (p :: l).Pairwise fun a b => leS a b = true
  | p, [], _ => List.pairwise_singleton _ _
  | p, x :: r, h => by
    unfold risingS at h
    rw [Bool.and_eq_true] at h
    have ih := rising_all x r h.2
    have hpx : leS p x = true := by unfold leS; rw [ltS_eq]; exact h.1
    refine List.pairwise_cons.mpr ⟨fun y hy => ?_, ih⟩
    rcases List.mem_cons.mp hy with rfl | hy
    · exact hpx
    · exact leS_trans _ _ _ hpx ((List.pairwise_cons.mp ih).1 y hy)
theorem sortedS_all {l : List Str} (h : sortedS l = true) : l.Pairwise fun a b => leS a b = true := by
  cases l with
  | nil => exact .nil
  | cons p r => exact rising_all p r h
def rSortX (K : PySem.W.Frag) : List V → Hp → VK → Prop := fun xs H Q => rSortedI K xs H Q ∨ rSortedS K xs H Q
theorem sorted_ok : AppD w K sortedD (rSortX K) := by
  intro G ds vs d H Q hG hg hr q
  unfold sortedD at hg
  split at hg
  · obtain ⟨x, rfl, h1⟩ := rsl1 hr
    have hz := h1.llen
    obtain ⟨a, us, rfl, s, l⟩ := h1.lst
    split at hg
    · rename_i ns e
      cases hg
      rw [ints_eq e] at l hz
      rw [RpL.«ints» l] at s
      refine .inl ⟨a, ns, rfl, s, fun ns' p hp hs hn => ?_⟩
      have he : ns' = ns.mergeSort fun a b => decide (a ≤ b) := by
        refine List.Perm.eq_of_pairwise (le := fun a b => a ≤ b) (fun a b _ _ h1 h2 => Int.le_antisymm h1 h2) hs ?_ (hp.trans (List.mergeSort_perm _ _).symm)
        have := List.pairwise_mergeSort (le := fun a b : Int => decide (a ≤ b)) (fun a b c h1 h2 => by simp only [decide_eq_true_eq] at *; omega) (fun a b => by simp only [Bool.or_eq_true, decide_eq_true_eq]; omega) ns
        exact this.imp fun h => of_decide_eq_true h
      rw [he]
      exact q _ _ (same_upd hn) (newL hG (by rw [List.length_map, List.length_mergeSort]; simpa using hz) rpl_ints hn)
    · split at hg
      · rename_i zs e
        split at hg
        · rename_i hl
          cases hg
          rw [strs_eq e] at l hz
          have hsl := RpL.strLen l
          rw [RpL.«strs» l] at s
          refine .inr ⟨a, zs, rfl, s, hl, fun ys p hp hs hn => ?_⟩
          have he : ys = zs.mergeSort leS := List.Perm.eq_of_pairwise (le := fun a b => leS a b = true) (fun a b _ _ h1 h2 => leS_antisymm h1 h2) (sortedS_all hs) (List.pairwise_mergeSort leS_trans leS_total zs) (hp.trans (List.mergeSort_perm _ _).symm)
          rw [he]
          exact q _ _ (same_upd hn) (newL hG (by rw [List.length_map, List.length_mergeSort]; simpa using hz) (rpl_strs fun z hz' => hsl z ((List.mergeSort_perm _ _).mem_iff.mp hz')) hn)
        · cases hg
      · cases hg
  · cases hg
theorem cr_sortX : CallR X (.builtin "sorted") (rSortX X.K) := CallR.or cr_sortedI cr_sortedS
theorem tyx_of {G : Addr → Prop} {H : Hp} {d : D} {v : V} (h : Rs w K G H d v) (hd : tyHas.contains (tyNm d) = true) : TyX K H v (.type (tyNm d)) := by
  cases d with
  | non => rw [h.non]; exact .base .non
  | bl b => rw [h.bl]; exact .base (.bl b)
  | int b => rw [h.int]; exact .base (.int b)
  | str b => rw [h.str]; exact .base (.str b)
  | tup xs =>
    obtain ⟨a, us, rfl, s, l⟩ := h.tup
    rcases s with (s | ⟨o, s⟩) | ⟨o, its, n, h1, h2, _⟩
    · exact .base (.tup s)
    · exact .fTuple s
    · exact .kTuple h1 h2
  | lst xs =>
    obtain ⟨a, us, rfl, s, l⟩ := h.lst
    rcases s with (s | ⟨o, s⟩) | ⟨o, its, n, h1, h2, _⟩
    · exact .base (.lst s)
    · exact .base (.frz s)
    · exact .kList h1 h2
  | _ => simp [tyHas, tyNm] at hd
theorem isi_ok : AppD w K isiD (rIsi K) := by
  intro G ds vs d H Q hG hg hr q
  unfold isiD at hg
  split at hg
  · obtain ⟨x, y, rfl, h1, h2⟩ := rsl2 hr
    split at hg
    · rename_i hl
      cases hg
      rw [Bool.and_eq_true] at hl
      rw [h2.ty]
      exact ⟨x, .ty _, _, _, _, rfl, .ty _, tyx_of h1 hl.2, kit_ty (kit_isTy hl.2 hl.1), q _ H (Same.refl H) rp_bl⟩
    · cases hg
  · cases hg
end
end DL
end
section
namespace DL
open PySem PySem.Spec L2
open PyProof.Rows hiding St

/-! ### slices -/
def cutL {α : Type} (xs : List α) (lo hi : Option Int) : List α := (xs.drop (HT.sIx xs.length 0 lo)).take (HT.sIx xs.length xs.length hi - HT.sIx xs.length 0 lo)
def cutD (lo hi : Option Int) : D → Option D
  | .tup xs => some (.tup (cutL xs lo hi))
  | .lst xs => some (.lst (cutL xs lo hi))
  | .str z => some (.str ⟨(cutL z.cps.toList lo hi).toArray⟩)
  | _ => none
def slD2 : List D → Option D
  | [d, .int i, .int j] => cutD (some i) (some j) d
  | _ => none
def slDlo : List D → Option D
  | [d, .int i] => cutD (some i) none d
  | _ => none
def slDhi : List D → Option D
  | [d, .int i] => cutD none (some i) d
  | _ => none
def slD0 : List D → Option D
  | [d] => cutD none none d
  | _ => none
def asInt (f : M D) : M D := f.bind fun d => match d with
  | .int i => M.pure (.int i)
  | _ => fun _ => .stuck
def asStr (f : M D) : M D := f.bind fun d => match d with
  | .str i => M.pure (.str i)
  | _ => fun _ => .stuck
section
variable {X : Cx} {fr : Fx} {W : WX} {σ : St} {H H1 H' : Hp} {ρ : Env} {Q : VK} {e a b c : Expr} {es rest : List Expr} {f fl fh fb fc : M D} {fa : ArgM} {fs : List (M D)} {pos p2 : Pos}
theorem asInt_of (h : tD fr W (asInt f) σ H Q) : tD fr W f σ H fun v H' => (∃ i, v = .int i) ∧ Q v H' := by
  obtain ⟨ρ, E, h⟩ := h
  refine ⟨ρ, E, wpR.mono (wpR.of_bind (r := f ρ) h) (fun d ρ1 q v H1 E1 s1 r1 => ?_) fun _ _ q => q⟩
  cases d with
  | int b => exact ⟨⟨b, (r1.rs (w := fr.w)).int⟩, q v H1 E1 s1 r1⟩
  | _ => exact q.elim
theorem asStr_of (h : tD fr W (asStr f) σ H Q) : tD fr W f σ H fun v H' => (∃ i, v = .str i) ∧ Q v H' := by
  obtain ⟨ρ, E, h⟩ := h
  refine ⟨ρ, E, wpR.mono (wpR.of_bind (r := f ρ) h) (fun d ρ1 q v H1 E1 s1 r1 => ?_) fun _ _ q => q⟩
  cases d with
  | str b => exact ⟨⟨b, (r1.rs (w := fr.w)).str⟩, q v H1 E1 s1 r1⟩
  | _ => exact q.elim
theorem tD_mono {Q' : VK} (h : tD fr W f σ H Q) (hq : ∀ v H', Q v H' → Q' v H') : tD fr W f σ H Q' := by
  obtain ⟨ρ, E, h⟩ := h
  exact ⟨ρ, E, wpR.mono h (fun d ρ1 q v H1 E1 s1 r1 => hq _ _ (q v H1 E1 s1 r1)) fun _ _ q => q⟩
theorem tArg_mono {Q' : VK} (h : tArg fr W fa σ H Q) (hq : ∀ v H', Q v H' → Q' v H') : tArg fr W fa σ H Q' := by
  cases fa with
  | v f => exact tD_mono h hq
  | p j =>
    obtain ⟨v, e, h⟩ := h
    exact ⟨v, e, hq _ _ h⟩
def rSlX' (K : PySem.W.Frag) : V → Option Int → Option Int → Hp → VK → Prop := fun x lo hi H Q => rSlL K x lo hi H Q ∨ (rSlA K x lo hi H Q ∨ rSlS x lo hi H Q)
theorem sl_X : SlR X (rSlX' X.K) := SlR.or sl_list (SlR.or sl_tupA sl_str)
theorem cutL_rp {K : PySem.W.Frag} {G : Addr → Prop} {ds : List D} {vs : List V} (r : RpL K G H ds vs) (lo hi : Option Int) : RpL K G H (cutL ds lo hi) (cutL vs lo hi) := by
  unfold cutL
  rw [r.length]
  exact RpL.take _ (RpL.drop _ r)
theorem cutL_len {α : Type} (xs : List α) (lo hi : Option Int) : (cutL xs lo hi).length ≤ xs.length := by
  unfold cutL
  rw [List.length_take, List.length_drop]
  omega
theorem cut_ok {w : World} {K : PySem.W.Frag} {G : Addr → Prop} {d d' : D} {v : V} {lo hi : Option Int} (hG : ∀ b, H b = none → G b) (hg : cutD lo hi d = some d') (r : Rs w K G H d v) (q : ∀ v H', Same H H' → Rp K G H' d' v → Q v H') : rSlX' K v lo hi H Q := by
  unfold cutD at hg
  split at hg
  · cases hg
    have hz := Nat.le_trans (cutL_len _ lo hi) r.tlen
    obtain ⟨a, us, rfl, s, l⟩ := r.tup
    refine .inr (.inl ⟨a, us, rfl, s, fun e => ?_, fun _ p hp => q _ _ (same_upd hp) (newT hz (cutL_rp l lo hi) hp)⟩)
    refine q _ H (Same.refl H) (Rp.tup (vs := us) hz s ?_)
    have hl := cutL_rp l lo hi
    have : cutL us lo hi = us := by
      unfold cutL
      rw [e.1, e.2, List.drop_zero, Nat.sub_zero, List.take_length]
    rw [this] at hl
    exact hl
  · cases hg
    have hz := Nat.le_trans (cutL_len _ lo hi) r.llen
    obtain ⟨a, us, rfl, s, l⟩ := r.lst
    exact .inl ⟨a, us, rfl, s, fun p hp => q _ _ (same_upd hp) (newL hG hz (cutL_rp l lo hi) hp)⟩
  · have hz := r.strL.2
    rename_i z
    cases hg
    rw [r.str]
    refine .inr (.inr ⟨z, rfl, hz, ?_⟩)
    have : cutS z lo hi = ⟨(cutL z.cps.toList lo hi).toArray⟩ := by
      unfold cutS cutL
      rw [show z.cps.toList.length = z.length from Array.length_toList ..]
    rw [this]
    refine q _ H (Same.refl H) (rp_str ?_)
    have := cutL_len z.cps.toList lo hi
    rw [Array.length_toList] at this
    exact Nat.le_trans (by show (cutL z.cps.toList lo hi).toArray.size ≤ _; rw [List.size_toArray]; exact this) hz
  · cases hg
theorem de_sl2 (ha : DA X fr W a fa) (hb : DE X fr W b fl) (hc : DE X fr W c fh) (hk : fr.K = X.K) : DE X fr W (.Subscript a (.Slice (some b) (some c) none p2) pos) (appM [fa, .v (asInt fl), .v (asInt fh)] slD2) :=
  pe_mono (pe_slice sl_X ha.e (po_some hb) (po_some hc)) fun σ H Q h => by
    have h := app_of (fs := [fa, .v (asInt fl), .v (asInt fh)]) (r := fun vs H Q => match vs with | [x, .int i, .int j] => rSlX' fr.K x (some i) (some j) H Q | _ => False) (ha.p.cons (Pl.v.cons Pl.v)) (fun G ds vs d H Q hG hg hr q => by
      unfold slD2 at hg
      split at hg
      · obtain ⟨x, y, z, rfl, h1, h2, h3⟩ := rsl3 hr
        rw [h2.int, h3.int]
        exact cut_ok hG hg h1 q
      · cases hg) h
    refine tArg_mono h fun x H1 h => ?_
    refine tD_mono (asInt_of h) fun y H2 ⟨⟨i, e⟩, h⟩ => ⟨i, e, ?_⟩
    subst e
    refine tD_mono (asInt_of h) fun z H3 ⟨⟨j, e⟩, h⟩ => ⟨j, e, ?_⟩
    subst e
    exact hk ▸ h
theorem de_slLo (ha : DA X fr W a fa) (hb : DE X fr W b fl) (hk : fr.K = X.K) : DE X fr W (.Subscript a (.Slice (some b) none none p2) pos) (appM [fa, .v (asInt fl)] slDlo) :=
  pe_mono (pe_slice sl_X ha.e (po_some hb) po_none) fun σ H Q h => by
    have h := app_of (fs := [fa, .v (asInt fl)]) (r := fun vs H Q => match vs with | [x, .int i] => rSlX' fr.K x (some i) none H Q | _ => False) (ha.p.cons Pl.v) (fun G ds vs d H Q hG hg hr q => by
      unfold slDlo at hg
      split at hg
      · obtain ⟨x, y, rfl, h1, h2⟩ := rsl2 hr
        rw [h2.int]
        exact cut_ok hG hg h1 q
      · cases hg) h
    refine tArg_mono h fun x H1 h => ?_
    refine tD_mono (asInt_of h) fun y H2 ⟨⟨i, e⟩, h⟩ => ⟨i, e, ?_⟩
    subst e
    exact hk ▸ h
theorem de_slHi (ha : DA X fr W a fa) (hb : DE X fr W b fh) (hk : fr.K = X.K) : DE X fr W (.Subscript a (.Slice none (some b) none p2) pos) (appM [fa, .v (asInt fh)] slDhi) :=
  pe_mono (pe_slice sl_X ha.e po_none (po_some hb)) fun σ H Q h => by
    have h := app_of (fs := [fa, .v (asInt fh)]) (r := fun vs H Q => match vs with | [x, .int i] => rSlX' fr.K x none (some i) H Q | _ => False) (ha.p.cons Pl.v) (fun G ds vs d H Q hG hg hr q => by
      unfold slDhi at hg
      split at hg
      · obtain ⟨x, y, rfl, h1, h2⟩ := rsl2 hr
        rw [h2.int]
        exact cut_ok hG hg h1 q
      · cases hg) h
    refine tArg_mono h fun x H1 h => ?_
    refine tD_mono (asInt_of h) fun y H2 ⟨⟨i, e⟩, h⟩ => ⟨i, e, ?_⟩
    subst e
    exact hk ▸ h
theorem de_sl0 (ha : DA X fr W a fa) (hk : fr.K = X.K) : DE X fr W (.Subscript a (.Slice none none none p2) pos) (appM [fa] slD0) :=
  pe_mono (pe_slice sl_X ha.e po_none po_none) fun σ H Q h => by
    have h := app_of (fs := [fa]) (r := fun vs H Q => match vs with | [x] => rSlX' fr.K x none none H Q | _ => False) ha.p (fun G ds vs d H Q hG hg hr q => by
      unfold slD0 at hg
      split at hg
      · obtain ⟨x, rfl, h1⟩ := rsl1 hr
        exact cut_ok hG hg h1 q
      · cases hg) h
    exact tArg_mono h fun x H1 h => hk ▸ h

/-! ### split -/
def splitD : List D → Option D
  | [.str a, .str b] => if !(b.length == 0) && lenOk (a.length + 2) && lenOk (Txt.split a b).length && (Txt.split a b).all (fun z => lenOk z.length) then some (.lst ((Txt.split a b).map .str)) else none
  | _ => none
theorem de_split {apos : Pos} (ha : DE X fr W a f) (hb : DE X fr W b fl) (hs : starEach [b] X.env = [(false, eval b X.env)] := by rfl) (hbase : attributeBase a "split" X.env (eval a X.env) = eval a X.env := by rfl) (hline : (apos.endLine == pos.line) = true := by rfl) :
    DE X fr W (.Call (.Attribute a "split" apos) [b] [] pos) (appM [.v (asStr f), .v fl] splitD) :=
  pe_mono (pe_split ha hb hs hbase hline) fun σ H Q h => by
    have h := app_of (fs := [.v (asStr f), .v fl]) (r := fun vs H Q => match vs with | [x, y] => (∃ a b, x = .str a ∧ y = .str b ∧ (b.length == 0) = false ∧ a.length + 2 ≤ sizeLine ∧ rNewStrs (Txt.split a b) H Q) | _ => False) (Pl.v.cons Pl.v) (fun G ds vs d H Q hG hg hr q => by
      unfold splitD at hg
      split at hg
      · obtain ⟨x, y, rfl, h1, h2⟩ := rsl2 hr
        rw [h1.str, h2.str]
        split at hg
        · rename_i hl
          cases hg
          simp only [Bool.and_eq_true, Bool.not_eq_true', List.all_eq_true] at hl
          exact ⟨_, _, rfl, rfl, hl.1.1.1, lenOk_iff.mp hl.1.1.2, fun p hp => q _ _ (same_upd hp) (newL hG (by rw [List.length_map]; exact lenOk_iff.mp hl.1.2) (rpl_strs fun z hz => lenOk_iff.mp (hl.2 z hz)) hp)⟩
        · cases hg
      · cases hg) h
    refine tD_mono (asStr_of h) fun x H1 ⟨e, h⟩ => ⟨e, tD_mono h fun y H2 h => ?_⟩
    obtain ⟨a', b', e1, e2, h1, h2, h3⟩ := h
    exact ⟨a', b', e1, by rw [e2], h1, h2, h3⟩

/-! ### a < b < c -/
def eChain (fa fb fc : M D) (g g' : List D → Option D) : M D := fa.bind fun x => fb.bind fun y ρ => match g [x, y] with
  | some (.bl true) => (fc.bind fun z => M.opt (g' [y, z])) ρ
  | some (.bl false) => .ok (.bl false) ρ
  | _ => .stuck
theorem chain_of {r r' : R2} {g g' : List D → Option D} {fa fb fc : M D} (hg : AppD fr.w fr.K g (r2 r)) (hg' : AppD fr.w fr.K g' (r2 r')) (h : tD fr W (eChain fa fb fc g g') σ H Q) : tChain r r' (tD fr W fa) (tD fr W fb) (tD fr W fc) σ H Q := by
  obtain ⟨ρ, E, h⟩ := h
  refine ⟨ρ, E, wpR.mono (Go.bind h) (fun _ _ q x H1 E1 s1 r1 => ?_) fun _ _ q => q⟩
  obtain ⟨dx, ρ1, E1', s1', r1', q⟩ := q x H1 E1 s1 r1
  refine ⟨ρ1, E1', wpR.mono (Go.bind q) (fun _ _ q y H2 E2 s2 r2 => ?_) fun _ _ q => q⟩
  obtain ⟨dy, ρ2, E2', s2', r2', q⟩ := q y H2 E2 s2 r2
  cases hgd : g [dx, dy] with
  | none => simp only [Go, hgd] at q; exact q.elim
  | some d =>
    refine hg _ [dx, dy] [x, y] d H2 _ (fun b hb => E2'.free hb) hgd ⟨x, _, rfl, ((r1'.good s2').rs (w := fr.w)), y, _, rfl, (r2'.rs (w := fr.w)), rfl⟩ fun v H3 s3 r3 => ?_
    cases d with
    | bl k =>
      refine ⟨k, (r3.rs (w := fr.w)).bl, ?_⟩
      cases k with
      | false =>
        simp only [Go, hgd] at q
        exact (if_neg Bool.false_ne_true).mpr (q _ H3 (E2'.same s3) (Stp.same s3) rp_bl)
      | true =>
        simp only [Go, hgd] at q
        refine (if_pos rfl).mpr ⟨ρ2, E2'.same s3, wpR.mono (Go.bind (Go.stp (show Go fr W σ H2 _ Q from q) (Stp.same s3))) (fun _ _ q z H4 E4 s4 r4 => ?_) fun _ _ q => q⟩
        obtain ⟨dz, ρ4, E4', s4', r4', q⟩ := q z H4 E4 s4 r4
        cases hgz : g' [dy, dz] with
        | none => rw [hgz] at q; exact q.elim
        | some d' =>
          rw [hgz] at q
          exact hg' _ [dy, dz] [y, z] d' H4 Q (fun b hb => E4'.free hb) hgz ⟨y, _, rfl, (((r2'.good (Stp.same s3)).good s4').rs (w := fr.w)), z, _, rfl, (r4'.rs (w := fr.w)), rfl⟩ fun v H5 s5 r5 => q v H5 (E4'.same s5) (Stp.same s5) r5
    | _ => simp only [Go, hgd] at q; exact q.elim
theorem de_chain {op op' : CmpOp} {r r' : R2} {g g' : List D → Option D} {fa : M D} (ho : OpR X (compareOp op) r) (ho' : OpR X (compareOp op') r') (hg : AppD fr.w fr.K g (r2 r)) (hg' : AppD fr.w fr.K g' (r2 r')) (ha : DE X fr W a fa) (hb : DE X fr W b fb) (hc : DE X fr W c fc)
    (hm : lastMarks [op, op'] [b, c] = false := by with_unfolding_all rfl) : DE X fr W (.Compare a [op, op'] [b, c] pos) (eChain fa fb fc g g') :=
  pe_mono (pe_chain ho ho' ha hb hc hm) fun σ H Q h => chain_of hg hg' h
theorem dt_chain {op op' : CmpOp} {r r' : R2} {g g' : List D → Option D} {fa : M D} (ho : OpR X (compareOp op) r) (ho' : OpR X (compareOp op') r') (hg : AppD fr.w fr.K g (r2 r)) (hg' : AppD fr.w fr.K g' (r2 r')) (ha : DE X fr W a fa) (hb : DE X fr W b fb) (hc : DE X fr W c fc)
    (hm : lastMarks [op, op'] [b, c] = false := by with_unfolding_all rfl) : DT X fr W (.Compare a [op, op'] [b, c] pos) (eTst (eChain fa fb fc g g')) :=
  pt_mono (pt_chain ho ho' ha hb hc hm) fun σ H Q h => chain_of hg hg' (tst_of h)
end
end DL
end
section
namespace DL
open PySem PySem.Spec L2
open PyProof.Rows hiding St

/-! ### statements -/
inductive Fl where
  | nx | bk | ct | rt (d : D) | rf (d : D)
/-- behind a statement: what was not owned stands as it stood, and is not owned -/
structure StS (fr : Fr) (σ : St) (H : Hp) (σ' : St) (H' : Hp) : Prop where
  k : ∀ b o, H b = some o → ¬ Owned fr σ b → H' b = some o ∧ ¬ Owned fr σ' b
  t : ∀ b xs, H b = some (.tup xs) → H' b = some (.tup xs)
  f : ∀ b o u, H b = some (.frz o u) → H' b = some (.frz o u)
theorem StS.of {fr : Fr} {σ : St} {H H' : Hp} (s : Stp (Owned fr σ) H H') : StS fr σ H σ H' := ⟨fun b o h n => ⟨s.k b o h n, n⟩, s.t, s.f⟩
theorem StS.refl {fr : Fr} {σ : St} {H : Hp} : StS fr σ H σ H := StS.of Stp.refl
theorem StS.trans {fr : Fr} {σ σ1 σ2 : St} {H H1 H2 : Hp} (a : StS fr σ H σ1 H1) (b : StS fr σ1 H1 σ2 H2) : StS fr σ H σ2 H2 :=
  ⟨fun c o h n => b.k c o (a.k c o h n).1 (a.k c o h n).2, fun c xs h => b.t c xs (a.t c xs h), fun c o u h => b.f c o u (a.f c o u h)⟩
/-- a value that is handed back -/
def Rt (fr : Fr) (H : Hp) (d : D) (v : V) : Prop := Rp fr.K (fun b => (fr.F b = none ∨ fr.R b) ∧ ¬ fr.S b) H d v
section
variable (fr : Fx) (W : WX)
def ExS (e : Exn) (ρ : Env) : Prop := ∀ σ c dd H, ER fr.toFr σ H ρ → (∀ d, dd = some d → fr.F d = none) → fr.ex e c dd H → W c dd σ H
def FlP (Dn : Ends) (σ : St) (H : Hp) (fl : Fl) (ρ' : Env) : Prop := match fl with
  | .nx => ∀ σ' H', ER fr.toFr σ' H' ρ' → StS fr.toFr σ H σ' H' → Dn.nx σ' H'
  | .bk => ∀ σ' H', ER fr.toFr σ' H' ρ' → StS fr.toFr σ H σ' H' → Dn.bk σ' H'
  | .ct => ∀ σ' H', ER fr.toFr σ' H' ρ' → StS fr.toFr σ H σ' H' → Dn.ct σ' H'
  | .rt d => ∀ v σ' H', ER fr.toFr σ' H' ρ' → StS fr.toFr σ H σ' H' → Rt fr.toFr H' d v → Dn.rt v H'
  | .rf d => ∀ a H1 H' σ' o, ER fr.toFr σ' H1 ρ' → StS fr.toFr σ H σ' H1 → H1 a = none → Same H1 H' → H' a = some o → Ob fr.w fr.K (Good fr.toFr σ') H1 d a o → Dn.rt (.ref a) H'
def tS (g : M Fl) : TS := fun Dn σ H => ∃ ρ, ER fr.toFr σ H ρ ∧ wpR (g ρ) (FlP fr Dn σ H) (ExS fr W)
end
abbrev DS (X : Cx) (fr : Fx) (W : WX) (st : Stmt) (g : M Fl) : Prop := PS X st (tS fr W g)
abbrev DSs (X : Cx) (fr : Fx) (W : WX) (st : List Stmt) (g : M Fl) : Prop := PSs X st (tS fr W g)
/-! the same, with nothing said of what stands -/
def FlP0 (fr : Fx) (Dn : Ends) (fl : Fl) (ρ' : Env) : Prop := match fl with
  | .nx => ∀ σ' H', ER fr.toFr σ' H' ρ' → Dn.nx σ' H'
  | .bk => ∀ σ' H', ER fr.toFr σ' H' ρ' → Dn.bk σ' H'
  | .ct => ∀ σ' H', ER fr.toFr σ' H' ρ' → Dn.ct σ' H'
  | .rt d => ∀ v σ' H', ER fr.toFr σ' H' ρ' → Rt fr.toFr H' d v → Dn.rt v H'
  | .rf d => ∀ a H1 H' σ' o, ER fr.toFr σ' H1 ρ' → H1 a = none → Same H1 H' → H' a = some o → Ob fr.w fr.K (Good fr.toFr σ') H1 d a o → Dn.rt (.ref a) H'
def tS0 (fr : Fx) (W : WX) (g : M Fl) : TS := fun Dn σ H => ∃ ρ, ER fr.toFr σ H ρ ∧ wpR (g ρ) (FlP0 fr Dn) (ExS fr W)
abbrev DS0 (X : Cx) (fr : Fx) (W : WX) (st : Stmt) (g : M Fl) : Prop := PS X st (tS0 fr W g)
abbrev DSs0 (X : Cx) (fr : Fx) (W : WX) (st : List Stmt) (g : M Fl) : Prop := PSs X st (tS0 fr W g)
theorem FlP0.flp {fr : Fx} {Dn : Ends} {fl : Fl} {ρ : Env} {σ : St} {H : Hp} (h : FlP0 fr Dn fl ρ) : FlP fr Dn σ H fl ρ := by
  cases fl with
  | nx => exact fun σ' H' E _ => h σ' H' E
  | bk => exact fun σ' H' E _ => h σ' H' E
  | ct => exact fun σ' H' E _ => h σ' H' E
  | rt d => exact fun v σ' H' E _ r => h v σ' H' E r
  | rf d => exact fun a H1 H' σ' o E _ n s l r => h a H1 H' σ' o E n s l r
theorem ds0_of {X : Cx} {fr : Fx} {W : WX} {st : Stmt} {g : M Fl} (h : DS X fr W st g) : DS0 X fr W st g := ps_mono h fun Dn σ H ⟨ρ, E, h⟩ => ⟨ρ, E, wpR.mono h (fun _ _ q => q.flp) fun _ _ q => q⟩
theorem dss0_of {X : Cx} {fr : Fx} {W : WX} {st : List Stmt} {g : M Fl} (h : DSs X fr W st g) : DSs0 X fr W st g := pss_mono h fun Dn σ H ⟨ρ, E, h⟩ => ⟨ρ, E, wpR.mono h (fun _ _ q => q.flp) fun _ _ q => q⟩
section
variable {X : Cx} {fr : Fx} {W : WX} {σ σ' σ1 : St} {H H1 H' : Hp} {ρ ρ' : Env} {Q : VK} {e a b c : Expr} {st : Stmt} {rest : List Stmt} {f : M D} {g g' : M Fl} {ft : M Bool} {pos : Pos} {Dn : Ends} {i : Nat} {d : D} {v : V}
theorem ExS.ex {σ : St} {e : Exn} {ρ : Env} (h : ExS fr W e ρ) : Ex fr W σ e ρ := fun c dd H => h σ c dd H
theorem FlP.pre {fl : Fl} (s : StS fr.toFr σ H σ1 H1) (h : FlP fr Dn σ H fl ρ) : FlP fr Dn σ1 H1 fl ρ := by
  cases fl with
  | nx => exact fun σ' H' E s' => h σ' H' E (s.trans s')
  | bk => exact fun σ' H' E s' => h σ' H' E (s.trans s')
  | ct => exact fun σ' H' E s' => h σ' H' E (s.trans s')
  | rt d => exact fun v σ' H' E s' r => h v σ' H' E (s.trans s') r
  | rf d => exact fun a H1 H' σ' o E s' n sm l r => h a H1 H' σ' o E (s.trans s') n sm l r

def sSeq (g g' : M Fl) : M Fl := g.bind fun fl ρ => match fl with
  | .nx => g' ρ
  | fl => .ok fl ρ
def sNx : M Fl := M.pure .nx
theorem dss_nil : DSs X fr W [] sNx := pss_mono pss_nil fun Dn σ H ⟨ρ, E, h⟩ => h σ H E StS.refl
theorem tS_seq (h : tS fr W (sSeq g g') Dn σ H) : tSeq (tS fr W g) (tS fr W g') Dn σ H := by
  obtain ⟨ρ, E, h⟩ := h
  refine ⟨ρ, E, wpR.mono (wpR.of_bind (r := g ρ) h) (fun fl ρ1 q => ?_) fun _ _ q => q⟩
  cases fl with
  | nx => exact fun σ' H' E' s => ⟨ρ1, E', wpR.mono q (fun fl ρ2 q => FlP.pre s q) fun _ _ q => q⟩
  | bk => exact q
  | ct => exact q
  | rt d => exact q
  | rf d => exact q
theorem dss_cons (h1 : DS X fr W st g) (h2 : DSs X fr W rest g') : DSs X fr W (st :: rest) (sSeq g g') := pss_mono (pss_cons h1 h2) fun Dn σ H h => tS_seq h
theorem dss_one (h1 : DS X fr W st g) : DSs X fr W [st] g := pss_one h1
def sBk : M Fl := M.pure .bk
def sCt : M Fl := M.pure .ct
theorem ds_break : DS X fr W (.Break pos) sBk := ps_mono ps_break fun Dn σ H ⟨ρ, E, h⟩ => h σ H E StS.refl
theorem ds_continue : DS X fr W (.Continue pos) sCt := ps_mono ps_continue fun Dn σ H ⟨ρ, E, h⟩ => h σ H E StS.refl
theorem ds_pass : DS X fr W (.Pass pos) sNx := ps_mono ps_pass fun Dn σ H ⟨ρ, E, h⟩ => h σ H E StS.refl
theorem ds_doc {x j pos'} : DS X fr W (.Expr (.Constant (.str x) j pos) pos') sNx := ps_mono ps_doc fun Dn σ H ⟨ρ, E, h⟩ => h σ H E StS.refl
def sIf (ft : M Bool) (g g' : M Fl) : M Fl := ft.bind fun c ρ => if c then g ρ else g' ρ
theorem ex_ex {r : Res Fl} (h : wpR r (FlP fr Dn σ H) (ExS fr W)) (s : StS fr.toFr σ H σ1 H1) : wpR r (FlP fr Dn σ1 H1) (ExS fr W) := wpR.mono h (fun fl ρ q => FlP.pre s q) fun _ _ q => q
/-- a part that is an expression, then the rest -/
theorem wp_head {α : Type} {r : Res α} {k : α → M Fl} {Qo : α → Env → Prop} (h : wpR (r.bind k) (FlP fr Dn σ H) (ExS fr W)) (ho : ∀ a ρ', wpR (k a ρ') (FlP fr Dn σ H) (ExS fr W) → Qo a ρ') : wpR r Qo (Ex fr W σ) :=
  wpR.mono (wpR.of_bind h) ho fun _ _ q => q.ex
theorem ds_if {x y : List Stmt} (hc : DT X fr W c ft) (ha : DSs X fr W x g) (hb : DSs X fr W y g') : DS X fr W (.If c x y pos) (sIf ft g g') :=
  ps_mono (ps_if hc ha hb) fun Dn σ H ⟨ρ, E, h⟩ => ⟨ρ, E, wp_head h fun b ρ1 q H1 E1 s1 => by
    cases b with
    | true => exact (if_pos rfl).mpr ⟨ρ1, E1, ex_ex q (StS.of s1)⟩
    | false => exact (if_neg Bool.false_ne_true).mpr ⟨ρ1, E1, ex_ex q (StS.of s1)⟩⟩
theorem ER.s_own (E : ER fr.toFr σ H ρ) {b : Addr} (h : fr.S b) : Owned fr.toFr σ b := by
  obtain ⟨i, hP, hA⟩ := h
  obtain ⟨hO, h1, _⟩ := E.par i hP
  exact ⟨i, hO, hA ▸ h1⟩
theorem ER.rt (E : ER fr.toFr σ H ρ) (r : Rp fr.K (Good fr.toFr σ) H d v) : Rt fr.toFr H d v :=
  Rp.move (fun b o g q => ⟨⟨g.1, fun z => g.2.1 (E.s_own z)⟩, q⟩) (fun _ _ q => q) (fun _ _ _ q => q) d v r
def sRet (f : M D) : M Fl := f.bind fun d => M.pure (.rt d)
def sRetN : M Fl := M.pure (.rt .non)
theorem ds_ret (h : DE X fr W e f) : DS X fr W (.Return (some e) pos) (sRet f) :=
  ps_mono (ps_ret h) fun Dn σ H ⟨ρ, E, h⟩ => ⟨ρ, E, wp_head h fun d ρ1 q v H1 E1 s1 r1 => q v σ H1 E1 (StS.of s1) (E1.rt r1)⟩
theorem ds_retN : DS X fr W (.Return none pos) sRetN := ps_mono ps_retN fun Dn σ H ⟨ρ, E, h⟩ => h .non σ H E StS.refl (by unfold Rt; exact rp_non)
/-- an owned object is handed back -/
def sRetP (i : Nat) : M Fl := fun ρ => match ρ[i]? with
  | some (some (.lst ds)) => .ok (.rt (.lst ds)) ρ
  | _ => .stuck
theorem Ow.rp {w : World} {K : PySem.W.Frag} {G : Addr → Prop} {a : Addr} {ds : List D} (h : Ow w K G H (.lst ds) a) (ha : G a) : Rp K G H (.lst ds) (.ref a) := by
  obtain ⟨o, e, z, vs, rfl, r⟩ := h
  exact Rp.lst z (.inl ⟨ha, .inl e⟩) r
theorem ds_retP {x : Str} {p : Pos} (hO : fr.O i = true) (hP : fr.P i = false) (hN : X.N[i]? = some x) (hv : Vis X.env.scope x) (hd : (x == ("__debug__" : Str)) = false := by decide) (hcd : (x == ("__classdict__" : Str)) = false := by decide) :
    DS X fr W (.Return (some (.Name x p)) pos) (sRetP i) :=
  ps_mono (ps_ret (pe_var hN hv hd hcd)) fun Dn σ H ⟨ρ, E, h⟩ => by
    unfold sRetP at h
    split at h
    · rename_i d hd
      obtain ⟨a, h1, h2, h3⟩ := E.ow i _ hd hO
      have hs : ¬ fr.S a := fun ⟨j, hj, hA⟩ => by
        obtain ⟨hOj, h4, _⟩ := E.par j hj
        have := E.ne i j a hO hOj h1 (hA ▸ h4)
        subst this
        rw [hP] at hj
        cases hj
      refine ⟨.ref a, h1, h (.ref a) σ H E StS.refl ?_⟩
      refine Ow.rp (h2.move (fun _ q => q) (fun b o g q => ⟨⟨g.1, fun z => g.2.1 (E.s_own z)⟩, q⟩) (fun _ _ q => q) fun _ _ _ q => q) ⟨.inl ?_, hs⟩
      rcases h3 with h3 | h3
      · exact absurd h3 hs
      · exact h3
    · exact h.elim

/-! ### a name is stored -/
theorem own_set (hO : fr.O i = false) {x : Option V} {b : Addr} : Owned fr.toFr (σ.set i x) b ↔ Owned fr.toFr σ b := by
  constructor
  · rintro ⟨j, h1, h2⟩
    by_cases e : j = i
    · subst e; rw [hO] at h1; cases h1
    · rw [List.getElem?_set_ne (Ne.symm e)] at h2
      exact ⟨j, h1, h2⟩
  · rintro ⟨j, h1, h2⟩
    refine ⟨j, h1, ?_⟩
    by_cases e : j = i
    · subst e; rw [hO] at h1; cases h1
    · rw [List.getElem?_set_ne (Ne.symm e)]
      exact h2
theorem good_set (hO : fr.O i = false) {x : Option V} {b : Addr} (h : Good fr.toFr σ b) : Good fr.toFr (σ.set i x) b := ⟨h.1, fun z => h.2.1 ((own_set hO).mp z), h.2.2⟩
theorem Rp.setg (hO : fr.O i = false) {x : Option V} {K : PySem.W.Frag} (h : Rp K (Good fr.toFr σ) H d v) : Rp K (Good fr.toFr (σ.set i x)) H d v := Rp.move (fun b o g q => ⟨good_set hO g, q⟩) (fun _ _ q => q) (fun _ _ _ q => q) d v h
theorem Ow.setg (hO : fr.O i = false) {x : Option V} {w : World} {K : PySem.W.Frag} {a : Addr} (h : Ow w K (Good fr.toFr σ) H d a) : Ow w K (Good fr.toFr (σ.set i x)) H d a := Ow.move (fun _ q => q) (fun b o g q => ⟨good_set hO g, q⟩) (fun _ _ q => q) (fun _ _ _ q => q) h
theorem ER.set (E : ER fr.toFr σ H ρ) (hO : fr.O i = false) (r : Rp fr.K (Good fr.toFr σ) H d v) : ER fr.toFr (σ.set i (some v)) H (ρ.set i (some d)) where
  len := by simp only [List.length_set, E.len]
  pl := fun j d' h1 h2 => by
    by_cases e : i = j
    · subst e
      have hi : i < ρ.length := by
        have := (List.getElem?_eq_some_iff.mp h1).1
        simpa using this
      rw [List.getElem?_set_self hi] at h1
      cases h1
      exact ⟨v, List.getElem?_set_self (by rw [E.len]; exact hi), r.setg hO⟩
    · rw [List.getElem?_set_ne e] at h1
      obtain ⟨v', h3, h4⟩ := E.pl j d' h1 h2
      exact ⟨v', by rw [List.getElem?_set_ne e]; exact h3, h4.setg hO⟩
  ow := fun j d' h1 h2 => by
    have e : i ≠ j := fun z => by subst z; rw [hO] at h2; cases h2
    rw [List.getElem?_set_ne e] at h1
    obtain ⟨a, h3, h4, h5⟩ := E.ow j d' h1 h2
    exact ⟨a, by rw [List.getElem?_set_ne e]; exact h3, h4.setg hO, h5⟩
  nn := fun j h1 h2 => by
    have e : i ≠ j := fun z => by subst z; rw [hO] at h1; cases h1
    rw [List.getElem?_set_ne e] at h2 ⊢
    exact E.nn j h1 h2
  ne := fun j k a h1 h2 h3 h4 => by
    have e : i ≠ j := fun z => by subst z; rw [hO] at h1; cases h1
    have e' : i ≠ k := fun z => by subst z; rw [hO] at h2; cases h2
    rw [List.getElem?_set_ne e] at h3
    rw [List.getElem?_set_ne e'] at h4
    exact E.ne j k a h1 h2 h3 h4
  par := fun j h1 => by
    obtain ⟨h2, h3, d', h4⟩ := E.par j h1
    have e : i ≠ j := fun z => by subst z; rw [hO] at h2; cases h2
    exact ⟨h2, by rw [List.getElem?_set_ne e]; exact h3, d', by rw [List.getElem?_set_ne e]; exact h4⟩
  step := E.step
  xt := fun b h => ⟨(E.xt b h).1, fun z => (E.xt b h).2 ((own_set hO).mp z)⟩
theorem StS.set (hO : fr.O i = false) {x : Option V} : StS fr.toFr σ H (σ.set i x) H := ⟨fun b o h n => ⟨h, fun z => n ((own_set hO).mp z)⟩, fun _ _ q => q, fun _ _ _ q => q⟩
/-! targets -/
abbrev MG := D → Env → Option Env
/-- nothing is stored but at sl -/
def Off (sl : List Nat) (σ σ' : L2.St) : Prop := σ'.length = σ.length ∧ ∀ i, i ∉ sl → σ'[i]? = σ[i]?
def tG (fr : Fx) (sl : List Nat) (g : MG) : TG := fun v σ H Q => ∃ d ρ ρ', ER fr.toFr σ H ρ ∧ Rp fr.K (Good fr.toFr σ) H d v ∧ g d ρ = some ρ' ∧ ∀ σ' H', ER fr.toFr σ' H' ρ' → StS fr.toFr σ H σ' H' → Off sl σ σ' → Q σ' H'
abbrev DG (X : Cx) (fr : Fx) (sl : List Nat) (tg : Expr) (g : MG) : Prop := PG X tg (tG fr sl g)
theorem pg_mono {tg : Expr} {t t' : TG} (h : PG X tg t) (hi : ∀ v σ H Q, t' v σ H Q → t v σ H Q) : PG X tg t' := ⟨fun pins s σ H v u Q I r q => h.run pins s σ H v u Q I r (hi v σ H Q q)⟩
theorem pgs_mono {tg : List Expr} {t t' : TGs} (h : PGs X tg t) (hi : ∀ v σ H Q, t' v σ H Q → t v σ H Q) : PGs X tg t' := ⟨fun pins s σ H v u Q I r q => h.run pins s σ H v u Q I r (hi v σ H Q q)⟩
def gV (i : Nat) : MG := fun d ρ => some (ρ.set i (some d))
theorem dg_name {x : Str} (hO : fr.O i = false) (hN : X.N.Nodup) (hi : X.N[i]? = some x) (hx : Loc X.env.scope x) (hf : X.fn x = true ∨ X.env.scope.names.lookup x = some .local := by first | exact .inl rfl | exact .inr rfl | assumption) : DG X fr [i] (.Name x pos) (gV i) :=
  pg_mono (pg_name hN hi hx hf) fun v σ H Q ⟨d, ρ, ρ', E, r, e, q⟩ => by
    cases e
    exact q _ _ (E.set hO r) (StS.set hO) ⟨List.length_set, fun j hj => List.getElem?_set_ne fun z => hj (by rw [z]; exact List.mem_cons_self ..)⟩
def gsN : List D → Env → Option Env
  | [], ρ => some ρ
  | _, _ => none
def gsC (g : MG) (gs : List D → Env → Option Env) : List D → Env → Option Env
  | d :: ds, ρ => (g d ρ).bind (gs ds)
  | [], _ => none
def tGs (fr : Fx) (sl : List Nat) (g : List D → Env → Option Env) : TGs := fun vs σ H Q => ∃ ds ρ ρ', ER fr.toFr σ H ρ ∧ RpL fr.K (Good fr.toFr σ) H ds vs ∧ g ds ρ = some ρ' ∧ ∀ σ' H', ER fr.toFr σ' H' ρ' → StS fr.toFr σ H σ' H' → Off sl σ σ' → Q σ' H'
abbrev DGs (X : Cx) (fr : Fx) (sl : List Nat) (tg : List Expr) (g : List D → Env → Option Env) : Prop := PGs X tg (tGs fr sl g)
theorem dgs_nil : DGs X fr [] [] gsN := pgs_mono pgs_nil fun vs σ H Q ⟨ds, ρ, ρ', E, r, e, q⟩ => by
  cases ds with
  | nil =>
    simp only [RpL] at r
    cases e
    exact ⟨r, q _ _ E StS.refl ⟨rfl, fun _ _ => rfl⟩⟩
  | cons d ds => cases e
theorem Rp.sts (s : StS fr.toFr σ H σ' H') {K : PySem.W.Frag} (h : Rp K (Good fr.toFr σ) H d v) : Rp K (Good fr.toFr σ') H' d v :=
  Rp.move (fun b o g q => ⟨⟨g.1, (s.k b o q g.2.1).2, g.2.2⟩, (s.k b o q g.2.1).1⟩) s.t s.f d v h
theorem RpL.sts (s : StS fr.toFr σ H σ' H') {K : PySem.W.Frag} {ds : List D} {vs : List V} (h : RpL K (Good fr.toFr σ) H ds vs) : RpL K (Good fr.toFr σ') H' ds vs :=
  RpL.move (fun b o g q => ⟨⟨g.1, (s.k b o q g.2.1).2, g.2.2⟩, (s.k b o q g.2.1).1⟩) s.t s.f ds vs h
theorem dgs_cons {t : Expr} {ts : List Expr} {g : MG} {gs : List D → Env → Option Env} {sl sl' : List Nat} (h : DG X fr sl t g) (hs : DGs X fr sl' ts gs) (he : (assignEach (t :: ts) X.env).map (·.2) = assign t X.env :: (assignEach ts X.env).map (·.2) := by rfl) : DGs X fr (sl ++ sl') (t :: ts) (gsC g gs) :=
  pgs_mono (pgs_cons h hs he) fun vs σ H Q ⟨ds, ρ, ρ', E, r, e, q⟩ => by
    cases ds with
    | nil => cases e
    | cons d ds =>
      obtain ⟨v, us, rfl, r1, r2⟩ := RpL.uncons r
      simp only [gsC, Option.bind_eq_some_iff] at e
      obtain ⟨ρ1, e1, e2⟩ := e
      exact ⟨v, us, rfl, d, ρ, ρ1, E, r1, e1, fun σ1 H1 E1 s1 o1 => ⟨ds, ρ1, ρ', E1, r2.sts s1, e2, fun σ2 H2 E2 s2 o2 => q σ2 H2 E2 (s1.trans s2) ⟨o2.1.trans o1.1, fun i hi => (o2.2 i fun z => hi (List.mem_append_right _ z)).trans (o1.2 i fun z => hi (List.mem_append_left _ z))⟩⟩⟩
def gTup (n : Nat) (gs : List D → Env → Option Env) : MG := fun d ρ => match d with
  | .tup ds => if ds.length = n then gs ds ρ else none
  | _ => none
theorem dg_tup {es : List Expr} {k : Nat} {gs : List D → Env → Option Env} {n : Nat} (hc : X.calm = true) (hk : fr.K = X.K) {sl : List Nat} (h : DGs X fr sl es gs)
    (hn : (assignEach es X.env).length = n := by rfl) (hst : (assignEach es X.env).findIdx? (·.1) = none := by rfl) : DG X fr sl (.Tuple es k pos) (gTup n gs) :=
  pg_mono (pg_tup hc h hn hst) fun v σ H Q ⟨d, ρ, ρ', E, r, e, q⟩ => by
    unfold gTup at e
    split at e
    · obtain ⟨a, us, rfl, _, s, l⟩ := r.un_tup
      split at e
      · rename_i hl
        exact ⟨a, us, rfl, hk ▸ s, by rw [l.length]; exact hl, _, ρ, ρ', E, l, e, q⟩
      · cases e
    · cases e
def sAsg (f : M D) (g : MG) : M Fl := f.bind fun d ρ => match g d ρ with
  | some ρ' => .ok .nx ρ'
  | none => .stuck
theorem ds_asg {tg : Expr} {g : MG} (he : DE X fr W e f) {sl : List Nat} (hg : DG X fr sl tg g) (hs : swapsWithSole [tg] e pos.line X.env = pure false := by rfl) (hw : swappedStores [tg] e X.env = pure none := by rfl)
    (h1 : (assignEach [tg] X.env).map (·.2) = [assign tg X.env] := by rfl) : DS X fr W (.Assign [tg] e pos) (sAsg f g) :=
  ps_mono (ps_asg he hg hs hw h1) fun Dn σ H ⟨ρ, E, h⟩ => ⟨ρ, E, wp_head h fun d ρ1 q v H1 E1 s1 r1 => by
    cases hgd : g d ρ1 with
    | none => rw [hgd] at q; exact q.elim
    | some ρ2 =>
      rw [hgd] at q
      exact ⟨d, ρ1, ρ2, E1, r1, hgd, fun σ2 H2 E2 s2 _ => q σ2 H2 E2 ((StS.of s1).trans s2)⟩⟩
end
end DL
end
section
namespace DL
open PySem PySem.Spec L2
open PyProof.Rows hiding St

/-! ### defs -/
inductive FRes where
  | ok (d : D) (outs : List D) | exn (e : Exn) (outs : List D) | stuck
abbrev Fn := List D → FRes
def outsOf (io : List Nat) (ρ : Env) : Option (List D) := match io with
  | [] => some []
  | i :: r => match ρ[i]? with
    | some (some d) => (outsOf r ρ).map (d :: ·)
    | _ => none
def frOk (io : List Nat) (d : D) (ρ : Env) : FRes := match outsOf io ρ with
  | some os => .ok d os
  | none => .stuck
def frEx (io : List Nat) (e : Exn) (ρ : Env) : FRes := match outsOf io ρ with
  | some os => .exn e os
  | none => .stuck
/-- a def with n slots, by its body -/
def mkFn (nw : Bool) (n : Nat) (io : List Nat) (g : M Fl) : Fn := fun ds => match g (ds.map some ++ List.replicate (n - ds.length) none) with
  | .ok (.rt d) ρ => if nw then .stuck else frOk io d ρ
  | .ok (.rf d) ρ => if nw then frOk io d ρ else (match d with
    | .lst ds => frOk io (.lst ds) ρ
    | _ => .stuck)
  | .ok .nx ρ => if nw then .stuck else frOk io .non ρ
  | .ok _ _ => .stuck
  | .exn e ρ => frEx io e ρ
  | .stuck => .stuck
def S_ (io : List Nat) (vs : List V) (b : Addr) : Prop := ∃ i : Nat, i ∈ io ∧ vs[i]? = some (V.ref b)
structure ArgsOk (w : World) (K : PySem.W.Frag) (R : Addr → Prop) (io : List Nat) (H : Hp) (ds : List D) (vs : List V) : Prop where
  len : vs.length = ds.length
  pl : ∀ i d, ds[i]? = some d → i ∉ io → ∃ v, vs[i]? = some v ∧ Rp K R H d v
  ow : ∀ i, i ∈ io → ∃ d a, ds[i]? = some d ∧ vs[i]? = some (.ref a) ∧ Ow w K R H d a
  ne : ∀ i j a, i ∈ io → j ∈ io → vs[i]? = some (.ref a) → vs[j]? = some (.ref a) → i = j
  s : ∀ b, S_ io vs b → ¬ R b
def Gr (R : Addr → Prop) (io : List Nat) (vs : List V) (H : Hp) (b : Addr) : Prop := (H b = none ∨ R b) ∧ ¬ S_ io vs b
def OutsOk (w : World) (K : PySem.W.Frag) (R : Addr → Prop) (io : List Nat) (vs : List V) (H H' : Hp) (outs : List D) : Prop :=
  ∀ k i : Nat, io[k]? = some i → ∃ a d, vs[i]? = some (.ref a) ∧ outs[k]? = some d ∧ Ow w K (Gr R io vs H) H' d a
def spD (w : World) (K : PySem.W.Frag) (xr : XR) (nw : Bool) (n : Nat) (io : List Nat) (m : Fn) : Sp := fun vs H Q E => vs.length = n ∧ ∃ (ds : List D) (R : Addr → Prop), ArgsOk w K R io H ds vs ∧
  match m ds with
  | .ok d outs => if nw = true then (∀ a H1 H' o, Stp (S_ io vs) H H1 → H1 a = none → Same H1 H' → H' a = some o → Ob w K (Gr R io vs H) H1 d a o → OutsOk w K R io vs H H1 outs → Q (.ref a) H')
    else ∀ v H', Stp (S_ io vs) H H' → Rp K (Gr R io vs H) H' d v → OutsOk w K R io vs H H' outs → Q v H'
  | .exn e outs => ∀ c dd H', Stp (S_ io vs) H H' → OutsOk w K R io vs H H' outs → (∀ d, dd = some d → H d = none) → xr e c dd H' → E c dd H'
  | .stuck => False

theorem outs_get {io : List Nat} {ρ : Env} : ∀ {os : List D}, outsOf io ρ = some os → ∀ k i : Nat, io[k]? = some i → ∃ d, ρ[i]? = some (some d) ∧ os[k]? = some d := by
  induction io with
  | nil => intro os h k i hk; simp at hk
  | cons j r ih =>
    intro os h k i hk
    unfold outsOf at h
    split at h
    · rename_i d hd
      rw [Option.map_eq_some_iff] at h
      obtain ⟨os', e, rfl⟩ := h
      cases k with
      | zero =>
        simp only [List.getElem?_cons_zero, Option.some.injEq] at hk
        subst hk
        exact ⟨d, hd, rfl⟩
      | succ k =>
        simp only [List.getElem?_cons_succ] at hk ⊢
        exact ih e k i hk
    · cases h
section
variable {P : Program} {w : World} {K : PySem.W.Frag} {mg : Str → Option Value} {base : Heap} {xr : XR}
theorem start_get {N : List Str} {vs : List V} {i : Nat} : i < vs.length → (start N vs)[i]? = (vs[i]?).map some := fun h => by
  unfold L2.start
  rw [List.getElem?_append_left (by simpa using h), List.getElem?_map]
theorem start_get' {N : List Str} {vs : List V} {i : Nat} {v : V} : (start N vs)[i]? = some (some v) → vs[i]? = some v := fun h => by
  unfold L2.start at h
  by_cases hi : i < vs.length
  · rw [List.getElem?_append_left (by simpa using hi), List.getElem?_map] at h
    cases e : vs[i]? with
    | none => rw [e] at h; cases h
    | some u =>
      rw [e] at h
      have h' : some (some u) = some (some v) := h
      cases h'
      rfl
  · rw [List.getElem?_append_right (by simp; omega), List.getElem?_replicate] at h
    split at h <;> cases h
theorem args_get {ds : List D} {n i : Nat} {d : D} : (ds.map some ++ List.replicate n (none : Option D))[i]? = some (some d) → ds[i]? = some d := fun h => by
  by_cases hi : i < ds.length
  · rw [List.getElem?_append_left (by simpa using hi), List.getElem?_map] at h
    cases e : ds[i]? with
    | none => rw [e] at h; cases h
    | some u =>
      rw [e] at h
      have h' : some (some u) = some (some d) := h
      cases h'
      rfl
  · rw [List.getElem?_append_right (by simp; omega), List.getElem?_replicate] at h
    split at h <;> cases h
/-- a def's promise, read at its entry -/
theorem def_tS0 {N ps : List Str} {nw : Bool} {io : List Nat} {O : Nat → Bool} {g : M Fl} {vs : List V} {H : Hp} {Q : VK} {E : XK}
    (hN : ps.length ≤ N.length) (hio : ∀ i, i ∈ io → i < ps.length ∧ O i = true) (hO : ∀ i, i < ps.length → O i = true → i ∈ io) (h : spD w K xr nw ps.length io (mkFn nw N.length io g) vs H Q E) :
    ∃ (R : Addr → Prop) (A0 : Nat → Addr), tS0 ⟨⟨w, K, H, R, O, fun i => io.contains i, A0, fun _ => False⟩, xr⟩ (fun c d _ H => E c d H) g { nx := fun _ H' => Q .non H', rt := Q } (L2.start N vs) H := by
  obtain ⟨hl, ds, R, a, h⟩ := h
  obtain ⟨A0, hA0⟩ : ∃ A0 : Nat → Addr, ∀ i b, vs[i]? = some (.ref b) → A0 i = b := ⟨fun i => match vs[i]? with | some (.ref b) => b | _ => 0, fun i b e => by simp only [e]⟩
  refine ⟨R, A0, ds.map some ++ List.replicate (N.length - ds.length) none, ?_, ?_⟩
  · -- the frame at the entry
    have hS : ∀ b, (Fr.mk w K H R O (fun i => io.contains i) A0 fun _ => False).S b ↔ S_ io vs b := fun b => by
      constructor
      · rintro ⟨i, h1, h2⟩
        have h1 : i ∈ io := by simpa using h1
        obtain ⟨d, a', _, e2, _⟩ := a.ow i h1
        have := hA0 i a' e2
        subst h2
        refine ⟨i, h1, ?_⟩
        rw [e2]
        show some (V.ref a') = some (V.ref (A0 i))
        rw [this]
      · rintro ⟨i, h1, h2⟩
        exact ⟨i, by simpa using h1, hA0 i b h2⟩
    have hOw : ∀ b, Owned (Fr.mk w K H R O (fun i => io.contains i) A0 fun _ => False) (start N vs) b → S_ io vs b := fun b ⟨i, h1, h2⟩ => by
      have h3 := start_get' h2
      have hi : i < vs.length := (List.getElem?_eq_some_iff.mp h3).1
      exact ⟨i, hO i (by omega) h1, h3⟩
    have hgood : ∀ b, R b → Good (Fr.mk w K H R O (fun i => io.contains i) A0 fun _ => False) (start N vs) b := fun b hb => ⟨.inr hb, fun z => a.s b (hOw b z) hb, fun z => z⟩
    refine ⟨?_, fun i d h1 h2 => ?_, fun i d h1 h2 => ?_, fun i h1 h2 => ?_, fun i j b h1 h2 h3 h4 => ?_, fun i h1 => ?_, Stp.refl, fun b z => z.elim⟩
    · have := a.len
      unfold L2.start
      simp only [List.length_append, List.length_map, List.length_replicate]
      omega
    · have h3 := args_get h1
      have hi : i < ds.length := (List.getElem?_eq_some_iff.mp h3).1
      have h2 : O i = false := h2
      obtain ⟨v, h4, h5⟩ := a.pl i d h3 (fun z => by rw [(hio i z).2] at h2; cases h2)
      refine ⟨v, ?_, Rp.move (fun b o g q => ⟨hgood b g, q⟩) (fun _ _ q => q) (fun _ _ _ q => q) d v h5⟩
      rw [start_get (by rw [a.len]; exact hi), h4]
      rfl
    · have h3 := args_get h1
      have hi : i < ds.length := (List.getElem?_eq_some_iff.mp h3).1
      have hin := hO i (by rw [← hl, a.len]; exact hi) h2
      obtain ⟨d', b, e1, e2, e3⟩ := a.ow i hin
      rw [h3] at e1
      cases e1
      refine ⟨b, ?_, e3.move (fun _ q => q) (fun b o g q => ⟨hgood b g, q⟩) (fun _ _ q => q) (fun _ _ _ q => q), .inl ((hS b).mpr ⟨i, hin, e2⟩)⟩
      rw [start_get (by rw [a.len]; exact hi), e2]
      rfl
    · cases e : (start N vs)[i]? with
      | none =>
        have l1 := (List.getElem?_eq_none_iff.mp e)
        have l2 := (List.getElem?_eq_some_iff.mp h2).1
        have := a.len
        unfold L2.start at l1
        simp only [List.length_append, List.length_map, List.length_replicate] at l1 l2
        omega
      | some y =>
        cases y with
        | none => rfl
        | some v =>
          have h3 := start_get' e
          have hi : i < ds.length := by rw [← a.len]; exact (List.getElem?_eq_some_iff.mp h3).1
          rw [List.getElem?_append_left (by simpa using hi), List.getElem?_map, List.getElem?_eq_getElem hi] at h2
          cases h2
    · have h3 := start_get' h3
      have h4 := start_get' h4
      have hi : i < vs.length := (List.getElem?_eq_some_iff.mp h3).1
      have hj : j < vs.length := (List.getElem?_eq_some_iff.mp h4).1
      exact a.ne i j b (hO i (by omega) h1) (hO j (by omega) h2) h3 h4
    · have h1 : i ∈ io := by simpa using h1
      obtain ⟨d, b, e1, e2, _⟩ := a.ow i h1
      have hi : i < ds.length := (List.getElem?_eq_some_iff.mp e1).1
      refine ⟨(hio i h1).2, ?_, d, ?_⟩
      · rw [start_get (by rw [a.len]; exact hi), e2]
        show some (some (V.ref b)) = some (some (V.ref (A0 i)))
        rw [hA0 i b e2]
      · rw [List.getElem?_append_left (by simpa using hi), List.getElem?_map, e1]
        rfl
  · -- its end
    have hS : ∀ b, (Fr.mk w K H R O (fun i => io.contains i) A0 fun _ => False).S b ↔ S_ io vs b := fun b => by
      constructor
      · rintro ⟨i, h1, h2⟩
        have h1 : i ∈ io := by simpa using h1
        obtain ⟨d, a', _, e2, _⟩ := a.ow i h1
        have := hA0 i a' e2
        subst h2
        refine ⟨i, h1, ?_⟩
        rw [e2]
        show some (V.ref a') = some (V.ref (A0 i))
        rw [this]
      · rintro ⟨i, h1, h2⟩
        exact ⟨i, by simpa using h1, hA0 i b h2⟩
    have houts : ∀ (σ' : L2.St) (H' : Hp) (ρ' : Env) (os : List D), ER (Fr.mk w K H R O (fun i => io.contains i) A0 fun _ => False) σ' H' ρ' → outsOf io ρ' = some os → OutsOk w K R io vs H H' os := fun σ' H' ρ' os E' e k i hk => by
      obtain ⟨d, e1, e2⟩ := outs_get e k i hk
      have hin : i ∈ io := List.mem_of_getElem? hk
      obtain ⟨_, b, _, e4, _⟩ := a.ow i hin
      obtain ⟨_, e5, _⟩ := E'.par i (by show io.contains i = true; simpa using hin)
      obtain ⟨a', h3, h4, _⟩ := E'.ow i d e1 (hio i hin).2
      rw [e5] at h3
      cases h3
      have hb : A0 i = b := hA0 i b e4
      refine ⟨b, d, e4, e2, ?_⟩
      have h4 : Ow w K _ H' d (A0 i) := h4
      rw [hb] at h4
      refine h4.move (fun _ q => q) (fun c o g q => ⟨⟨g.1, fun z => g.2.1 ?_⟩, q⟩) (fun _ _ q => q) (fun _ _ _ q => q)
      obtain ⟨j, hj, hA⟩ := (hS c).mpr z
      obtain ⟨hOj, e6, _⟩ := E'.par j hj
      exact ⟨j, hOj, hA ▸ e6⟩
    unfold mkFn at h
    cases hg : g (ds.map some ++ List.replicate (N.length - ds.length) none) with
    | stuck => rw [hg] at h; exact h.elim
    | exn e ρ' =>
      rw [hg] at h
      simp only [frEx] at h
      cases ho : outsOf io ρ' with
      | none => rw [ho] at h; exact h.elim
      | some os =>
        rw [ho] at h
        exact fun σ' c dd H' E' n x => h c dd H' (E'.step.mono fun b z => (hS b).mp z) (houts σ' H' ρ' os E' ho) n x
    | ok fl ρ' =>
      rw [hg] at h
      have hGr : ∀ (σ' : L2.St) (H1 : Hp) (ρ' : Env), ER (Fr.mk w K H R O (fun i => io.contains i) A0 fun _ => False) σ' H1 ρ' → ∀ b, Good (Fr.mk w K H R O (fun i => io.contains i) A0 fun _ => False) σ' b → Gr R io vs H b := fun σ' H1 ρ' E' b g => ⟨g.1, fun z => g.2.1 (by
        obtain ⟨j, hj, hA⟩ := (hS b).mpr z
        obtain ⟨hOj, e6, _⟩ := E'.par j hj
        exact ⟨j, hOj, hA ▸ e6⟩)⟩
      cases fl with
      | bk => exact h.elim
      | ct => exact h.elim
      | nx =>
        cases nw with
        | true => exact h.elim
        | false =>
          simp only [frOk] at h
          cases ho : outsOf io ρ' with
          | none => rw [ho] at h; exact h.elim
          | some os =>
            rw [ho] at h
            exact fun σ' H' E' => h _ H' (E'.step.mono fun b z => (hS b).mp z) rp_non (houts σ' H' ρ' os E' ho)
      | rt d =>
        cases nw with
        | true => exact h.elim
        | false =>
          simp only [frOk] at h
          cases ho : outsOf io ρ' with
          | none => rw [ho] at h; exact h.elim
          | some os =>
            rw [ho] at h
            exact fun v σ' H' E' r => h v H' (E'.step.mono fun b z => (hS b).mp z) (Rp.move (fun b o g q => ⟨⟨g.1, fun z => g.2 ((hS b).mpr z)⟩, q⟩) (fun _ _ q => q) (fun _ _ _ q => q) d v r) (houts σ' H' ρ' os E' ho)
      | rf d =>
        cases nw with
        | true =>
          simp only [frOk] at h
          cases ho : outsOf io ρ' with
          | none => rw [ho] at h; exact h.elim
          | some os =>
            rw [ho] at h
            intro a H1 H' σ' o E' n sm l r
            exact h a H1 H' o (E'.step.mono fun b z => (hS b).mp z) n sm l (r.move (fun b o g q => ⟨hGr σ' H1 ρ' E' b g, q⟩) (fun _ _ q => q) (fun _ _ _ q => q)) (houts σ' H1 ρ' os E' ho)
        | false =>
          cases d with
          | lst es =>
            simp only [frOk] at h
            cases ho : outsOf io ρ' with
            | none => rw [ho] at h; exact h.elim
            | some os =>
              rw [ho] at h
              intro a H1 H' σ' o E' n sm l ⟨z, us, e, r⟩
              subst e
              have r' : RpL K (Gr R io vs H) H1 es us := RpL.move (fun b o g q => ⟨hGr σ' H1 ρ' E' b g, q⟩) (fun _ _ q => q) (fun _ _ _ q => q) _ _ r
              have E'' := E'.same sm
              exact h _ H' (E''.step.mono fun b z => (hS b).mp z) (Rp.lst z (.inl ⟨hGr σ' H1 ρ' E' a (E'.free n), .inl l⟩) (r'.same sm)) (houts σ' H' ρ' os E'' ho)
          | _ => exact h.elim
/-- THE RULE for a def, over its body -/
theorem fn_okD {x qual : Str} {st : Stmt} {dfl : List V} {kws : List (Str × V)} {f : Addr} {fd : FuncData} {N ps : List Str} {k : Nat} {nw : Bool} {io : List Nat} {O : Nat → Bool} {g : M Fl} (F : FunD K x qual (defArgs st) (defBody st) (defScope st) dfl kws f fd) (S : FnScope N ps (defScope st))
    (hN : ps.length ≤ N.length) (hio : ∀ i, i ∈ io → i < ps.length ∧ O i = true) (hO : ∀ i, i < ps.length → O i = true → i ∈ io)
    (hbody : ∀ (cdv : Value) (A : Around) (outer : List PySem.Env) (s : Shared) (H : Hp) (E : XK) (F0 : Hp) (R : Addr → Prop) (A0 : Nat → Addr), Room k (A.deeper (envOfC qual (defScope st) s.heap.objs.size f cdv)) →
      DSs0 (cxOf (L2N.CX P w) P w K mg base N qual (defScope st) f cdv A outer s H E) ⟨⟨w, K, F0, R, O, fun i => io.contains i, A0, fun _ => False⟩, xr⟩ (fun c d _ H => E c d H) (defBody st) g) :
    FnOk P w K mg base (L2N.CX P w) (k + 1) f fd ps (spD w K xr nw ps.length io (mkFn nw N.length io g)) :=
  F.ok S (fun vs H Q E h => h.1) fun cdv A outer s H vs Q E hr h => by
    obtain ⟨R, A0, h⟩ := def_tS0 hN hio hO h
    exact ⟨_, hbody cdv A outer s H E H R A0 hr, h⟩
end
end DL
end
section
namespace DL
open PySem PySem.Spec L2
open PyProof.Rows hiding St

/-- the reading of an expression that hands back a new object -/
def tF (fr : Fx) (W : WX) (f : M D) : TE := fun σ H Q => ∃ ρ, ER fr.toFr σ H ρ ∧ wpR (f ρ) (fun d ρ' => ∀ a H1 H' o, ER fr.toFr σ H1 ρ' → Stp (Owned fr.toFr σ) H H1 → H1 a = none → Same H1 H' → H' a = some o → Ob fr.w fr.K (Good fr.toFr σ) H1 d a o → Q (.ref a) H') (Ex fr W σ)
abbrev DF (X : Cx) (fr : Fx) (W : WX) (e : Expr) (f : M D) : Prop := PE X e (tF fr W f)
/-! ### a call of a def -/
def putOuts (as : List ArgM) : List Nat → List D → Env → Option Env
  | [], [], ρ => some ρ
  | i :: io, d :: outs, ρ => match as[i]? with
    | some (.p j) => putOuts as io outs (ρ.set j (some d))
    | _ => none
  | _, _, _ => none
def eCall (m : Fn) (io : List Nat) (as : List ArgM) (dvs : List D) : M D := (evalA as).bind fun ods ρ => match fillA as ods ρ with
  | none => .stuck
  | some ds => match m (ds ++ dvs) with
    | .ok d outs => (match putOuts as io outs ρ with
      | some ρ' => .ok d ρ'
      | none => .stuck)
    | .exn e outs => (match putOuts as io outs ρ with
      | some ρ' => .exn e ρ'
      | none => .stuck)
    | .stuck => .stuck
/-- which operands are places -/
def shp : List ArgM → List (Option Nat)
  | [] => []
  | .v _ :: r => none :: shp r
  | .p j :: r => some j :: shp r
def placesAt : Nat → List (Option Nat) → List Nat
  | _, [] => []
  | n, none :: r => placesAt (n + 1) r
  | n, some _ :: r => n :: placesAt (n + 1) r
def shapeOk (sh : List (Option Nat)) (io : List Nat) : Bool := decide (placesAt 0 sh = io) && decide (sh.filterMap id).Nodup
theorem shp_get : ∀ {as : List ArgM} {i j : Nat}, as[i]? = some (.p j) ↔ (shp as)[i]? = some (some j)
  | [], i, j => by simp [shp]
  | .v f :: r, 0, j => by simp [shp]
  | .p k :: r, 0, j => by simp [shp]
  | .v f :: r, i + 1, j => by simp only [shp, List.getElem?_cons_succ]; exact shp_get
  | .p k :: r, i + 1, j => by simp only [shp, List.getElem?_cons_succ]; exact shp_get
theorem places_mem : ∀ {sh : List (Option Nat)} {n i : Nat}, i ∈ placesAt n sh ↔ ∃ j m, i = n + m ∧ sh[m]? = some (some j)
  | [], n, i => by simp [placesAt]
  | none :: r, n, i => by
    simp only [placesAt, places_mem]
    constructor
    · rintro ⟨j, m, rfl, h⟩
      exact ⟨j, m + 1, by omega, by simpa using h⟩
    · rintro ⟨j, m, rfl, h⟩
      cases m with
      | zero => simp at h
      | succ m => exact ⟨j, m, by omega, by simpa using h⟩
  | some k :: r, n, i => by
    simp only [placesAt, List.mem_cons, places_mem]
    constructor
    · rintro (rfl | ⟨j, m, rfl, h⟩)
      · exact ⟨k, 0, rfl, rfl⟩
      · exact ⟨j, m + 1, by omega, by simpa using h⟩
    · rintro ⟨j, m, rfl, h⟩
      cases m with
      | zero => exact .inl rfl
      | succ m => exact .inr ⟨j, m, by omega, by simpa using h⟩
theorem nodup_at : ∀ {sh : List (Option Nat)} {i i' j : Nat}, (sh.filterMap id).Nodup → sh[i]? = some (some j) → sh[i']? = some (some j) → i = i'
  | [], i, i', j, h, h1, h2 => by simp at h1
  | none :: r, i, i', j, h, h1, h2 => by
    cases i with
    | zero => simp at h1
    | succ i =>
      cases i' with
      | zero => simp at h2
      | succ i' =>
        have := nodup_at (sh := r) (by simpa using h) (by simpa using h1) (by simpa using h2)
        omega
  | some k :: r, i, i', j, h, h1, h2 => by
    have hm : ∀ m, r[m]? = some (some j) → j ∈ r.filterMap id := fun m hm => List.mem_filterMap.mpr ⟨some j, List.mem_of_getElem? hm, rfl⟩
    have h' : k ∉ r.filterMap id ∧ (r.filterMap id).Nodup := by simpa using h
    cases i with
    | zero =>
      simp at h1
      subst h1
      cases i' with
      | zero => rfl
      | succ i' => exact absurd (hm i' (by simpa using h2)) h'.1
    | succ i =>
      cases i' with
      | zero =>
        simp at h2
        subst h2
        exact absurd (hm i (by simpa using h1)) h'.1
      | succ i' =>
        have := nodup_at h'.2 (by simpa using h1) (by simpa using h2)
        omega
section
variable {X : Cx} {fr : Fx} {W : WX} {σ : L2.St} {H H1 H' : Hp} {ρ ρ' : Env} {Q : VK} {e : Expr} {es : List Expr} {pos : Pos} {as : List ArgM} {io : List Nat} {m : Fn} {dvs : List D} {dvV : List V}
theorem rpA_len : ∀ {as : List ArgM} {ods : List (Option D)} {vs : List V}, RpA fr σ H as ods vs → vs.length = as.length
  | [], _, _, h => by obtain ⟨rfl, rfl⟩ := h; rfl
  | .v f :: r, _, _, h => by
    obtain ⟨d, v, os, us, rfl, rfl, h1, h2⟩ := h
    simp only [List.length_cons, rpA_len h2]
  | .p j :: r, _, _, h => by
    obtain ⟨v, os, us, rfl, rfl, h1, h2⟩ := h
    simp only [List.length_cons, rpA_len h2]
theorem rpA_v : ∀ {as : List ArgM} {ods : List (Option D)} {vs : List V} {i : Nat} {f : M D}, RpA fr σ H as ods vs → as[i]? = some (.v f) → ∃ d v, ods[i]? = some (some d) ∧ vs[i]? = some v ∧ Rp fr.K (Good fr.toFr σ) H d v
  | [], _, _, i, f, h, e => by simp at e
  | .v g :: r, _, _, 0, f, h, e => by
    obtain ⟨d, v, os, us, rfl, rfl, h1, h2⟩ := h
    exact ⟨d, v, rfl, rfl, h1⟩
  | .p j :: r, _, _, 0, f, h, e => by simp at e
  | .v g :: r, _, _, i + 1, f, h, e => by
    obtain ⟨d, v, os, us, rfl, rfl, h1, h2⟩ := h
    simp only [List.getElem?_cons_succ] at e ⊢
    exact rpA_v h2 e
  | .p j :: r, _, _, i + 1, f, h, e => by
    obtain ⟨v, os, us, rfl, rfl, h1, h2⟩ := h
    simp only [List.getElem?_cons_succ] at e ⊢
    exact rpA_v h2 e
theorem rpA_p : ∀ {as : List ArgM} {ods : List (Option D)} {vs : List V} {i j : Nat}, RpA fr σ H as ods vs → as[i]? = some (.p j) → ∃ v, vs[i]? = some v ∧ σ[j]? = some (some v)
  | [], _, _, i, f, h, e => by simp at e
  | .v g :: r, _, _, 0, f, h, e => by simp at e
  | .p k :: r, _, _, 0, f, h, e => by
    obtain ⟨v, os, us, rfl, rfl, h1, h2⟩ := h
    simp only [List.getElem?_cons_zero, Option.some.injEq, ArgM.p.injEq] at e
    subst e
    exact ⟨v, rfl, h1⟩
  | .v g :: r, _, _, i + 1, f, h, e => by
    obtain ⟨d, v, os, us, rfl, rfl, h1, h2⟩ := h
    simp only [List.getElem?_cons_succ] at e ⊢
    exact rpA_p h2 e
  | .p j :: r, _, _, i + 1, f, h, e => by
    obtain ⟨v, os, us, rfl, rfl, h1, h2⟩ := h
    simp only [List.getElem?_cons_succ] at e ⊢
    exact rpA_p h2 e
theorem fill_len : ∀ {as : List ArgM} {ods : List (Option D)} {ds : List D}, fillA as ods ρ = some ds → ds.length = as.length
  | [], [], ds, h => by simp only [fillA, Option.some.injEq] at h; subst h; rfl
  | [], _ :: _, ds, h => by simp [fillA] at h
  | .v f :: r, some d :: os, ds, h => by
    simp only [fillA, Option.map_eq_some_iff] at h
    obtain ⟨ds', e, rfl⟩ := h
    simp only [List.length_cons, fill_len e]
  | .v f :: r, none :: os, ds, h => by simp [fillA] at h
  | .v f :: r, [], ds, h => by simp [fillA] at h
  | .p j :: r, none :: os, ds, h => by
    simp only [fillA] at h
    split at h
    · rw [Option.map_eq_some_iff] at h
      obtain ⟨ds', e, rfl⟩ := h
      simp only [List.length_cons, fill_len e]
    · cases h
  | .p j :: r, some _ :: os, ds, h => by simp [fillA] at h
  | .p j :: r, [], ds, h => by simp [fillA] at h
theorem fill_v : ∀ {as : List ArgM} {ods : List (Option D)} {ds : List D} {i : Nat} {f : M D} {d : D}, fillA as ods ρ = some ds → as[i]? = some (.v f) → ods[i]? = some (some d) → ds[i]? = some d
  | [], _, ds, i, f, d, h, e, e' => by simp at e
  | .v g :: r, some x :: os, ds, 0, f, d, h, e, e' => by
    simp only [fillA, Option.map_eq_some_iff] at h
    obtain ⟨ds', _, rfl⟩ := h
    simp only [List.getElem?_cons_zero, Option.some.injEq] at e' ⊢
    exact e'
  | .v g :: r, some x :: os, ds, i + 1, f, d, h, e, e' => by
    simp only [fillA, Option.map_eq_some_iff] at h
    obtain ⟨ds', h', rfl⟩ := h
    simp only [List.getElem?_cons_succ] at e e' ⊢
    exact fill_v h' e e'
  | .v f :: r, none :: os, ds, i, _, d, h, e, e' => by simp [fillA] at h
  | .v f :: r, [], ds, i, _, d, h, e, e' => by simp [fillA] at h
  | .p j :: r, none :: os, ds, 0, f, d, h, e, e' => by simp at e
  | .p j :: r, none :: os, ds, i + 1, f, d, h, e, e' => by
    simp only [fillA] at h
    split at h
    · rw [Option.map_eq_some_iff] at h
      obtain ⟨ds', h', rfl⟩ := h
      simp only [List.getElem?_cons_succ] at e e' ⊢
      exact fill_v h' e e'
    · cases h
  | .p j :: r, some _ :: os, ds, i, f, d, h, e, e' => by simp [fillA] at h
  | .p j :: r, [], ds, i, f, d, h, e, e' => by simp [fillA] at h
theorem fill_p : ∀ {as : List ArgM} {ods : List (Option D)} {ds : List D} {i j : Nat}, fillA as ods ρ = some ds → as[i]? = some (.p j) → ∃ d, ρ[j]? = some (some d) ∧ ds[i]? = some d
  | [], _, ds, i, j, h, e => by simp at e
  | .v g :: r, some x :: os, ds, 0, j, h, e => by simp at e
  | .v g :: r, some x :: os, ds, i + 1, j, h, e => by
    simp only [fillA, Option.map_eq_some_iff] at h
    obtain ⟨ds', h', rfl⟩ := h
    simp only [List.getElem?_cons_succ] at e ⊢
    exact fill_p h' e
  | .v f :: r, none :: os, ds, i, _, h, e => by simp [fillA] at h
  | .v f :: r, [], ds, i, _, h, e => by simp [fillA] at h
  | .p k :: r, none :: os, ds, 0, j, h, e => by
    simp only [List.getElem?_cons_zero, Option.some.injEq, ArgM.p.injEq] at e
    subst e
    simp only [fillA] at h
    split at h
    · rename_i d hd
      rw [Option.map_eq_some_iff] at h
      obtain ⟨ds', h', rfl⟩ := h
      exact ⟨d, hd, rfl⟩
    · cases h
  | .p k :: r, none :: os, ds, i + 1, j, h, e => by
    simp only [fillA] at h
    split at h
    · rw [Option.map_eq_some_iff] at h
      obtain ⟨ds', h', rfl⟩ := h
      simp only [List.getElem?_cons_succ] at e ⊢
      exact fill_p h' e
    · cases h
  | .p j :: r, some _ :: os, ds, i, _, h, e => by simp [fillA] at h
  | .p j :: r, [], ds, i, _, h, e => by simp [fillA] at h
theorem put_len : ∀ {io : List Nat} {outs : List D} {ρ ρ' : Env}, putOuts as io outs ρ = some ρ' → ρ'.length = ρ.length
  | [], [], ρ, ρ', h => by simp only [putOuts, Option.some.injEq] at h; rw [h]
  | [], _ :: _, ρ, ρ', h => by simp [putOuts] at h
  | i :: io, [], ρ, ρ', h => by simp [putOuts] at h
  | i :: io, d :: outs, ρ, ρ', h => by
    simp only [putOuts] at h
    split at h
    · have := put_len h
      simpa using this
    · cases h
theorem put_some : ∀ {io : List Nat} {outs : List D} {ρ ρ' : Env} {j : Nat} {d : D}, putOuts as io outs ρ = some ρ' → ρ'[j]? = some (some d) →
    (∃ k i : Nat, io[k]? = some i ∧ as[i]? = some (.p j) ∧ outs[k]? = some d) ∨ (ρ[j]? = some (some d) ∧ ∀ i, i ∈ io → as[i]? ≠ some (.p j))
  | [], [], ρ, ρ', j, d, h, e => by
    simp only [putOuts, Option.some.injEq] at h
    subst h
    exact .inr ⟨e, fun i hi => by cases hi⟩
  | [], _ :: _, ρ, ρ', j, d, h, e => by simp [putOuts] at h
  | i :: io, [], ρ, ρ', j, d, h, e => by simp [putOuts] at h
  | i :: io, x :: outs, ρ, ρ', j, d, h, e => by
    simp only [putOuts] at h
    split at h
    · rename_i j0 hj0
      rcases put_some h e with ⟨k, i', h1, h2, h3⟩ | ⟨h1, h2⟩
      · exact .inl ⟨k + 1, i', by simpa using h1, h2, by simpa using h3⟩
      · by_cases hj : j0 = j
        · subst hj
          have hl : j0 < ρ.length := by
            have := (List.getElem?_eq_some_iff.mp h1).1
            simpa using this
          rw [List.getElem?_set_self hl] at h1
          cases h1
          exact .inl ⟨0, i, rfl, hj0, rfl⟩
        · rw [List.getElem?_set_ne hj] at h1
          refine .inr ⟨h1, fun i' hi' => ?_⟩
          rcases List.mem_cons.mp hi' with rfl | hi'
          · rw [hj0]
            intro z
            cases z
            exact hj rfl
          · exact h2 i' hi'
    · cases h
theorem put_none : ∀ {io : List Nat} {outs : List D} {ρ ρ' : Env} {j : Nat}, putOuts as io outs ρ = some ρ' → ρ'[j]? = some none → ρ[j]? = some none
  | [], [], ρ, ρ', j, h, e => by
    simp only [putOuts, Option.some.injEq] at h
    subst h
    exact e
  | [], _ :: _, ρ, ρ', j, h, e => by simp [putOuts] at h
  | i :: io, [], ρ, ρ', j, h, e => by simp [putOuts] at h
  | i :: io, x :: outs, ρ, ρ', j, h, e => by
    simp only [putOuts] at h
    split at h
    · rename_i j0 hj0
      have h1 := put_none h e
      by_cases hj : j0 = j
      · subst hj
        have hl : j0 < ρ.length := by
          have := (List.getElem?_eq_some_iff.mp h1).1
          simpa using this
        rw [List.getElem?_set_self hl] at h1
        cases h1
      · rwa [List.getElem?_set_ne hj] at h1
    · cases h
/-- the facts at a call -/
structure CallAt (fr : Fx) (σ : L2.St) (H : Hp) (ρ : Env) (as : List ArgM) (io : List Nat) (us : List V) : Prop where
  E : ER fr.toFr σ H ρ
  p : Pl fr as
  sh : shapeOk (shp as) io = true
  at_ : ∀ i j : Nat, as[i]? = some (.p j) → ∃ v, us[i]? = some v ∧ σ[j]? = some (some v)
theorem CallAt.mem (c : CallAt fr σ H ρ as io us) {i : Nat} : i ∈ io ↔ ∃ j, as[i]? = some (.p j) := by
  have := c.sh
  unfold shapeOk at this
  rw [Bool.and_eq_true, decide_eq_true_eq] at this
  rw [← this.1, places_mem]
  constructor
  · rintro ⟨j, m, rfl, h⟩
    exact ⟨j, by rw [Nat.zero_add]; exact shp_get.mpr h⟩
  · rintro ⟨j, h⟩
    exact ⟨j, i, (Nat.zero_add i).symm, shp_get.mp h⟩
theorem CallAt.slot (c : CallAt fr σ H ρ as io us) {i i' j : Nat} (h : as[i]? = some (.p j)) (h' : as[i']? = some (.p j)) : i = i' := by
  have := c.sh
  unfold shapeOk at this
  rw [Bool.and_eq_true, decide_eq_true_eq, decide_eq_true_eq] at this
  exact nodup_at this.2 (shp_get.mp h) (shp_get.mp h')
theorem CallAt.own (c : CallAt fr σ H ρ as io us) {b : Addr} (h : S_ io us b) : ∃ i j : Nat, i ∈ io ∧ as[i]? = some (.p j) ∧ us[i]? = some (.ref b) ∧ fr.O j = true ∧ σ[j]? = some (some (.ref b)) := by
  obtain ⟨i, hi, hb⟩ := h
  obtain ⟨j, hj⟩ := c.mem.mp hi
  obtain ⟨v, h1, h2⟩ := c.at_ i j hj
  rw [hb] at h1
  cases h1
  exact ⟨i, j, hi, hj, hb, c.p j (List.mem_of_getElem? hj), h2⟩
theorem CallAt.after (c : CallAt fr σ H ρ as io us) {outs : List D} (s : Stp (S_ io us) H H') (ho : OutsOk fr.w fr.K (Good fr.toFr σ) io us H H' outs) (hp : putOuts as io outs ρ = some ρ') : ER fr.toFr σ H' ρ' ∧ Stp (Owned fr.toFr σ) H H' := by
  have hOw : ∀ b, S_ io us b → Owned fr.toFr σ b := fun b hb => by
    obtain ⟨i, j, _, _, _, h1, h2⟩ := c.own hb
    exact ⟨j, h1, h2⟩
  have s' : Stp (Owned fr.toFr σ) H H' := s.mono hOw
  have hg : ∀ b o, Good fr.toFr σ b → H b = some o → Good fr.toFr σ b ∧ H' b = some o := fun b o g q => ⟨g, s'.k b o q g.2.1⟩
  refine ⟨⟨?_, fun j d h1 h2 => ?_, fun j d h1 h2 => ?_, fun j h1 h2 => ?_, c.E.ne, fun j h1 => ?_, ?_, fun b h => ⟨(c.E.xt b h).1.imp fun o q => s'.k b o q (c.E.xt b h).2, (c.E.xt b h).2⟩⟩, s'⟩
  · rw [put_len hp]; exact c.E.len
  · rcases put_some hp h1 with ⟨k, i, _, e2, _⟩ | ⟨e1, _⟩
    · rw [c.p j (List.mem_of_getElem? e2)] at h2; cases h2
    · obtain ⟨v, h3, h4⟩ := c.E.pl j d e1 h2
      exact ⟨v, h3, Rp.move hg s.t s.f d v h4⟩
  · rcases put_some hp h1 with ⟨k, i, e1, e2, e3⟩ | ⟨e1, e2⟩
    · obtain ⟨a, d', h3, h4, h5⟩ := ho k i e1
      rw [e3] at h4
      cases h4
      obtain ⟨v, h6, h7⟩ := c.at_ i j e2
      rw [h3] at h6
      cases h6
      have hj : j < ρ.length := by
        rw [← c.E.len]
        exact (List.getElem?_eq_some_iff.mp h7).1
      cases eo : ρ[j]? with
      | none => rw [List.getElem?_eq_none_iff] at eo; omega
      | some x =>
        cases x with
        | none =>
          have := c.E.nn j h2 eo
          rw [h7] at this
          cases this
        | some d0 =>
          obtain ⟨a', h8, _, h9⟩ := c.E.ow j d0 eo h2
          rw [h7] at h8
          cases h8
          refine ⟨a, h7, h5.move (fun _ q => q) (fun b o g q => ⟨?_, q⟩) (fun _ _ q => q) (fun _ _ _ q => q), h9⟩
          rcases g.1 with g1 | g1
          · exact c.E.free g1
          · exact g1
    · obtain ⟨a, h3, h4, h5⟩ := c.E.ow j d e1 h2
      have hns : ¬ S_ io us a := fun z => by
        obtain ⟨i, j', hi, hj', _, hO, hσ⟩ := c.own z
        have := c.E.ne j j' a h2 hO h3 hσ
        subst this
        exact e2 i hi hj'
      exact ⟨a, h3, h4.move (fun o q => s.k a o q hns) hg s.t s.f, h5⟩
  · exact c.E.nn j h1 (put_none hp h2)
  · obtain ⟨h2, h3, d, h4⟩ := c.E.par j h1
    refine ⟨h2, h3, ?_⟩
    have hj : j < ρ'.length := by
      rw [put_len hp]
      exact (List.getElem?_eq_some_iff.mp h4).1
    cases eo : ρ'[j]? with
    | none => rw [List.getElem?_eq_none_iff] at eo; omega
    | some x =>
      cases x with
      | none =>
        have := put_none hp eo
        rw [h4] at this
        cases this
      | some d0 => exact ⟨d0, rfl⟩
  · refine ⟨fun b o h n => s.k b o (c.E.step.k b o h n) fun z => ?_, fun b xs h => s.t b xs (c.E.step.t b xs h), fun b o u h => s.f b o u (c.E.step.f b o u h)⟩
    obtain ⟨i, j, _, _, _, hO, hσ⟩ := c.own z
    have hj : j < ρ.length := by
      rw [← c.E.len]
      exact (List.getElem?_eq_some_iff.mp hσ).1
    cases eo : ρ[j]? with
    | none => rw [List.getElem?_eq_none_iff] at eo; omega
    | some x =>
      cases x with
      | none =>
        have := c.E.nn j hO eo
        rw [hσ] at this
        cases this
      | some d0 =>
        obtain ⟨a', h8, _, h9⟩ := c.E.ow j d0 eo hO
        rw [hσ] at h8
        cases h8
        rcases h9 with h9 | h9
        · exact n h9
        · rw [h] at h9; cases h9
def tN (nw : Bool) (fr : Fx) (W : WX) (f : M D) : TE := match nw with
  | true => tF fr W f
  | false => tD fr W f
theorem tN_out {nw : Bool} {f : M D} (h : tN nw fr W f σ H Q) : ∃ ρ, ER fr.toFr σ H ρ ∧ wpR (f ρ) (fun d ρ' => match nw with
    | true => ∀ a H1 H' o, ER fr.toFr σ H1 ρ' → Stp (Owned fr.toFr σ) H H1 → H1 a = none → Same H1 H' → H' a = some o → Ob fr.w fr.K (Good fr.toFr σ) H1 d a o → Q (.ref a) H'
    | false => ∀ v H', ER fr.toFr σ H' ρ' → Stp (Owned fr.toFr σ) H H' → Rp fr.K (Good fr.toFr σ) H' d v → Q v H') (Ex fr W σ) := by
  cases nw with
  | true => exact h
  | false => exact h
/-- a new list as a value -/
def eNew (f : M D) : M D := f.bind fun d => match d with
  | .lst ds => M.pure (.lst ds)
  | _ => fun _ => .stuck
theorem df_e {f : M D} (h : DF X fr W e f) : DE X fr W e (eNew f) := pe_mono h fun σ H Q ⟨ρ, E, h⟩ => ⟨ρ, E, wpR.mono (wpR.of_bind (r := f ρ) h) (fun d ρ1 q a H1 H' o E1 s1 n sm l r => by
  cases d with
  | lst ds =>
    obtain ⟨z, vs, rfl, r⟩ := r
    exact q _ H' (E1.same sm) (s1.trans (Stp.same sm)) (Rp.lst z (.inl ⟨E1.free n, .inl l⟩) (r.same sm))
  | _ => exact q.elim) fun _ _ q => q⟩
theorem call_rd {n : Nat} {nw : Bool} (hdv : ∀ G H, RpL fr.K G H dvs dvV) (hk : fr.K = X.K) (hw : fr.w = X.w) (hap : Pl fr as) (hn : (e :: es).length + dvs.length = n) (hes : as.length = (e :: es).length) (hs : shapeOk (shp as) io = true) (h : tN nw fr W (eCall m io as dvs) σ H Q) :
    tArgs fr W as σ H fun us H1 => spD X.w X.K fr.ex nw n io m (us ++ dvV) H1 Q (WE W σ) := by
  obtain ⟨ρ, E, h⟩ := tN_out h
  have h := wpR.of_bind (r := evalA as ρ) h
  refine tArgs_of as H ρ _ hap E (wpR.mono h (fun ods ρ1 q us H1 E1 s1 r1 => ?_) fun _ _ q => q)
  cases hf : fillA as ods ρ1 with
  | none => simp only [hf] at q; exact q.elim
  | some ds =>
    simp only [hf] at q
    have hlen : us.length = as.length := rpA_len r1
    have hdl : ds.length = as.length := fill_len hf
    have hdvl : dvV.length = dvs.length := (hdv (fun _ => True) H).length
    have app1 : ∀ {i : Nat} {v : V}, us[i]? = some v → (us ++ dvV)[i]? = some v := fun {i v} h => by
      rw [List.getElem?_append_left (List.getElem?_eq_some_iff.mp h).1]; exact h
    have c : CallAt fr σ H1 ρ1 as io (us ++ dvV) := ⟨E1, hap, hs, fun i j hij => by
      obtain ⟨v, h1, h2⟩ := rpA_p r1 hij
      exact ⟨v, app1 h1, h2⟩⟩
    have A : ArgsOk X.w X.K (Good fr.toFr σ) io H1 (ds ++ dvs) (us ++ dvV) := by
      refine ⟨by simp only [List.length_append]; omega, fun i d h1 h2 => ?_, fun i hi => ?_, fun i i' a h1 h2 h3 h4 => ?_, fun b hb g => ?_⟩
      · by_cases hi : i < ds.length
        · rw [List.getElem?_append_left hi] at h1
          cases ea : as[i]? with
          | none => rw [List.getElem?_eq_none_iff] at ea; omega
          | some ar =>
            cases ar with
            | p j => exact absurd (c.mem.mpr ⟨j, ea⟩) h2
            | v g =>
              obtain ⟨d', v, e1, e2, e3⟩ := rpA_v r1 ea
              have := fill_v hf ea e1
              rw [h1] at this
              cases this
              exact ⟨v, app1 e2, hk ▸ e3⟩
        · rw [List.getElem?_append_right (by omega)] at h1
          obtain ⟨v, e1, e2⟩ := (hdv (Good fr.toFr σ) H1).get h1
          refine ⟨v, ?_, hk ▸ e2⟩
          rw [List.getElem?_append_right (by omega), show i - us.length = i - ds.length by omega]
          exact e1
      · obtain ⟨j, hj⟩ := c.mem.mp hi
        obtain ⟨d, e1, e2⟩ := fill_p hf hj
        obtain ⟨v, e3, e4⟩ := c.at_ i j hj
        obtain ⟨a, e5, e6, _⟩ := E1.ow j d e1 (hap j (List.mem_of_getElem? hj))
        rw [e4] at e5
        cases e5
        exact ⟨d, a, by rw [List.getElem?_append_left (List.getElem?_eq_some_iff.mp e2).1]; exact e2, e3, hk ▸ hw ▸ e6⟩
      · obtain ⟨j, hj⟩ := c.mem.mp h1
        obtain ⟨j', hj'⟩ := c.mem.mp h2
        obtain ⟨v, e3, e4⟩ := c.at_ i j hj
        obtain ⟨v', e3', e4'⟩ := c.at_ i' j' hj'
        rw [h3] at e3
        rw [h4] at e3'
        cases e3
        cases e3'
        have := E1.ne j j' a (hap j (List.mem_of_getElem? hj)) (hap j' (List.mem_of_getElem? hj')) e4 e4'
        subst this
        exact c.slot hj hj'
      · obtain ⟨i, j, _, _, _, hO, hσ⟩ := c.own hb
        exact g.2.1 ⟨j, hO, hσ⟩
    refine ⟨by simp only [List.length_append]; omega, ds ++ dvs, Good fr.toFr σ, A, ?_⟩
    cases hm' : m (ds ++ dvs) with
    | stuck => simp only [hm'] at q; exact q.elim
    | ok d outs =>
      simp only [hm'] at q
      show if nw = true then _ else _
      cases hpo : putOuts as io outs ρ1 with
      | none => simp only [hpo] at q; exact q.elim
      | some ρ' =>
        simp only [hpo] at q
        have hGG : ∀ b, Gr (Good fr.toFr σ) io (us ++ dvV) H1 b → Good fr.toFr σ b := fun b g => by
          rcases g.1 with g1 | g1
          · exact E1.free g1
          · exact g1
        cases nw with
        | false =>
          intro v H' s r o
          obtain ⟨E', s'⟩ := c.after s (hk ▸ hw ▸ o) hpo
          exact q v H' E' (s1.trans s') (Rp.move (fun b o' g z => ⟨hGG b g, z⟩) (fun _ _ z => z) (fun _ _ _ z => z) d v (hk ▸ r))
        | true =>
          intro a H2 H' ob s n sm l r o
          obtain ⟨E', s'⟩ := c.after s (hk ▸ hw ▸ o) hpo
          exact q a H2 H' ob E' (s1.trans s') n sm l (Ob.move (fun b o' g z => ⟨hGG b g, z⟩) (fun _ _ z => z) (fun _ _ _ z => z) (hk ▸ hw ▸ r))
    | exn ex outs =>
      simp only [hm'] at q
      intro cc dd H' s o n x
      cases hpo : putOuts as io outs ρ1 with
      | none => simp only [hpo] at q; exact q.elim
      | some ρ' =>
        simp only [hpo] at q
        obtain ⟨E', s'⟩ := c.after s (hk ▸ hw ▸ o) hpo
        exact q cc dd H' E' (fun d e => E1.free0 (n d e)) x
theorem dn_call {x : Str} {p : Pos} {k : Nat} {f : Addr} {fd : FuncData} {ps : List Str} {n : Nat} {nw : Bool} {ds : List Value} (F : FnOk X.prog X.w X.K X.mg X.base (L2N.CX X.prog X.w) k f fd ps (spD X.w X.K fr.ex nw n io m)) (hr : Room k X.A) (hx : Gl X x) (hm : X.mg x = some (.ref f)) (hkp : PySem.W.keepIn X.K (.ref f) = true)
    (hb : Binds X.K fd ps ds) (hd : Vals dvV ds) (hdv : ∀ G H, RpL fr.K G H dvs dvV) (tk : L2N.Takes X W) (hk : fr.K = X.K) (hw : fr.w = X.w) (ha : DAs X fr W (e :: es) as) (hn : (e :: es).length + dvs.length = n) (hes : as.length = (e :: es).length) (hs : shapeOk (shp as) io = true)
    (hdb : (x == ("__debug__" : Str)) = false := by decide)
    (he : starEach (e :: es) X.env = (false, eval e X.env) :: starEach es X.env := by rfl) (hpl : (backTo pos (starEach es X.env)).any (·.1) = false := by rfl) :
    PE X (.Call (.Name x p) (e :: es) [] pos) (tN nw fr W (eCall m io as dvs)) :=
  pe_mono (pe_callSD (E := WE W) F hr hx hm hkp hb hd (fun σ => L2N.passAt tk σ) ha.e hdb he hpl) fun σ H Q h => call_rd (e := e) (es := es) hdv hk hw ha.p hn hes hs h
theorem de_call {x : Str} {p : Pos} {k : Nat} {f : Addr} {fd : FuncData} {ps : List Str} {n : Nat} {ds : List Value} (F : FnOk X.prog X.w X.K X.mg X.base (L2N.CX X.prog X.w) k f fd ps (spD X.w X.K fr.ex false n io m)) (hr : Room k X.A) (hx : Gl X x) (hm : X.mg x = some (.ref f)) (hkp : PySem.W.keepIn X.K (.ref f) = true)
    (hb : Binds X.K fd ps ds) (hd : Vals dvV ds) (hdv : ∀ G H, RpL fr.K G H dvs dvV) (tk : L2N.Takes X W) (hk : fr.K = X.K) (hw : fr.w = X.w) (ha : DAs X fr W (e :: es) as) (hn : (e :: es).length + dvs.length = n) (hes : as.length = (e :: es).length) (hs : shapeOk (shp as) io = true)
    (hdb : (x == ("__debug__" : Str)) = false := by decide)
    (he : starEach (e :: es) X.env = (false, eval e X.env) :: starEach es X.env := by rfl) (hpl : (backTo pos (starEach es X.env)).any (·.1) = false := by rfl) :
    DE X fr W (.Call (.Name x p) (e :: es) [] pos) (eCall m io as dvs) := dn_call F hr hx hm hkp hb hd hdv tk hk hw ha hn hes hs hdb he hpl
theorem df_call {x : Str} {p : Pos} {k : Nat} {f : Addr} {fd : FuncData} {ps : List Str} {n : Nat} {ds : List Value} (F : FnOk X.prog X.w X.K X.mg X.base (L2N.CX X.prog X.w) k f fd ps (spD X.w X.K fr.ex true n io m)) (hr : Room k X.A) (hx : Gl X x) (hm : X.mg x = some (.ref f)) (hkp : PySem.W.keepIn X.K (.ref f) = true)
    (hb : Binds X.K fd ps ds) (hd : Vals dvV ds) (hdv : ∀ G H, RpL fr.K G H dvs dvV) (tk : L2N.Takes X W) (hk : fr.K = X.K) (hw : fr.w = X.w) (ha : DAs X fr W (e :: es) as) (hn : (e :: es).length + dvs.length = n) (hes : as.length = (e :: es).length) (hs : shapeOk (shp as) io = true)
    (hdb : (x == ("__debug__" : Str)) = false := by decide)
    (he : starEach (e :: es) X.env = (false, eval e X.env) :: starEach es X.env := by rfl) (hpl : (backTo pos (starEach es X.env)).any (·.1) = false := by rfl) :
    DF X fr W (.Call (.Name x p) (e :: es) [] pos) (eCall m io as dvs) := dn_call F hr hx hm hkp hb hd hdv tk hk hw ha hn hes hs hdb he hpl
end
end DL
end
section
namespace DL
open PySem PySem.Spec L2
open PyProof.Rows hiding St

/-! ### what a for walks -/
/-- what G0 lets be read stands as it stood -/
structure Keep (G0 : Addr → Prop) (H0 H : Hp) : Prop where
  k : ∀ b o, G0 b → H0 b = some o → H b = some o
  t : ∀ b xs, H0 b = some (.tup xs) → H b = some (.tup xs)
  f : ∀ b o u, H0 b = some (.frz o u) → H b = some (.frz o u)
structure ItOk (K : PySem.W.Frag) (J : It) (ds : List D) (G0 : Addr → Prop) (H0 : Hp) : Prop where
  go : ∀ i H, Keep G0 H0 H → i < ds.length → J.go i H
  yld : ∀ i H x H' d, Keep G0 H0 H → ds[i]? = some d → J.yld i H x H' → Same H H' ∧ ∀ G : Addr → Prop, (∀ b o, G0 b → H0 b = some o → G b) → (∀ b, H b = none → G b) → Rp K G H' d x
  stop : ∀ i H, Keep G0 H0 H → ds.length ≤ i → J.stop i H
theorem Keep.of {fr : Fr} {σ σ' : L2.St} {H H' : Hp} (s : StS fr σ H σ' H') : Keep (Good fr σ) H H' := ⟨fun b o g q => (s.k b o q g.2.1).1, s.t, s.f⟩
def tI (fr : Fx) (W : WX) (f : M (List D)) : TI := fun σ H R => ∃ ρ, ER fr.toFr σ H ρ ∧ wpR (f ρ) (fun ds ρ' => ∀ J H', ER fr.toFr σ H' ρ' → Stp (Owned fr.toFr σ) H H' → ItOk fr.K J ds (Good fr.toFr σ) H' → R J H') (Ex fr W σ)
abbrev DI (X : Cx) (fr : Fx) (W : WX) (tg iter : Expr) (f : M (List D)) : Prop := PI X tg iter (tI fr W f)
section
variable {X : Cx} {fr : Fx} {W : WX} {σ σ1 : L2.St} {H H1 H' : Hp} {ρ ρ' : Env} {Q : VK} {tg e a b iter : Expr} {es : List Expr} {pos p : Pos} {f fa fb : M D} {fl : M (List D)} {g : MG} {gb : M Fl} {Dn : Ends}
theorem pi_mono {t t' : TI} (h : PI X tg e t) (hi : ∀ σ H R, t' σ H R → t σ H R) : PI X tg e t' := ⟨fun pins s σ H R I q => h.run pins s σ H R I (hi σ H R q)⟩
theorem SqT.keep {K : PySem.W.Frag} {G0 : Addr → Prop} {a : Addr} {vs : List V} (s : Keep G0 H H1) (h : SqT K H a vs) : SqT K H1 a vs := sqT_move s.t s.f h
theorem LsR.keep {K : PySem.W.Frag} {G0 : Addr → Prop} {a : Addr} {vs : List V} (s : Keep G0 H H1) (h : LsR K G0 H a vs) : LsR K G0 H1 a vs := lsR_move (fun b o g q => ⟨g, s.k b o g q⟩) h
theorem RpL.keep {K : PySem.W.Frag} {G0 G : Addr → Prop} {ds : List D} {vs : List V} (s : Keep G0 H H1) (hg : ∀ b o, G0 b → H b = some o → G b) (h : RpL K G0 H ds vs) : RpL K G H1 ds vs := RpL.move (fun b o g q => ⟨hg b o g q, s.k b o g q⟩) s.t s.f ds vs h
theorem it_list {K : PySem.W.Frag} {G0 : Addr → Prop} {a : Addr} {vs : List V} {ds : List D} (l : LsR K G0 H a vs) (r : RpL K G0 H ds vs) : ItOk K (Itl K a) ds G0 H where
  go := fun i H1 s hi => by
    have hi' : i < vs.length := by rw [r.length]; exact hi
    exact ⟨vs, vs[i], (l.keep s).seq, List.getElem?_eq_getElem hi'⟩
  yld := fun i H1 x H' d s hd y => by
    obtain ⟨rfl, y⟩ := y
    refine ⟨Same.refl _, fun G hg _ => ?_⟩
    obtain ⟨v, e, h⟩ := (r.keep s hg).get hd
    have := y vs (l.keep s).seq
    rw [e] at this
    cases this
    exact h
  stop := fun i H1 s hi => ⟨vs, (l.keep s).seq, by rw [r.length]; exact hi⟩
theorem it_tup {K : PySem.W.Frag} {G0 : Addr → Prop} {a : Addr} {vs : List V} {ds : List D} (l : SqT K H a vs) (r : RpL K G0 H ds vs) : ItOk K (Itt K a) ds G0 H where
  go := fun i H1 s hi => by
    have hi' : i < vs.length := by rw [r.length]; exact hi
    exact ⟨vs, vs[i], SqT.keep s l, List.getElem?_eq_getElem hi'⟩
  yld := fun i H1 x H' d s hd y => by
    obtain ⟨rfl, y⟩ := y
    refine ⟨Same.refl _, fun G hg _ => ?_⟩
    obtain ⟨v, e, h⟩ := (r.keep s hg).get hd
    have := y vs (SqT.keep s l)
    rw [e] at this
    cases this
    exact h
  stop := fun i H1 s hi => ⟨vs, SqT.keep s l, by rw [r.length]; exact hi⟩
def rangeL (lo : Int) (n : Nat) : List D := (List.range n).map fun (i : Nat) => D.int (lo + i)
theorem rangeL_get {lo : Int} {n i : Nat} {d : D} (h : (rangeL lo n)[i]? = some d) : i < n ∧ d = .int (lo + i) := by
  unfold rangeL at h
  rw [List.getElem?_map] at h
  by_cases hi : i < n
  · simp only [List.getElem?_range hi, Option.map_some, Option.some.injEq] at h
    exact ⟨hi, h.symm⟩
  · simp [hi] at h
theorem rangeL_len {lo : Int} {n : Nat} : (rangeL lo n).length = n := by simp [rangeL]
theorem it_range {K : PySem.W.Frag} {G0 : Addr → Prop} {lo : Int} {n : Nat} : ItOk K (Itr lo n) (rangeL lo n) G0 H where
  go := fun i H1 s hi => by rw [rangeL_len] at hi; exact hi
  yld := fun i H1 x H' d s hd y => by
    obtain ⟨rfl, rfl⟩ := y
    refine ⟨Same.refl _, fun G _ _ => ?_⟩
    obtain ⟨_, rfl⟩ := rangeL_get hd
    exact rp_int
  stop := fun i H1 s hi => by rw [rangeL_len] at hi; exact hi
/-- over a tuple or a list -/
def iSeq (f : M D) : M (List D) := f.bind fun d => match d with
  | .tup ds => M.pure ds
  | .lst ds => M.pure ds
  | _ => fun _ => .stuck
/-- what is walked is a list, or a tuple: by its own data; one rule for each -/
def iLst (f : M D) : M (List D) := f.bind fun d => match d with
  | .lst ds => M.pure ds
  | _ => fun _ => .stuck
def iTup (f : M D) : M (List D) := f.bind fun d => match d with
  | .tup ds => M.pure ds
  | _ => fun _ => .stuck
theorem di_lst (h : DE X fr W e f) (hk : fr.K = X.K) : DI X fr W tg e (iLst f) :=
  pi_mono (pi_list h) fun σ H R ⟨ρ, E, h⟩ => ⟨ρ, E, wpR.mono (wpR.of_bind (r := f ρ) h) (fun d ρ1 q v H1 E1 s1 r1 => by
    cases d with
    | lst ds =>
      obtain ⟨a, vs, rfl, z, l, r⟩ := r1.un_lst
      exact ⟨a, rfl, ⟨vs, hk ▸ l.seq⟩, q _ H1 E1 s1 (hk ▸ it_list l r)⟩
    | _ => exact q.elim) fun _ _ q => q⟩
theorem di_tup (h : DE X fr W e f) (hk : fr.K = X.K) : DI X fr W tg e (iTup f) :=
  pi_mono (pi_tup h) fun σ H R ⟨ρ, E, h⟩ => ⟨ρ, E, wpR.mono (wpR.of_bind (r := f ρ) h) (fun d ρ1 q v H1 E1 s1 r1 => by
    cases d with
    | tup ds =>
      obtain ⟨a, vs, rfl, z, l, r⟩ := r1.un_tup
      exact ⟨a, rfl, ⟨vs, hk ▸ l⟩, q _ H1 E1 s1 (hk ▸ it_tup l r)⟩
    | _ => exact q.elim) fun _ _ q => q⟩
theorem pi_or {t u : TI} (h : PI X tg e t) (h' : PI X tg e u) : PI X tg e (fun σ H R => t σ H R ∨ u σ H R) := ⟨fun pins s σ H R I q => q.elim (h.run pins s σ H R I) (h'.run pins s σ H R I)⟩
/-- a value that is a tuple or a list, known when it is there -/
def iLT (K : PySem.W.Frag) (t : TE) : TI := fun σ H R => t σ H fun x H1 => ∃ a, x = .ref a ∧ (((∃ xs, SqL K H1 a xs) ∧ R (Itl K a) H1) ∨ ((∃ xs, SqT K H1 a xs) ∧ R (Itt K a) H1))
theorem pi_LT {t : TE} (h : PE X e t) : PI X tg e (iLT X.K t) := by
  refine ⟨fun pins s σ H R I hq => ?_⟩
  refine thn (h.run pins s σ H _ I hq) fun v s1 ⟨x, H1, I1, r1, q1⟩ => ?_
  obtain ⟨a, e, q⟩ := q1
  subst e
  cases r1
  rcases q with ⟨⟨xs, hq⟩, q⟩ | ⟨⟨xs, hq⟩, q⟩
  · obtain ⟨its, rv, p, hz⟩ := I1.list hq
    refine wpAny_pyIter_list p.isList ?_
    refine ⟨s1.heap.objs.size, [s1.heap.objs.size], _, _, H1, rfl, I1.kept (t' := s1.toks) fun b o e => Heap.get?_push_of_some _ e, turn_list a _, ⟨_, Heap.get?_push_size _ rfl, rfl, rfl⟩, fun b hb => ?_, q⟩
    have e : b = s1.heap.objs.size := by simpa using hb
    subst e
    exact I1.fpOk (Nat.le_refl _) (I1.hok.fresh (Nat.le_refl _))
  · obtain ⟨its, rv, p, hz⟩ := I1.tuple hq
    refine wpAny_pyIter_tuple (show s1.heap.IsTuple a its.toArray from p) ?_
    refine ⟨s1.heap.objs.size, [s1.heap.objs.size], _, _, H1, rfl, I1.kept (t' := s1.toks) fun b o e => Heap.get?_push_of_some _ e, turn_tuple a _, ⟨_, Heap.get?_push_size _ rfl, rfl, rfl⟩, fun b hb => ?_, q⟩
    have e : b = s1.heap.objs.size := by simpa using hb
    subst e
    exact I1.fpOk (Nat.le_refl _) (I1.hok.fresh (Nat.le_refl _))
theorem di_seq (h : DE X fr W e f) (hk : fr.K = X.K) : DI X fr W tg e (iSeq f) :=
  pi_mono (pi_LT h) fun σ H R ⟨ρ, E, h⟩ => ⟨ρ, E, wpR.mono (wpR.of_bind (r := f ρ) h) (fun d ρ1 q v H1 E1 s1 r1 => by
    cases d with
    | tup ds =>
      obtain ⟨a, vs, rfl, z, l, r⟩ := r1.un_tup
      exact ⟨a, rfl, .inr ⟨⟨vs, hk ▸ l⟩, q _ H1 E1 s1 (hk ▸ it_tup l r)⟩⟩
    | lst ds =>
      obtain ⟨a, vs, rfl, z, l, r⟩ := r1.un_lst
      exact ⟨a, rfl, .inl ⟨⟨vs, hk ▸ l.seq⟩, q _ H1 E1 s1 (hk ▸ it_list l r)⟩⟩
    | _ => exact q.elim) fun _ _ q => q⟩
/-- range(n), range(a, b) -/
def iRange1 (f : M D) : M (List D) := f.bind fun d => M.opt (match d with
  | .int n => if decide (-4611686018427387904 ≤ n) && decide (n < 4611686018427387904) then some (rangeL 0 n.toNat) else none
  | _ => none)
theorem di_range1 (hg : Gl X "range") (hm : X.mg "range" = none) (h : DE X fr W a f) (hs : starEach [a] X.env = [(false, eval a X.env)] := by rfl) : DI X fr W tg (.Call (.Name "range" p) [a] [] pos) (iRange1 f) :=
  pi_mono (pi_range1 hg hm (pa_cons h pa_nil hs) hs) fun σ H R ⟨ρ, E, h⟩ => ⟨ρ, E, wpR.mono (wpR.of_bind (r := f ρ) h) (fun d ρ1 q v H1 E1 s1 r1 => by
    cases d with
    | int n =>
      dsimp only at q
      by_cases hc : (decide (-4611686018427387904 ≤ n) && decide (n < 4611686018427387904)) = true
      · rw [if_pos hc] at q
        simp only [Bool.and_eq_true, decide_eq_true_eq] at hc
        exact ⟨n, by rw [show v = .int n from (r1.rs (w := fr.w)).int], by omega, by omega, q _ H1 E1 s1 it_range⟩
      · rw [if_neg hc] at q
        exact q.elim
    | _ => exact q.elim) fun _ _ q => q⟩
def iRange2 (fa fb : M D) : M (List D) := (asInt fa).bind fun x => fb.bind fun y => M.opt (match x, y with
  | .int m, .int n => if decide (-4611686018427387904 ≤ m) && decide (m < 4611686018427387904) && decide (-4611686018427387904 ≤ n) && decide (n < 4611686018427387904) then some (rangeL m (n - m).toNat) else none
  | _, _ => none)

/-! ### for -/
def forL (g : MG) (body : M Fl) : List D → M Fl
  | [], ρ => .ok .nx ρ
  | d :: ds, ρ => match g d ρ with
    | none => .stuck
    | some ρ1 => match body ρ1 with
      | .ok .nx ρ2 => forL g body ds ρ2
      | .ok .ct ρ2 => forL g body ds ρ2
      | .ok .bk ρ2 => .ok .nx ρ2
      | .ok (.rt v) ρ2 => .ok (.rt v) ρ2
      | .ok (.rf v) ρ2 => .ok (.rf v) ρ2
      | .exn e ρ2 => .exn e ρ2
      | .stuck => .stuck
def sFor (f : M (List D)) (g : MG) (body : M Fl) : M Fl := f.bind fun ds => forL g body ds
theorem for_of {sl : List Nat} {ds : List D} {J : It} (it : ItOk fr.K J ds (Good fr.toFr σ) H) (E : ER fr.toFr σ H ρ) (h : wpR (forL g gb ds ρ) (FlP fr Dn σ H) (ExS fr W)) :
    ∃ Wv : Nat → Nat → L2.St → Hp → Prop, (∃ m, Wv 0 m σ H) ∧ ∀ i m σ H, Wv i m σ H →
      (J.stop i H ∧ Dn.nx σ H) ∨ (J.go i H ∧ ∃ N : L2.St → Hp → Prop, (∀ σ' H', N σ' H' → ∃ m', m' < m ∧ Wv (i + 1) m' σ' H') ∧ ∀ x H', J.yld i H x H' → tG fr sl g x σ H' fun σ2 H2 => tS fr W gb { Dn with nx := N, ct := N, bk := Dn.nx } σ2 H2) := by
  refine ⟨fun i m σ1 H1 => m = ds.length - i ∧ i ≤ ds.length ∧ StS fr.toFr σ H σ1 H1 ∧ ∃ ρ, ER fr.toFr σ1 H1 ρ ∧ wpR (forL g gb (ds.drop i) ρ) (FlP fr Dn σ1 H1) (ExS fr W), ⟨_, rfl, Nat.zero_le _, StS.refl, ρ, E, h⟩, ?_⟩
  rintro i m σ1 H1 ⟨rfl, hi, s1, ρ1, E1, h1⟩
  by_cases hlt : i < ds.length
  · right
    rw [List.drop_eq_getElem_cons hlt] at h1
    refine ⟨it.go i H1 (Keep.of s1) hlt, fun σ' H' => StS fr.toFr σ H σ' H' ∧ ∃ ρ', ER fr.toFr σ' H' ρ' ∧ wpR (forL g gb (ds.drop (i + 1)) ρ') (FlP fr Dn σ' H') (ExS fr W), fun σ' H' ⟨s', ρ', E', h'⟩ => ⟨_, by omega, rfl, hlt, s', ρ', E', h'⟩, fun x H' y => ?_⟩
    obtain ⟨sm, rx⟩ := it.yld i H1 x H' _ (Keep.of s1) (List.getElem?_eq_getElem hlt) y
    have rx := rx (Good fr.toFr σ1) (fun b o g q => ⟨g.1, (s1.k b o q g.2.1).2, g.2.2⟩) fun b hb => E1.free hb
    cases hgd : g ds[i] ρ1 with
    | none => simp only [forL, hgd] at h1; exact h1.elim
    | some ρ2 =>
      simp only [forL, hgd] at h1
      refine ⟨_, ρ1, ρ2, E1.same sm, rx, hgd, fun σ2 H2 E2 s2 _ => ⟨ρ2, E2, ?_⟩⟩
      have sa : StS fr.toFr σ1 H1 σ2 H2 := (StS.of (Stp.same sm)).trans s2
      cases hb : gb ρ2 with
      | stuck => rw [hb] at h1; exact h1.elim
      | exn e ρ3 => rw [hb] at h1; exact h1
      | ok fl ρ3 =>
        rw [hb] at h1
        cases fl with
        | nx => exact fun σ3 H3 E3 s3 => ⟨s1.trans (sa.trans s3), ρ3, E3, wpR.mono h1 (fun fl ρ q => FlP.pre (sa.trans s3) q) fun _ _ q => q⟩
        | ct => exact fun σ3 H3 E3 s3 => ⟨s1.trans (sa.trans s3), ρ3, E3, wpR.mono h1 (fun fl ρ q => FlP.pre (sa.trans s3) q) fun _ _ q => q⟩
        | bk => exact fun σ3 H3 E3 s3 => h1 σ3 H3 E3 (sa.trans s3)
        | rt d => exact fun v σ3 H3 E3 s3 r => h1 v σ3 H3 E3 (sa.trans s3) r
        | rf d => exact fun a H1 H' σ' o E3 s3 n sm l r => h1 a H1 H' σ' o E3 (sa.trans s3) n sm l r
  · left
    have hi' : i = ds.length := by omega
    subst hi'
    rw [List.drop_length] at h1
    exact ⟨it.stop _ H1 (Keep.of s1) (Nat.le_refl _), h1 σ1 H1 E1 StS.refl⟩
theorem ds_for {body : List Stmt} (hp : PassesOwn (model X.prog X.w) X.A X.env X.xe) (hc : X.calm = true) (hi : DI X fr W tg iter fl) {sl : List Nat} (hg : DG X fr sl tg g) (hb : DSs X fr W body gb)
    (hs : ∀ x, foldedSetIterable iter X.env x = pure x := by intro _; rfl) : DS X fr W (.For tg iter body [] pos) (sFor fl g gb) :=
  ps_mono (ps_for hp hc hi hg hb hs) fun Dn σ H ⟨ρ, E, h⟩ => ⟨ρ, E, wp_head h fun ds ρ1 q J H1 E1 s1 it => for_of it E1 (ex_ex q (StS.of s1))⟩
end
end DL
end
section
namespace DL
open PySem PySem.Spec L2
open PyProof.Rows hiding St

/-! ### list comprehensions -/
def wipeE (ρ : Env) : List Nat → Env
  | [] => ρ
  | v :: vs => (wipeE ρ vs).set v none
/-- the slots at own as in ρ1, the others as in ρ2 -/
def restE (ρ1 ρ2 : Env) : List Nat → Env
  | [] => ρ2
  | v :: vs => (restE ρ1 ρ2 vs).set v (ρ1[v]?.join)
def Fx.xp (fr : Fx) (x : Addr → Prop) : Fx := ⟨⟨fr.w, fr.K, fr.F, fr.R, fr.O, fr.P, fr.A, x⟩, fr.ex⟩
def W0 : WX := fun _ _ _ _ => False
/-- the tests of a comprehension, none or one -/
abbrev DTs (X : Cx) (fr : Fx) (W : WX) (es : List Expr) (f : M Bool) : Prop := PTs X es (tDT fr W f)
def tTrue : M Bool := M.pure true
theorem pts_mono {X : Cx} {e : List Expr} {t t' : TT} (h : PTs X e t) (hi : ∀ σ H Q, t' σ H Q → t σ H Q) : PTs X e t' := ⟨fun pins s σ H Q I q => h.run pins s σ H Q I (hi σ H Q q)⟩
def Res.noX {α : Type} : Res α → Res α
  | .exn _ _ => .stuck
  | r => r
@[simp] theorem Res.noX_ok {α : Type} (a : α) (ρ : Env) : (Res.ok a ρ).noX = .ok a ρ := rfl
def lcL (own : List Nat) (g : MG) (test : M Bool) (elt : M D) : List D → M (List D)
  | [], ρ => .ok [] ρ
  | d :: ds, ρ => match g d ρ with
    | none => .stuck
    | some ρ1 => (test ρ1).noX.bind fun b ρ2 => if b then (elt ρ2).noX.bind fun y ρ3 => (lcL own g test elt ds (wipeE ρ3 own)).bind fun ys ρ4 => .ok (y :: ys) ρ4 else lcL own g test elt ds (wipeE ρ2 own)
def eLc (f : M (List D)) (own : List Nat) (g : MG) (test : M Bool) (elt : M D) : M D := f.bind fun ds ρ1 => if lenOk ds.length then (lcL own g test elt ds (wipeE ρ1 own)).bind fun ys ρ2 => .ok (.lst ys) (restE ρ1 ρ2 own) else .stuck

section
variable {X : Cx} {fr : Fx} {W : WX} {σ σ1 : L2.St} {H H1 H' : Hp} {ρ ρ' ρ1 ρ2 : Env} {Q : VK} {tg e a b iter elt : Expr} {es ifs : List Expr} {pos p : Pos} {f te : M D} {fl : M (List D)} {g : MG} {tt : M Bool} {own : List Nat}
theorem dts_nil : DTs X fr W [] tTrue := pts_mono pts_nil fun σ H Q ⟨ρ, E, h⟩ => h H E Stp.refl
theorem dts_one (h : DT X fr W e tt) : DTs X fr W [e] tt := pts_one h
theorem wipeE_len (ρ : Env) : ∀ own : List Nat, (wipeE ρ own).length = ρ.length
  | [] => rfl
  | v :: vs => by unfold wipeE; rw [List.length_set, wipeE_len ρ vs]
theorem restE_len (ρ1 ρ2 : Env) : ∀ own : List Nat, (restE ρ1 ρ2 own).length = ρ2.length
  | [] => rfl
  | v :: vs => by unfold restE; rw [List.length_set, restE_len ρ1 ρ2 vs]
theorem wipe_get {α : Type} (s : List (Option α)) (w : List (Option α) → List Nat → List (Option α)) (h0 : ∀ s, w s [] = s) (h1 : ∀ s v vs, w s (v :: vs) = (w s vs).set v none) : ∀ (own : List Nat) (i : Nat),
    (i ∉ own → (w s own)[i]? = s[i]?) ∧ (i ∈ own → i < s.length → (w s own)[i]? = some none) ∧ (w s own).length = s.length
  | [], i => ⟨fun _ => by rw [h0], fun h => absurd h (List.not_mem_nil), by rw [h0]⟩
  | v :: vs, i => by
    have ih := wipe_get s w h0 h1 vs i
    rw [h1]
    refine ⟨fun h => ?_, fun h hl => ?_, by rw [List.length_set]; exact ih.2.2⟩
    · have hv : v ≠ i := fun z => h (by rw [z]; exact List.mem_cons_self ..)
      rw [List.getElem?_set_ne hv]
      exact ih.1 fun z => h (List.mem_cons_of_mem _ z)
    · by_cases hv : v = i
      · subst hv
        rw [List.getElem?_set_self (by rw [ih.2.2]; exact hl)]
      · rw [List.getElem?_set_ne hv]
        exact ih.2.1 ((List.mem_cons.mp h).resolve_left (Ne.symm hv)) hl
theorem wE {ρ : Env} {own : List Nat} {i : Nat} : (i ∉ own → (wipeE ρ own)[i]? = ρ[i]?) ∧ (i ∈ own → i < ρ.length → (wipeE ρ own)[i]? = some none) :=
  ⟨(wipe_get ρ wipeE (fun _ => rfl) (fun _ _ _ => rfl) own i).1, (wipe_get ρ wipeE (fun _ => rfl) (fun _ _ _ => rfl) own i).2.1⟩
theorem wV {σ : L2.St} {own : List Nat} {i : Nat} : (i ∉ own → (wipe σ own)[i]? = σ[i]?) ∧ (i ∈ own → i < σ.length → (wipe σ own)[i]? = some none) :=
  ⟨(wipe_get σ wipe (fun _ => rfl) (fun _ _ _ => rfl) own i).1, (wipe_get σ wipe (fun _ => rfl) (fun _ _ _ => rfl) own i).2.1⟩
theorem rE {ρ1 ρ2 : Env} {i : Nat} : ∀ {own : List Nat}, (i ∉ own → (restE ρ1 ρ2 own)[i]? = ρ2[i]?) ∧ (i ∈ own → i < ρ2.length → (restE ρ1 ρ2 own)[i]? = some (ρ1[i]?.join))
  | [] => ⟨fun _ => rfl, fun h => absurd h (List.not_mem_nil)⟩
  | v :: vs => by
    have ih := rE (ρ1 := ρ1) (ρ2 := ρ2) (i := i) (own := vs)
    unfold restE
    refine ⟨fun h => ?_, fun h hl => ?_⟩
    · have hv : v ≠ i := fun z => h (by rw [z]; exact List.mem_cons_self ..)
      rw [List.getElem?_set_ne hv]
      exact ih.1 fun z => h (List.mem_cons_of_mem _ z)
    · by_cases hv : v = i
      · subst hv
        rw [List.getElem?_set_self (by rw [restE_len]; exact hl)]
      · rw [List.getElem?_set_ne hv]
        exact ih.2 ((List.mem_cons.mp h).resolve_left (Ne.symm hv)) hl
/-- the slots at own are not owning -/
def Free (fr : Fr) (own : List Nat) : Prop := ∀ i, i ∈ own → fr.O i = false
theorem own_wipe (hf : Free fr.toFr own) {b : Addr} : Owned fr.toFr (wipe σ own) b ↔ Owned fr.toFr σ b := by
  constructor
  · rintro ⟨i, h1, h2⟩
    have hi : i ∉ own := fun z => by rw [hf i z] at h1; cases h1
    rw [wV.1 hi] at h2
    exact ⟨i, h1, h2⟩
  · rintro ⟨i, h1, h2⟩
    have hi : i ∉ own := fun z => by rw [hf i z] at h1; cases h1
    exact ⟨i, h1, by rw [wV.1 hi]; exact h2⟩
theorem good_wipe (hf : Free fr.toFr own) {b : Addr} : Good fr.toFr (wipe σ own) b ↔ Good fr.toFr σ b := by
  unfold Good
  rw [own_wipe hf]
theorem wipe_len (σ : L2.St) : (wipe σ own).length = σ.length := (wipe_get σ wipe (fun _ => rfl) (fun _ _ _ => rfl) own 0).2.2
theorem ER.wipe (E : ER fr.toFr σ H ρ) (hf : Free fr.toFr own) : ER fr.toFr (L2.wipe σ own) H (wipeE ρ own) where
  len := by rw [wipe_len, wipeE_len]; exact E.len
  pl := fun i d h1 h2 => by
    by_cases hi : i ∈ own
    · have hl : i < ρ.length := by
        have := (List.getElem?_eq_some_iff.mp h1).1
        rwa [wipeE_len] at this
      rw [wE.2 hi hl] at h1
      cases h1
    · rw [wE.1 hi] at h1
      obtain ⟨v, h3, h4⟩ := E.pl i d h1 h2
      exact ⟨v, by rw [wV.1 hi]; exact h3, Rp.move (fun b o g q => ⟨(good_wipe hf).mpr g, q⟩) (fun _ _ q => q) (fun _ _ _ q => q) d v h4⟩
  ow := fun i d h1 h2 => by
    have hi : i ∉ own := fun z => by rw [hf i z] at h2; cases h2
    rw [wE.1 hi] at h1
    obtain ⟨a, h3, h4, h5⟩ := E.ow i d h1 h2
    exact ⟨a, by rw [wV.1 hi]; exact h3, h4.move (fun _ q => q) (fun b o g q => ⟨(good_wipe hf).mpr g, q⟩) (fun _ _ q => q) (fun _ _ _ q => q), h5⟩
  nn := fun i h1 h2 => by
    have hi : i ∉ own := fun z => by rw [hf i z] at h1; cases h1
    rw [wE.1 hi] at h2
    rw [wV.1 hi]
    exact E.nn i h1 h2
  ne := fun i j a h1 h2 h3 h4 => by
    have hi : i ∉ own := fun z => by rw [hf i z] at h1; cases h1
    have hj : j ∉ own := fun z => by rw [hf j z] at h2; cases h2
    rw [wV.1 hi] at h3
    rw [wV.1 hj] at h4
    exact E.ne i j a h1 h2 h3 h4
  par := fun i h1 => by
    obtain ⟨h2, h3, d, h4⟩ := E.par i h1
    have hi : i ∉ own := fun z => by rw [hf i z] at h2; cases h2
    exact ⟨h2, by rw [wV.1 hi]; exact h3, d, by rw [wE.1 hi]; exact h4⟩
  step := E.step
  xt := fun b h => ⟨(E.xt b h).1, fun z => (E.xt b h).2 ((own_wipe hf).mp z)⟩
/-- behind the comprehension: the slots at own as they were -/
theorem ER.rest (E1 : ER fr.toFr σ H1 ρ1) (E2 : ER fr.toFr (L2.wipe σ own) H ρ2) (hf : Free fr.toFr own) (s : Stp (Owned fr.toFr σ) H1 H) : ER fr.toFr σ H (restE ρ1 ρ2 own) where
  len := by rw [restE_len, ← E2.len, wipe_len]
  pl := fun i d h1 h2 => by
    have hl : i < ρ2.length := by
      have := (List.getElem?_eq_some_iff.mp h1).1
      rwa [restE_len] at this
    by_cases hi : i ∈ own
    · rw [rE.2 hi hl] at h1
      have h1' : ρ1[i]? = some (some d) := by
        cases e : ρ1[i]? with
        | none => rw [e] at h1; cases h1
        | some x =>
          rw [e] at h1
          exact h1
      obtain ⟨v, h3, h4⟩ := E1.pl i d h1' h2
      exact ⟨v, h3, h4.good s⟩
    · rw [rE.1 hi] at h1
      obtain ⟨v, h3, h4⟩ := E2.pl i d h1 h2
      rw [wV.1 hi] at h3
      exact ⟨v, h3, Rp.move (fun b o g q => ⟨(good_wipe hf).mp g, q⟩) (fun _ _ q => q) (fun _ _ _ q => q) d v h4⟩
  ow := fun i d h1 h2 => by
    have hi : i ∉ own := fun z => by rw [hf i z] at h2; cases h2
    rw [rE.1 hi] at h1
    obtain ⟨a, h3, h4, h5⟩ := E2.ow i d h1 h2
    rw [wV.1 hi] at h3
    exact ⟨a, h3, h4.move (fun _ q => q) (fun b o g q => ⟨(good_wipe hf).mp g, q⟩) (fun _ _ q => q) (fun _ _ _ q => q), h5⟩
  nn := fun i h1 h2 => by
    have hi : i ∉ own := fun z => by rw [hf i z] at h1; cases h1
    rw [rE.1 hi] at h2
    have := E2.nn i h1 h2
    rwa [wV.1 hi] at this
  ne := E1.ne
  par := fun i h1 => by
    obtain ⟨h2, h3, _⟩ := E1.par i h1
    obtain ⟨_, _, d, h4⟩ := E2.par i h1
    have hi : i ∉ own := fun z => by rw [hf i z] at h2; cases h2
    exact ⟨h2, h3, d, by rw [rE.1 hi]; exact h4⟩
  step := E2.step
  xt := fun b h => ⟨(E2.xt b h).1, fun z => (E2.xt b h).2 ((own_wipe hf).mpr z)⟩
/-- while D is being made -/
def Xd (fr : Fx) (D : Addr) : Addr → Prop := fun b => fr.X b ∨ b = D
theorem ER.making (E : ER fr.toFr σ H ρ) {D : Addr} {xs : List V} (hD : H D = none) : ER (fr.xp (Xd fr D)).toFr σ (upd H D (.lst xs)) ρ := by
  have hg : ∀ b o, Good fr.toFr σ b → H b = some o → Good (fr.xp (Xd fr D)).toFr σ b ∧ (upd H D (.lst xs)) b = some o := fun b o g q => by
    have hb : b ≠ D := ne_of_none q hD
    exact ⟨⟨g.1, g.2.1, fun z => z.elim g.2.2 hb⟩, by rw [upd_ne hb]; exact q⟩
  have sm := same_upd (o := .lst xs) hD
  refine ⟨E.len, fun i d h1 h2 => ?_, fun i d h1 h2 => ?_, E.nn, E.ne, E.par, E.step.trans (Stp.same sm), fun b h => ?_⟩
  · obtain ⟨v, h3, h4⟩ := E.pl i d h1 h2
    exact ⟨v, h3, Rp.move hg (fun b xs q => sm b _ q) (fun b o u q => sm b _ q) d v h4⟩
  · obtain ⟨a, h3, h4, h5⟩ := E.ow i d h1 h2
    exact ⟨a, h3, h4.move (fun o q => sm _ _ q) hg (fun b xs q => sm b _ q) (fun b o u q => sm b _ q), h5⟩
  · rcases h with h | h
    · exact ⟨(E.xt b h).1.imp fun o q => sm _ _ q, (E.xt b h).2⟩
    · subst h
      exact ⟨⟨_, upd_same⟩, fun z => by
        obtain ⟨o, q, _⟩ := E.owned z
        rw [hD] at q
        cases q⟩
/-- D changes while it is made -/
theorem ER.more {D : Addr} {xs ys : List V} (E : ER (fr.xp (Xd fr D)).toFr σ H ρ) (hD : H D = some (.lst xs)) (hF : fr.F D = none) : ER (fr.xp (Xd fr D)).toFr σ (upd H D (.lst ys)) ρ := by
  have hg : ∀ b o, Good (fr.xp (Xd fr D)).toFr σ b → H b = some o → Good (fr.xp (Xd fr D)).toFr σ b ∧ (upd H D (.lst ys)) b = some o := fun b o g q => by
    have hb : b ≠ D := fun z => g.2.2 (.inr z)
    exact ⟨g, by rw [upd_ne hb]; exact q⟩
  have ht : ∀ b xs, H b = some (.tup xs) → (upd H D (.lst ys)) b = some (.tup xs) := fun b xs q => by
    have hb : b ≠ D := fun z => by subst z; rw [hD] at q; cases q
    rw [upd_ne hb]; exact q
  have hf : ∀ b o u, H b = some (.frz o u) → (upd H D (.lst ys)) b = some (.frz o u) := fun b o u q => by
    have hb : b ≠ D := fun z => by subst z; rw [hD] at q; cases q
    rw [upd_ne hb]; exact q
  refine ⟨E.len, fun i d h1 h2 => ?_, fun i d h1 h2 => ?_, E.nn, E.ne, E.par, ⟨fun b o h n => ?_, fun b xs h => ht _ _ (E.step.t b xs h), fun b o u h => hf _ _ _ (E.step.f b o u h)⟩, fun b h => ⟨?_, (E.xt b h).2⟩⟩
  · obtain ⟨v, h3, h4⟩ := E.pl i d h1 h2
    exact ⟨v, h3, Rp.move hg ht hf d v h4⟩
  · obtain ⟨a, h3, h4, h5⟩ := E.ow i d h1 h2
    have ha : a ≠ D := fun z => (E.xt D (.inr rfl)).2 ⟨i, h2, z ▸ h3⟩
    exact ⟨a, h3, h4.move (fun o q => by rw [upd_ne ha]; exact q) hg ht hf, h5⟩
  · have hb : b ≠ D := fun z => by
      subst z
      have hF' : fr.F b = none := hF
      have h' : fr.F b = some o := h
      rw [hF'] at h'
      cases h'
    rw [upd_ne hb]
    exact E.step.k b o h n
  · by_cases hb : b = D
    · subst hb
      exact ⟨_, upd_same⟩
    · obtain ⟨o, q⟩ := (E.xt b h).1
      exact ⟨o, by rw [upd_ne hb]; exact q⟩
end
end DL
end
section
namespace DL
open PySem PySem.Spec L2
open PyProof.Rows hiding St
section
variable {X : Cx} {fr : Fx} {W : WX} {σ σ1 : L2.St} {H H1 H' : Hp} {ρ ρ' ρ1 ρ2 : Env} {Q : VK} {tg e a b iter elt : Expr} {es ifs : List Expr} {pos p : Pos} {f te : M D} {fl : M (List D)} {g : MG} {tt : M Bool} {own sl : List Nat} {scope : Scope} {G0 : Addr → Prop} {D0 : Addr}
theorem noX_wp {α : Type} {r : Res α} {Qo : α → Env → Prop} {Qe Qe' : Exn → Env → Prop} (h : wpR r.noX Qo Qe) : wpR r Qo Qe' := by
  cases r with
  | ok a ρ => exact h
  | exn e ρ => exact h.elim
  | stuck => exact h
theorem off_wipe {σ2 : L2.St} (hs : ∀ i, i ∈ sl → i ∈ own) (o : Off sl (wipe σ own) σ2) : wipe σ2 own = wipe σ own := by
  apply List.ext_getElem?
  intro i
  by_cases hi : i ∈ own
  · by_cases hl : i < σ.length
    · have hl2 : i < σ2.length := by rw [o.1, wipe_len]; exact hl
      rw [wV.2 hi hl2, wV.2 hi hl]
    · rw [List.getElem?_eq_none (by rw [wipe_len, o.1, wipe_len]; omega), List.getElem?_eq_none (by rw [wipe_len]; omega)]
  · rw [wV.1 hi, o.2 i fun z => hi (hs i z)]
theorem Stp.keepG (s : Stp (Owned fr.toFr σ) H H1) : Keep (Good fr.toFr σ) H H1 := ⟨fun b o g q => s.k b o q g.2.1, s.t, s.f⟩
def gEx (fr : Fx) (sl : List Nat) (g : MG) : TG := fun v σ H Q => ∃ xp, tG (fr.xp xp) sl g v σ H Q
def tEx (fr : Fx) (t : M Bool) : TT := fun σ H Q => ∃ xp, tDT (fr.xp xp) W0 t σ H Q
def eEx (fr : Fx) (t : M D) : TE := fun σ H Q => ∃ xp, tD (fr.xp xp) W0 t σ H Q
/-- one list comprehension, read from its end: what is wanted of the new list -/
theorem lc_of {ds : List D} {J : It} (hf : Free fr.toFr own) (hsl : ∀ i, i ∈ sl → i ∈ own) (it : ItOk fr.K J ds (Good fr.toFr σ) H1) (E1 : ER fr.toFr σ H1 ρ1) (hD : H1 D0 = none) (hl : ds.length ≤ sizeLine)
    (h : wpR (lcL own g tt te ds (wipeE ρ1 own)) (fun ys ρ2 => ys.length ≤ sizeLine → ∀ H' vs, ER (fr.xp (Xd fr D0)).toFr (wipe σ own) H' ρ2 → Stp (Owned fr.toFr σ) H1 H' → H' D0 = some (.lst vs) → RpL fr.K (Good (fr.xp (Xd fr D0)).toFr (wipe σ own)) H' ys vs → Q (.ref D0) H') (fun _ _ => False)) :
    ∃ Wv : Nat → Nat → Hp → Prop, (∃ m, Wv 0 m (upd H1 D0 (.lst []))) ∧ ∀ i m H, Wv i m H →
      (J.stop i H ∧ Q (.ref D0) H) ∨ (J.go i H ∧ ∃ Nx : Hp → Prop, (∀ H', Nx H' → ∃ m', m' < m ∧ Wv (i + 1) m' H') ∧ ∀ x H', J.yld i H x H' → gEx fr sl g x (wipe σ own) H' fun σ2 H2 => wipe σ2 own = wipe σ own ∧ tEx fr tt σ2 H2 fun b H3 =>
        if b = true then eEx fr te σ2 H3 fun y H4 => ∃ acc, H4 D0 = some (.lst acc) ∧ acc.length < sizeLine ∧ Nx (upd H4 D0 (.lst (acc ++ [y]))) else Nx H3) := by
  have hF : fr.F D0 = none := E1.free0 hD
  have hOw : ∀ b, Owned (fr.xp (Xd fr D0)).toFr (wipe σ own) b ↔ Owned fr.toFr σ b := fun b => own_wipe (fr := fr.xp (Xd fr D0)) hf
  have nD : ∀ {H : Hp} {ρ : Env}, ER (fr.xp (Xd fr D0)).toFr (wipe σ own) H ρ → ¬ Owned fr.toFr σ D0 := fun E z => (E.xt D0 (.inr rfl)).2 ((hOw D0).mpr z)
  refine ⟨fun i m H => m = ds.length - i ∧ i ≤ ds.length ∧ Stp (Owned fr.toFr σ) H1 H ∧ ∃ (ρ : DL.Env) (accs : List D) (acc : List V), accs.length ≤ i ∧ ER (fr.xp (Xd fr D0)).toFr (wipe σ own) H ρ ∧ H D0 = some (.lst acc) ∧ RpL fr.K (Good (fr.xp (Xd fr D0)).toFr (wipe σ own)) H accs acc ∧
    wpR (lcL own g tt te (ds.drop i) ρ) (fun ys ρ2 => (accs ++ ys).length ≤ sizeLine → ∀ H' vs, ER (fr.xp (Xd fr D0)).toFr (wipe σ own) H' ρ2 → Stp (Owned fr.toFr σ) H1 H' → H' D0 = some (.lst vs) → RpL fr.K (Good (fr.xp (Xd fr D0)).toFr (wipe σ own)) H' (accs ++ ys) vs → Q (.ref D0) H') (fun _ _ => False),
    ⟨_, rfl, Nat.zero_le _, Stp.same (same_upd hD), wipeE ρ1 own, [], [], Nat.zero_le _, ER.wipe (fr := fr.xp (Xd fr D0)) (E1.making hD) hf, upd_same, RpL.nil, h⟩, ?_⟩
  rintro i m H ⟨rfl, hi, s, ρ, accs, acc, hal, E, eD, rA, hw⟩
  by_cases hlt : i < ds.length
  · right
    rw [List.drop_eq_getElem_cons hlt] at hw
    refine ⟨it.go i H (Stp.keepG s) hlt, fun H' => Stp (Owned fr.toFr σ) H1 H' ∧ ∃ (ρ : DL.Env) (accs : List D) (acc : List V), accs.length ≤ i + 1 ∧ ER (fr.xp (Xd fr D0)).toFr (wipe σ own) H' ρ ∧ H' D0 = some (.lst acc) ∧ RpL fr.K (Good (fr.xp (Xd fr D0)).toFr (wipe σ own)) H' accs acc ∧
      wpR (lcL own g tt te (ds.drop (i + 1)) ρ) (fun ys ρ2 => (accs ++ ys).length ≤ sizeLine → ∀ H' vs, ER (fr.xp (Xd fr D0)).toFr (wipe σ own) H' ρ2 → Stp (Owned fr.toFr σ) H1 H' → H' D0 = some (.lst vs) → RpL fr.K (Good (fr.xp (Xd fr D0)).toFr (wipe σ own)) H' (accs ++ ys) vs → Q (.ref D0) H') (fun _ _ => False),
      fun H' ⟨s', ρ', accs', acc', h1, h2, h3, h4, h5⟩ => ⟨_, by omega, rfl, hlt, s', ρ', accs', acc', h1, h2, h3, h4, h5⟩, fun x H2 y => ?_⟩
    obtain ⟨sm, rx⟩ := it.yld i H x H2 _ (Stp.keepG s) (List.getElem?_eq_getElem hlt) y
    have rx := rx (Good (fr.xp (Xd fr D0)).toFr (wipe σ own)) (fun b o g q => (good_wipe (fr := fr.xp (Xd fr D0)) hf).mpr ⟨g.1, g.2.1, fun z => z.elim g.2.2 (ne_of_none q hD)⟩) fun b hb => E.free hb
    cases hgd : g ds[i] ρ with
    | none => simp only [lcL, hgd] at hw; exact hw.elim
    | some ρ2 =>
      simp only [lcL, hgd] at hw
      refine ⟨_, _, ρ, ρ2, E.same sm, rx, hgd, fun σ2 H3 E3 s3 o3 => ⟨off_wipe hsl o3, _, ρ2, E3, ?_⟩⟩
      have ew := off_wipe hsl o3
      have sD3 : H3 D0 = some (.lst acc) := (s3.k D0 _ (sm _ _ eD) fun z => nD E ((hOw D0).mp z)).1
      have hO2 : ∀ b, Owned (fr.xp (Xd fr D0)).toFr σ2 b ↔ Owned fr.toFr σ b := fun b => by
        rw [← own_wipe (fr := fr.xp (Xd fr D0)) (σ := σ2) hf, ew]
        exact hOw b
      have s13 : Stp (Owned fr.toFr σ) H1 H3 := (s.trans (Stp.same sm)).trans ⟨fun b o q n => (s3.k b o q fun z => n ((hOw b).mp z)).1, s3.t, s3.f⟩
      have rA3 : RpL fr.K (Good (fr.xp (Xd fr D0)).toFr σ2) H3 accs acc := RpL.sts s3 (RpL.same sm rA)
      refine wpR.mono (noX_wp (Qe' := Ex (fr.xp (Xd fr D0)) W0 σ2) (wpR.of_bind hw)) (fun bb ρ3 q H4 E4 s4 => ?_) fun _ _ q => q
      have sD4 : H4 D0 = some (.lst acc) := s4.k D0 _ sD3 fun z => nD E ((hO2 D0).mp z)
      have s14 : Stp (Owned fr.toFr σ) H1 H4 := s13.trans (s4.mono fun b z => (hO2 b).mp z)
      have rA4 : RpL fr.K (Good (fr.xp (Xd fr D0)).toFr σ2) H4 accs acc := RpL.sts (StS.of s4) rA3
      have back : ∀ {H5 : Hp} {ρ5 : Env}, ER (fr.xp (Xd fr D0)).toFr σ2 H5 ρ5 → ER (fr.xp (Xd fr D0)).toFr (wipe σ own) H5 (wipeE ρ5 own) := fun E5 => by
        have := ER.wipe (fr := fr.xp (Xd fr D0)) (own := own) E5 hf
        rwa [ew] at this
      have backG : ∀ b, Good (fr.xp (Xd fr D0)).toFr σ2 b → Good (fr.xp (Xd fr D0)).toFr (wipe σ own) b := fun b gb => by
        have := (good_wipe (fr := fr.xp (Xd fr D0)) (σ := σ2) (own := own) hf).mpr gb
        rwa [ew] at this
      have backR : ∀ {H5 : Hp} {xs : List D} {vs : List V}, RpL fr.K (Good (fr.xp (Xd fr D0)).toFr σ2) H5 xs vs → RpL fr.K (Good (fr.xp (Xd fr D0)).toFr (wipe σ own)) H5 xs vs := fun r => RpL.move (fun b o gb q => ⟨backG b gb, q⟩) (fun _ _ q => q) (fun _ _ _ q => q) _ _ r
      cases bb with
      | false =>
        refine (if_neg Bool.false_ne_true).mpr ⟨s14, wipeE ρ3 own, accs, acc, by omega, back E4, sD4, backR rA4, ?_⟩
        have q : wpR (lcL own g tt te (ds.drop (i + 1)) (wipeE ρ3 own)) _ _ := q
        exact q
      | true =>
        refine (if_pos rfl).mpr ⟨_, ρ3, E4, ?_⟩
        have q : wpR ((te ρ3).noX.bind _) _ _ := q
        refine wpR.mono (noX_wp (Qe' := Ex (fr.xp (Xd fr D0)) W0 σ2) (wpR.of_bind q)) (fun yd ρ5 q v H5 E5 s5 r5 => ?_) fun _ _ q => q
        have sD5 : H5 D0 = some (.lst acc) := s5.k D0 _ sD4 fun z => nD E ((hO2 D0).mp z)
        have s15 : Stp (Owned fr.toFr σ) H1 H5 := s14.trans (s5.mono fun b z => (hO2 b).mp z)
        have rA5 : RpL fr.K (Good (fr.xp (Xd fr D0)).toFr σ2) H5 accs acc := RpL.sts (StS.of s5) rA4
        have rr : RpL fr.K (Good (fr.xp (Xd fr D0)).toFr (wipe σ own)) H5 (accs ++ [yd]) (acc ++ [v]) := RpL.append (backR rA5) (backR (RpL.cons r5 RpL.nil))
        have hall := rA5.length
        refine ⟨acc, sD5, by omega, ?_⟩
        have hmv : ∀ b o, Good (fr.xp (Xd fr D0)).toFr (wipe σ own) b → H5 b = some o → Good (fr.xp (Xd fr D0)).toFr (wipe σ own) b ∧ (upd H5 D0 (.lst (acc ++ [v]))) b = some o := fun b o gb q => ⟨gb, by rw [upd_ne fun z => gb.2.2 (.inr z)]; exact q⟩
        have ht : ∀ b xs, H5 b = some (.tup xs) → (upd H5 D0 (.lst (acc ++ [v]))) b = some (.tup xs) := fun b xs q => by
          rw [upd_ne (ne_of q sD5 (by intro z; cases z))]; exact q
        have hfz : ∀ b o u, H5 b = some (.frz o u) → (upd H5 D0 (.lst (acc ++ [v]))) b = some (.frz o u) := fun b o u q => by
          rw [upd_ne (ne_of q sD5 (by intro z; cases z))]; exact q
        refine ⟨⟨fun b o q n => by rw [upd_ne (ne_of_none q hD)]; exact s15.k b o q n, fun b xs q => ht b xs (s15.t b xs q), fun b o u q => hfz b o u (s15.f b o u q)⟩, wipeE ρ5 own, accs ++ [yd], acc ++ [v], by simp; omega, (back E5).more sD5 hF, upd_same, RpL.move hmv ht hfz _ _ rr, ?_⟩
        have q : wpR ((lcL own g tt te (ds.drop (i + 1)) (wipeE ρ5 own)).bind _) _ _ := q
        refine wpR.mono (wpR.of_bind q) (fun ys ρ6 q => ?_) fun _ _ q => q
        intro hz
        have q := q (by simpa using hz)
        rw [List.append_assoc]
        exact q
  · left
    have hi' : i = ds.length := by omega
    subst hi'
    rw [List.drop_length] at hw
    refine ⟨it.stop _ H (Stp.keepG s) (Nat.le_refl _), ?_⟩
    have hw : (accs ++ []).length ≤ sizeLine → _ := hw
    rw [List.append_nil] at hw
    exact hw (by omega) H acc E s eD rA
end
end DL
end
section
namespace DL
open PySem PySem.Spec L2
open PyProof.Rows hiding St
def hide (H : Hp) (a : Addr) : Hp := fun b => if b = a then none else H b
theorem hide_ne {H : Hp} {a b : Addr} (h : b ≠ a) : hide H a b = H b := if_neg h
theorem hide_same {H : Hp} {a : Addr} : hide H a a = none := if_pos rfl
section
variable {X : Cx} {fr : Fx} {W : WX} {σ σ1 : L2.St} {H H1 H' : Hp} {ρ ρ' ρ1 ρ2 : DL.Env} {Q : VK} {tg e a b iter elt : Expr} {es ifs : List Expr} {pos p : Pos} {f te : M D} {fl : M (List D)} {g : MG} {tt : M Bool} {own : List (Str × Nat)} {sl : List Nat} {scope : Scope} {G0 : Addr → Prop} {D0 : Addr} {fs : List (M D)}
theorem ER.made {vs : List V} (E : ER (fr.xp (Xd fr D0)).toFr σ H ρ) (hD : H D0 = some (.lst vs)) (hF : fr.F D0 = none) (hX : ¬ fr.X D0) : ER fr.toFr σ (hide H D0) ρ := by
  have hg : ∀ b o, Good (fr.xp (Xd fr D0)).toFr σ b → H b = some o → Good fr.toFr σ b ∧ hide H D0 b = some o := fun b o g q => by
    have hb : b ≠ D0 := fun z => g.2.2 (.inr z)
    exact ⟨⟨g.1, g.2.1, fun z => g.2.2 (.inl z)⟩, by rw [hide_ne hb]; exact q⟩
  have ht : ∀ b xs, H b = some (.tup xs) → hide H D0 b = some (.tup xs) := fun b xs q => by rw [hide_ne (ne_of q hD (by intro z; cases z))]; exact q
  have hf : ∀ b o u, H b = some (.frz o u) → hide H D0 b = some (.frz o u) := fun b o u q => by rw [hide_ne (ne_of q hD (by intro z; cases z))]; exact q
  refine ⟨E.len, fun i d h1 h2 => ?_, fun i d h1 h2 => ?_, E.nn, E.ne, E.par, ⟨fun b o h n => ?_, fun b xs h => ht _ _ (E.step.t b xs h), fun b o u h => hf _ _ _ (E.step.f b o u h)⟩, fun b h => ?_⟩
  · obtain ⟨v, h3, h4⟩ := E.pl i d h1 h2
    exact ⟨v, h3, Rp.move hg ht hf d v h4⟩
  · obtain ⟨a, h3, h4, h5⟩ := E.ow i d h1 h2
    have ha : a ≠ D0 := fun z => (E.xt D0 (.inr rfl)).2 ⟨i, h2, z ▸ h3⟩
    exact ⟨a, h3, h4.move (fun o q => by rw [hide_ne ha]; exact q) hg ht hf, h5⟩
  · have hb : b ≠ D0 := fun z => by
      subst z
      have hF' : fr.F b = none := hF
      have h' : fr.F b = some o := h
      rw [hF'] at h'
      cases h'
    rw [hide_ne hb]
    exact E.step.k b o h n
  · have hb : b ≠ D0 := fun z => hX (z ▸ h)
    obtain ⟨⟨o, q⟩, n⟩ := E.xt b (.inl h)
    exact ⟨⟨o, by rw [hide_ne hb]; exact q⟩, n⟩
theorem noX_bind {α β : Type} (r : Res α) (k : α → M β) (hk : ∀ a ρ, (k a ρ).noX = k a ρ) : (r.noX.bind k).noX = r.noX.bind k := by
  cases r with
  | ok a ρ => exact hk a ρ
  | exn e ρ => rfl
  | stuck => rfl
theorem lcL_noX (own : List Nat) (g : MG) (tt : M Bool) (te : M D) : ∀ (ds : List D) (ρ : DL.Env), (lcL own g tt te ds ρ).noX = lcL own g tt te ds ρ
  | [], ρ => rfl
  | d :: ds, ρ => by
    unfold lcL
    cases g d ρ with
    | none => rfl
    | some ρ1 =>
      refine noX_bind _ _ fun b ρ2 => ?_
      cases b with
      | false => exact lcL_noX own g tt te ds _
      | true =>
        refine noX_bind _ _ fun y ρ3 => ?_
        have ih := lcL_noX own g tt te ds (wipeE ρ3 own)
        cases hl : lcL own g tt te ds (wipeE ρ3 own) with
        | ok a ρ => rfl
        | exn e ρ => rw [hl] at ih; cases ih
        | stuck => rfl
theorem wp_noX {α : Type} {r : Res α} {Qo : α → DL.Env → Prop} {Qe Qe' : Exn → DL.Env → Prop} (e : r.noX = r) (h : wpR r Qo Qe) : wpR r Qo Qe' := by
  cases r with
  | ok a ρ => exact h
  | exn e' ρ => cases e
  | stuck => exact h
theorem df_lc_of (hf : Free fr.toFr (own.map (·.2))) (hsl : ∀ i, i ∈ sl → i ∈ own.map (·.2)) (hpe : PE X (.ListComp elt [⟨tg, iter, ifs, 0⟩] scope pos) (tLc (tI fr W fl) (gEx fr sl g) (tEx fr tt) (eEx fr te) (own.map (·.2)))) :
    DF X fr W (.ListComp elt [⟨tg, iter, ifs, 0⟩] scope pos) (eLc fl (own.map (·.2)) g tt te) := by
  refine pe_mono hpe fun σ H Q ⟨ρ, E, h⟩ => ⟨ρ, E, wpR.mono (wpR.of_bind (r := fl ρ) h) (fun ds ρ1 q J H1 E1 s1 it D0 hD => ?_) fun _ _ q => q⟩
  by_cases hz : lenOk ds.length = true
  · rw [if_pos hz] at q
    have hF := E1.free0 hD
    have hX : ¬ fr.X D0 := fun z => by
      obtain ⟨⟨o, e⟩, _⟩ := E1.xt D0 z
      rw [hD] at e
      cases e
    refine lc_of (Q := Q) hf hsl it E1 hD (lenOk_iff.mp hz) (wp_noX (lcL_noX _ g tt te ds _) (wpR.mono (wpR.of_bind q) (fun ys ρ2 q hy H2 vs E2 s2 l r => ?_) fun e ρ2 q => q))
    · have hO : ∀ b, Owned (fr.xp (Xd fr D0)).toFr (wipe σ (own.map (·.2))) b ↔ Owned fr.toFr σ b := fun b => own_wipe (fr := fr.xp (Xd fr D0)) hf
      have E3 := ER.made E2 l hF hX
      have s3 : Stp (Owned fr.toFr σ) H1 (hide H2 D0) := ⟨fun b o q n => by rw [hide_ne (ne_of_none q hD)]; exact s2.k b o q n, fun b xs q => by rw [hide_ne (ne_of_none q hD)]; exact s2.t b xs q, fun b o u q => by rw [hide_ne (ne_of_none q hD)]; exact s2.f b o u q⟩
      refine q D0 (hide H2 D0) H2 (.lst vs) (E1.rest E3 hf s3) (s1.trans s3) hide_same (fun b o q => ?_) l ⟨hy, vs, rfl, ?_⟩
      · by_cases hb : b = D0
        · subst hb; rw [hide_same] at q; cases q
        · rw [hide_ne hb] at q; exact q
      · refine RpL.move (fun b o g q => ?_) (fun b xs q => ?_) (fun b o u q => ?_) ys vs r
        · have hb : b ≠ D0 := fun z => g.2.2 (.inr z)
          exact ⟨⟨g.1, fun z => g.2.1 ((hO b).mpr z), fun z => g.2.2 (.inl z)⟩, by rw [hide_ne hb]; exact q⟩
        · rw [hide_ne (ne_of q l (by intro z; cases z))]; exact q
        · rw [hide_ne (ne_of q l (by intro z; cases z))]; exact q
  · rw [if_neg hz] at q
    exact q.elim
theorem df_lc (hc : X.calm = true) (hN : X.N.Nodup) (hk : fr.K = X.K) (hi : DI X fr W tg iter fl) (ok : BlkOk X.N X.env.scope scope own) (hf : Free fr.toFr (own.map (·.2))) (hsl : ∀ i, i ∈ sl → i ∈ own.map (·.2))
    (hg : ∀ (s : Shared) (H : Hp) (C : Addr) (cl : List (Str × Addr)) (fp : List Addr) (xp : Addr → Prop), DG (X.blk s H scope (compEnvC scope cl C X.env) fp) (fr.xp xp) sl tg g)
    (ht : ∀ (s : Shared) (H : Hp) (C : Addr) (cl : List (Str × Addr)) (fp : List Addr) (xp : Addr → Prop), DTs (X.blk s H scope (compEnvC scope cl C X.env) fp) (fr.xp xp) W0 ifs tt)
    (he : ∀ (s : Shared) (H : Hp) (C : Addr) (cl : List (Str × Addr)) (fp : List Addr) (xp : Addr → Prop), DE (X.blk s H scope (compEnvC scope cl C X.env) fp) (fr.xp xp) W0 elt te) (hs : ∀ x, foldedSetIterable iter X.env x = pure x := by intro _; rfl) :
    DF X fr W (.ListComp elt [⟨tg, iter, ifs, 0⟩] scope pos) (eLc fl (own.map (·.2)) g tt te) := 
  df_lc_of hf hsl (pe_lc (g := gEx fr sl g) (tt := tEx fr tt) (te := eEx fr te) hc hN hi ok
    (fun s H C cl fp => ⟨fun pins s' σ H v u Q I r ⟨xp, q⟩ => (hg s _ C cl fp xp).run pins s' σ H v u Q I r q⟩)
    (fun s H C cl fp => ⟨fun pins s' σ H Q I ⟨xp, q⟩ => (ht s _ C cl fp xp).run pins s' σ H Q I q⟩)
    (fun s H C cl fp => ⟨fun pins s' σ H Q I ⟨xp, q⟩ => (he s _ C cl fp xp).run pins s' σ H Q I q⟩) hs)
/-- a display of a list is new -/
theorem df_lst (h : DAs X fr W es (vs_ fs)) : DF X fr W (.List es pos) (eLst fs) :=
  pe_mono (pe_lst h.e) fun σ H Q ⟨ρ, E, h⟩ => tArgsV_of fs H ρ _ E (wpR.mono (wpR.of_bind (r := evalV fs ρ) h) (fun ds ρ1 q vs H1 E1 s1 r1 => by
    by_cases hl : lenOk ds.length = true
    · rw [if_pos hl] at q
      exact ⟨by rw [r1.length]; exact lenOk_iff.mp hl, fun p hp => q p H1 _ (.lst vs) E1 s1 hp (same_upd hp) upd_same ⟨lenOk_iff.mp hl, vs, rfl, r1⟩⟩
    · rw [if_neg hl] at q
      exact q.elim) fun _ _ q => q)
end
end DL
end
section
namespace DL
open PySem PySem.Spec L2
open PyProof.Rows hiding St
section
variable {X : Cx} {fr : Fx} {W : WX} {σ σ1 : L2.St} {H H1 H' : Hp} {ρ ρ' ρ1 ρ2 : DL.Env} {Q : VK} {tg e e' a b iter elt : Expr} {es ifs : List Expr} {pos p apos : Pos} {f fi te : M D} {i : Nat} {d : D} {v : V} {A : Addr}

/-! ### an owning name is stored -/
theorem own_setO {x : Addr} {b : Addr} (h : Owned fr.toFr (σ.set i (some (.ref x))) b) : Owned fr.toFr σ b ∨ b = x := by
  obtain ⟨j, h1, h2⟩ := h
  by_cases e : i = j
  · subst e
    have hi : i < σ.length := by
      have := (List.getElem?_eq_some_iff.mp h2).1
      simpa using this
    rw [List.getElem?_set_self hi] at h2
    cases h2
    exact .inr rfl
  · rw [List.getElem?_set_ne e] at h2
    exact .inl ⟨j, h1, h2⟩
theorem ER.setO {d : D} {o : HO} (E : ER fr.toFr σ H1 ρ) (hO : fr.O i = true) (hP : fr.P i = false) (n : H1 A = none) (sm : Same H1 H') (l : H' A = some o) (r : Ob fr.w fr.K (Good fr.toFr σ) H1 d A o) :
    ER fr.toFr (σ.set i (some (.ref A))) H' (ρ.set i (some d)) := by
  have hg : ∀ b o, Good fr.toFr σ b → H1 b = some o → Good fr.toFr (σ.set i (some (.ref A))) b ∧ H' b = some o := fun b o g q => ⟨⟨g.1, fun z => (own_setO z).elim g.2.1 (ne_of_none q n), g.2.2⟩, sm b o q⟩
  have ht : ∀ b xs, H1 b = some (.tup xs) → H' b = some (.tup xs) := fun b xs q => sm b _ q
  have hf : ∀ b o u, H1 b = some (.frz o u) → H' b = some (.frz o u) := fun b o u q => sm b _ q
  refine ⟨by simp only [List.length_set, E.len], fun j d' h1 h2 => ?_, fun j d' h1 h2 => ?_, fun j h1 h2 => ?_, fun j k a h1 h2 h3 h4 => ?_, fun j h1 => ?_, E.step.trans (Stp.same sm), fun b h => ⟨(E.xt b h).1.imp fun o q => sm b o q, fun z => (own_setO z).elim (E.xt b h).2 fun e => ?_⟩⟩
  · have e : i ≠ j := fun z => by subst z; rw [hO] at h2; cases h2
    rw [List.getElem?_set_ne e] at h1
    obtain ⟨v', h3, h4⟩ := E.pl j d' h1 h2
    exact ⟨v', by rw [List.getElem?_set_ne e]; exact h3, Rp.move hg ht hf d' v' h4⟩
  · by_cases e : i = j
    · subst e
      have hi : i < ρ.length := by
        have := (List.getElem?_eq_some_iff.mp h1).1
        simpa using this
      rw [List.getElem?_set_self hi] at h1
      cases h1
      exact ⟨A, List.getElem?_set_self (by rw [E.len]; exact hi), ⟨o, l, r.move hg ht hf⟩, .inr (E.free0 n)⟩
    · rw [List.getElem?_set_ne e] at h1
      obtain ⟨a, h3, h4, h5⟩ := E.ow j d' h1 h2
      exact ⟨a, by rw [List.getElem?_set_ne e]; exact h3, h4.move (fun o q => sm _ _ q) hg ht hf, h5⟩
  · by_cases e : i = j
    · subst e
      have hi : i < ρ.length := by
        have := (List.getElem?_eq_some_iff.mp h2).1
        simpa using this
      rw [List.getElem?_set_self hi] at h2
      cases h2
    · rw [List.getElem?_set_ne e] at h2 ⊢
      exact E.nn j h1 h2
  · have other : ∀ m, fr.O m = true → i ≠ m → (σ.set i (some (.ref A)))[m]? = some (some (.ref a)) → σ[m]? = some (some (.ref a)) ∧ a ≠ A := fun m hm e h => by
      rw [List.getElem?_set_ne e] at h
      obtain ⟨o, q, _⟩ := E.owned ⟨m, hm, h⟩
      exact ⟨h, ne_of_none q n⟩
    have self : (σ.set i (some (.ref A)))[i]? = some (some (.ref a)) → a = A := fun h => by
      have hi : i < σ.length := by
        have := (List.getElem?_eq_some_iff.mp h).1
        simpa using this
      rw [List.getElem?_set_self hi] at h
      cases h
      rfl
    by_cases e : i = j
    · subst e
      by_cases e' : i = k
      · exact e'
      · exact absurd (self h3) (other k h2 e' h4).2
    · by_cases e' : i = k
      · subst e'
        exact absurd (self h4) (other j h1 e h3).2
      · exact E.ne j k a h1 h2 (other j h1 e h3).1 (other k h2 e' h4).1
  · obtain ⟨h2, h3, d', h4⟩ := E.par j h1
    have e : i ≠ j := fun z => by subst z; rw [hP] at h1; cases h1
    exact ⟨h2, by rw [List.getElem?_set_ne e]; exact h3, d', by rw [List.getElem?_set_ne e]; exact h4⟩
  · obtain ⟨o, q⟩ := (E.xt b h).1
    exact absurd e (ne_of_none q n)
def sAsgO (i : Nat) (f : M D) : M Fl := f.bind fun d ρ => .ok .nx (ρ.set i (some d))
theorem ds_asgO {x : Str} (hO : fr.O i = true) (hP : fr.P i = false) (he : DF X fr W e f) (hN : X.N.Nodup) (hi : X.N[i]? = some x) (hx : Loc X.env.scope x) (hs : swapsWithSole [.Name x p] e pos.line X.env = pure false := by rfl) (hw : swappedStores [.Name x p] e X.env = pure none := by rfl)
    (h1 : (assignEach [.Name x p] X.env).map (·.2) = [assign (.Name x p) X.env] := by rfl) (hf : X.fn x = true ∨ X.env.scope.names.lookup x = some .local := by first | exact .inl rfl | exact .inr rfl | assumption) : DS X fr W (.Assign [.Name x p] e pos) (sAsgO i f) :=
  ps_mono (ps_asg he (pg_name hN hi hx hf) hs hw h1) fun Dn σ H ⟨ρ, E, h⟩ => ⟨ρ, E, wp_head h fun d ρ1 q a H1 H' o E1 s1 n sm l r => by
    refine q _ H' (E1.setO hO hP n sm l r) ⟨fun b o hb nb => ⟨sm b o (s1.k b o hb nb), fun z => (own_setO z).elim nb (ne_of_none (s1.k b o hb nb) n)⟩, fun b xs hb => sm b _ (s1.t b xs hb), fun b o u hb => sm b _ (s1.f b o u hb)⟩⟩

/-- a new list is handed back -/
def sRetF (f : M D) : M Fl := f.bind fun d => M.pure (.rf d)
theorem ds_retF (h : DF X fr W e f) : DS X fr W (.Return (some e) pos) (sRetF f) :=
  ps_mono (ps_ret h) fun Dn σ H ⟨ρ, E, h⟩ => ⟨ρ, E, wp_head h fun d ρ1 q a H1 H' o E1 s1 n sm l r => q a H1 H' σ o E1 (StS.of s1) n sm l r⟩

/-! ### an owned list is changed -/
/-- the object at an owning slot gets other data -/
theorem ER.putO {d : D} {o0 o : HO} (E : ER fr.toFr σ H ρ) (hO : fr.O i = true) (hσ : σ[i]? = some (some (.ref A))) (hA : H A = some o0) (t0 : Trk o0) (r : Ob fr.w fr.K (Good fr.toFr σ) H d A o) (hs : fr.S A ∨ fr.F A = none) :
    ER fr.toFr σ (upd H A o) (ρ.set i (some d)) ∧ Stp (Owned fr.toFr σ) H (upd H A o) := by
  have hOw : Owned fr.toFr σ A := ⟨i, hO, hσ⟩
  have nA : ∀ b, ¬ Owned fr.toFr σ b → b ≠ A := fun b n z => n (z ▸ hOw)
  have hg : ∀ b x, Good fr.toFr σ b → H b = some x → Good fr.toFr σ b ∧ upd H A o b = some x := fun b x g q => ⟨g, by rw [upd_ne (nA b g.2.1)]; exact q⟩
  have ht : ∀ b xs, H b = some (.tup xs) → upd H A o b = some (.tup xs) := fun b xs q => by rw [upd_ne (ne_of q hA (Ne.symm (t0.2.1 xs)))]; exact q
  have hf : ∀ b ob u, H b = some (.frz ob u) → upd H A o b = some (.frz ob u) := fun b ob u q => by rw [upd_ne (ne_of q hA (Ne.symm (t0.2.2 ob u)))]; exact q
  refine ⟨⟨by simp only [List.length_set, E.len], fun j d' h1 h2 => ?_, fun j d' h1 h2 => ?_, fun j h1 h2 => ?_, E.ne, fun j h1 => ?_, ⟨fun b o h n => ?_, fun b xs h => ht _ _ (E.step.t b xs h), fun b o u h => hf _ _ _ (E.step.f b o u h)⟩, fun b h => ⟨?_, (E.xt b h).2⟩⟩, ⟨fun b o q n => by rw [upd_ne (nA b n)]; exact q, ht, hf⟩⟩
  · have e : i ≠ j := fun z => by subst z; rw [hO] at h2; cases h2
    rw [List.getElem?_set_ne e] at h1
    obtain ⟨v', h3, h4⟩ := E.pl j d' h1 h2
    exact ⟨v', h3, Rp.move hg ht hf d' v' h4⟩
  · by_cases e : i = j
    · subst e
      have hi : i < ρ.length := by
        have := (List.getElem?_eq_some_iff.mp h1).1
        simpa using this
      rw [List.getElem?_set_self hi] at h1
      cases h1
      exact ⟨A, hσ, ⟨o, upd_same, r.move hg ht hf⟩, hs⟩
    · rw [List.getElem?_set_ne e] at h1
      obtain ⟨a, h3, h4, h5⟩ := E.ow j d' h1 h2
      have ha : a ≠ A := fun z => e (E.ne i j A hO h2 hσ (z ▸ h3))
      exact ⟨a, h3, h4.move (fun o q => by rw [upd_ne ha]; exact q) hg ht hf, h5⟩
  · by_cases e : i = j
    · subst e
      have hi : i < ρ.length := by
        have := (List.getElem?_eq_some_iff.mp h2).1
        simpa using this
      rw [List.getElem?_set_self hi] at h2
      cases h2
    · rw [List.getElem?_set_ne e] at h2
      exact E.nn j h1 h2
  · obtain ⟨h2, h3, d', h4⟩ := E.par j h1
    by_cases e : i = j
    · subst e
      exact ⟨h2, h3, _, List.getElem?_set_self (List.getElem?_eq_some_iff.mp h4).1⟩
    · exact ⟨h2, h3, d', by rw [List.getElem?_set_ne e]; exact h4⟩
  · have hb : b ≠ A := fun z => by
      subst z
      rcases hs with hs | hs
      · exact n hs
      · rw [h] at hs; cases hs
    rw [upd_ne hb]
    exact E.step.k b o h n
  · have hb : b ≠ A := fun z => (E.xt b h).2 (z ▸ hOw)
    obtain ⟨o, q⟩ := (E.xt b h).1
    exact ⟨o, by rw [upd_ne hb]; exact q⟩
/-- x.append(e) -/
def sApp (i : Nat) (f : M D) : M Fl := fun ρ => match ρ[i]? with
  | some (some (.lst _)) => (f.bind fun d ρ1 => match ρ1[i]? with
    | some (some (.lst ds)) => if lenOk (ds.length + 1) then .ok .nx (ρ1.set i (some (.lst (ds ++ [d])))) else .stuck
    | _ => .stuck) ρ
  | _ => .stuck
theorem ow_lst {w : World} {K : PySem.W.Frag} {G : Addr → Prop} {ds : List D} (h : Ow w K G H (.lst ds) A) : ds.length ≤ sizeLine ∧ ∃ vs, H A = some (.lst vs) ∧ RpL K G H ds vs := by
  obtain ⟨o, e, z, vs, rfl, r⟩ := h
  exact ⟨z, vs, e, r⟩
theorem ds_append {c : Expr} (hO : fr.O i = true) (hcall : PE X c (tBM X.K "list" rAppend (tVar i) (tCons (tD fr W f) tNil))) (hsw : swapsWith c none pos.line X.env = pure false := by rfl) :
    DS X fr W (.Expr c pos) (sApp i f) :=
  ps_mono (ps_expr hcall hsw) fun Dn σ H ⟨ρ, E, h⟩ => by
    unfold sApp at h
    split at h
    · rename_i ds0 hd0
      obtain ⟨A, h1, h2, h3⟩ := E.ow i _ hd0 hO
      obtain ⟨z0, vs0, e0, r0⟩ := ow_lst h2
      refine ⟨.ref A, h1, .inl ⟨rfl, vs0, .inl (.inl e0)⟩, ρ, E, wp_head h fun d ρ1 q v H1 E1 s1 r1 => ?_⟩
      split at q
      · rename_i ds hds
        split at q
        · rename_i hl
          obtain ⟨A', h1', h2', h3'⟩ := E1.ow i _ hds hO
          rw [h1] at h1'
          cases h1'
          obtain ⟨z, vs, e1, r⟩ := ow_lst h2'
          have hl' := lenOk_iff.mp hl
          obtain ⟨E2, s2⟩ := E1.putO (d := .lst (ds ++ [d])) (o := .lst (vs ++ [v])) hO h1 e1 trk_lst ⟨by simpa using hl', _, rfl, RpL.append r (RpL.cons r1 RpL.nil)⟩ h3'
          exact ⟨A, vs, v, rfl, rfl, e1, by rw [r.length]; omega, q σ _ E2 (StS.of (s1.trans s2))⟩
        · exact q.elim
      · exact q.elim
    · exact h.elim
/-- x[k] = e -/
def sSetI (i : Nat) (fi f : M D) : M Fl := f.bind fun d ρ1 => match ρ1[i]? with
  | some (some (.lst _)) => (fi.bind fun k ρ2 => match k, ρ2[i]? with
    | .int n, some (some (.lst ds)) => (match ixN ds.length n with
      | some j => .ok .nx (ρ2.set i (some (.lst (ds.set j d))))
      | none => .stuck)
    | _, _ => .stuck) ρ1
  | _ => .stuck
theorem ds_setI {tg : Expr} (hO : fr.O i = true) (he : DE X fr W e f) (hg : PG X tg (gSub (tVar i) (tD fr W fi) rSetL)) (hs : swapsWithSole [tg] e pos.line X.env = pure false := by rfl) (hw : swappedStores [tg] e X.env = pure none := by rfl)
    (h1 : (assignEach [tg] X.env).map (·.2) = [assign tg X.env] := by rfl) : DS X fr W (.Assign [tg] e pos) (sSetI i fi f) :=
  ps_mono (ps_asg he hg hs hw h1) fun Dn σ H ⟨ρ, E, h⟩ => ⟨ρ, E, wp_head h fun d ρ1 q v H1 E1 s1 r1 => by
    split at q
    · rename_i ds0 hd0
      obtain ⟨A, h1, h2, h3⟩ := E1.ow i _ hd0 hO
      refine ⟨.ref A, h1, ρ1, E1, wp_head q fun k ρ2 q kv H2 E2 s2 r2 => ?_⟩
      split at q
      · rename_i n ds hds
        split at q
        · rename_i j hj
          obtain ⟨A', h1', h2', h3'⟩ := E2.ow i _ hds hO
          rw [h1] at h1'
          cases h1'
          obtain ⟨z, vs, e1, r⟩ := ow_lst h2'
          obtain ⟨E3, s3⟩ := E2.putO (d := .lst (ds.set j d)) (o := .lst (vs.set j v)) hO h1 e1 trk_lst ⟨by simpa using z, _, rfl, RpL.set j r (r1.good s2)⟩ h3'
          exact ⟨A, vs, n, j, rfl, (r2.rs (w := fr.w)).int, e1, by rw [r.length]; exact hj, q σ _ E3 (StS.of ((s1.trans s2).trans s3))⟩
        · exact q.elim
      · exact q.elim
    · exact q.elim⟩
/-- an owned object, made here, is handed back as a new one -/
def sRetO (i : Nat) : M Fl := fun ρ => match ρ[i]? with
  | some (some d) => .ok (.rf d) (ρ.set i none)
  | _ => .stuck
theorem ER.gone {o : HO} (E : ER fr.toFr σ H ρ) (hO : fr.O i = true) (hP : fr.P i = false) (hσ : σ[i]? = some (some (.ref A))) (hA : H A = some o) (t : Trk o) (hF : fr.F A = none) :
    ER fr.toFr (σ.set i none) (hide H A) (ρ.set i none) ∧ StS fr.toFr σ H (σ.set i none) (hide H A) := by
  have hOw : Owned fr.toFr σ A := ⟨i, hO, hσ⟩
  have hi : i < σ.length := (List.getElem?_eq_some_iff.mp hσ).1
  have own' : ∀ b, Owned fr.toFr (σ.set i none) b → Owned fr.toFr σ b := fun b ⟨j, h1, h2⟩ => by
    by_cases e : i = j
    · subst e
      rw [List.getElem?_set_self hi] at h2
      cases h2
    · rw [List.getElem?_set_ne e] at h2
      exact ⟨j, h1, h2⟩
  have nA : ∀ b, ¬ Owned fr.toFr σ b → b ≠ A := fun b n z => n (z ▸ hOw)
  have hg : ∀ b x, Good fr.toFr σ b → H b = some x → Good fr.toFr (σ.set i none) b ∧ hide H A b = some x := fun b x g q => ⟨⟨g.1, fun z => g.2.1 (own' b z), g.2.2⟩, by rw [hide_ne (nA b g.2.1)]; exact q⟩
  have ht : ∀ b xs, H b = some (.tup xs) → hide H A b = some (.tup xs) := fun b xs q => by rw [hide_ne (ne_of q hA (Ne.symm (t.2.1 xs)))]; exact q
  have hf : ∀ b ob u, H b = some (.frz ob u) → hide H A b = some (.frz ob u) := fun b ob u q => by rw [hide_ne (ne_of q hA (Ne.symm (t.2.2 ob u)))]; exact q
  refine ⟨⟨by simp only [List.length_set, E.len], fun j d' h1 h2 => ?_, fun j d' h1 h2 => ?_, fun j h1 h2 => ?_, fun j k a h1 h2 h3 h4 => ?_, fun j h1 => ?_, ⟨fun b x h n => ?_, fun b xs h => ht _ _ (E.step.t b xs h), fun b ob u h => hf _ _ _ (E.step.f b ob u h)⟩, fun b h => ⟨?_, fun z => (E.xt b h).2 (own' b z)⟩⟩, ⟨fun b x q n => ⟨by rw [hide_ne (nA b n)]; exact q, fun z => n (own' b z)⟩, ht, hf⟩⟩
  · have e : i ≠ j := fun z => by subst z; rw [hO] at h2; cases h2
    rw [List.getElem?_set_ne e] at h1
    obtain ⟨v', h3, h4⟩ := E.pl j d' h1 h2
    exact ⟨v', by rw [List.getElem?_set_ne e]; exact h3, Rp.move hg ht hf d' v' h4⟩
  · have e : i ≠ j := fun z => by
      subst z
      rw [List.getElem?_set_self (by rw [← E.len]; exact hi)] at h1
      cases h1
    rw [List.getElem?_set_ne e] at h1
    obtain ⟨a, h3, h4, h5⟩ := E.ow j d' h1 h2
    have ha : a ≠ A := fun z => e (E.ne i j A hO h2 hσ (z ▸ h3))
    exact ⟨a, by rw [List.getElem?_set_ne e]; exact h3, h4.move (fun o q => by rw [hide_ne ha]; exact q) hg ht hf, h5⟩
  · by_cases e : i = j
    · subst e
      exact List.getElem?_set_self hi
    · rw [List.getElem?_set_ne e] at h2 ⊢
      exact E.nn j h1 h2
  · have e : i ≠ j := fun z => by
      subst z
      rw [List.getElem?_set_self hi] at h3
      cases h3
    have e' : i ≠ k := fun z => by
      subst z
      rw [List.getElem?_set_self hi] at h4
      cases h4
    rw [List.getElem?_set_ne e] at h3
    rw [List.getElem?_set_ne e'] at h4
    exact E.ne j k a h1 h2 h3 h4
  · obtain ⟨h2, h3, d', h4⟩ := E.par j h1
    have e : i ≠ j := fun z => by subst z; rw [hP] at h1; cases h1
    exact ⟨h2, by rw [List.getElem?_set_ne e]; exact h3, d', by rw [List.getElem?_set_ne e]; exact h4⟩
  · have hb : b ≠ A := fun z => by
      subst z
      have hF' : fr.toFr.F b = none := hF
      rw [h] at hF'
      cases hF'
    rw [hide_ne hb]
    exact E.step.k b x h n
  · have hb : b ≠ A := fun z => (E.xt b h).2 (z ▸ hOw)
    obtain ⟨x, q⟩ := (E.xt b h).1
    exact ⟨x, by rw [hide_ne hb]; exact q⟩
theorem ds_retO {x : Str} (hO : fr.O i = true) (hP : fr.P i = false) (hN : X.N[i]? = some x) (hv : Vis X.env.scope x) (hd : (x == ("__debug__" : Str)) = false := by decide) (hcd : (x == ("__classdict__" : Str)) = false := by decide) :
    DS X fr W (.Return (some (.Name x p)) pos) (sRetO i) :=
  ps_mono (ps_ret (pe_var hN hv hd hcd)) fun Dn σ H ⟨ρ, E, h⟩ => by
    unfold sRetO at h
    split at h
    · rename_i d hd
      obtain ⟨a, h1, ⟨o, e, r⟩, h3⟩ := E.ow i d hd hO
      have hs : ¬ fr.S a := fun ⟨j, hj, hA⟩ => by
        obtain ⟨hOj, h4, _⟩ := E.par j hj
        have := E.ne i j a hO hOj h1 (hA ▸ h4)
        subst this
        rw [hP] at hj
        cases hj
      obtain ⟨E', s'⟩ := E.gone hO hP h1 e r.trk (h3.resolve_left hs)
      refine ⟨.ref a, h1, h a (hide H a) H (σ.set i none) o E' s' hide_same (fun b x q => ?_) e ?_⟩
      · by_cases hb : b = a
        · subst hb; rw [hide_same] at q; cases q
        · rwa [hide_ne hb] at q
      · have t := r.trk
        refine r.move (fun b x g q => ?_) (fun b xs q => by rw [hide_ne (ne_of q e (Ne.symm (t.2.1 xs)))]; exact q) (fun b ob u q => by rw [hide_ne (ne_of q e (Ne.symm (t.2.2 ob u)))]; exact q)
        have hb : b ≠ a := fun z => g.2.1 (z ▸ ⟨i, hO, h1⟩)
        refine ⟨⟨g.1, fun ⟨j, z1, z2⟩ => g.2.1 ?_, g.2.2⟩, by rw [hide_ne hb]; exact q⟩
        by_cases ej : i = j
        · subst ej
          rw [List.getElem?_set_self (List.getElem?_eq_some_iff.mp h1).1] at z2
          cases z2
        · rw [List.getElem?_set_ne ej] at z2
          exact ⟨j, z1, z2⟩
    · exact h.elim
end
end DL
end
section
namespace DL
open PySem PySem.Spec L2
open PyProof.Rows hiding St
/-! ### short words -/
section
variable {X : Cx} {fr : Fx} {W : WX} {x : Str} {pos p : Pos} {e : Expr} {es : List Expr}
theorem dv (i : Nat) (hO : fr.O i = false := by rfl) (hN : X.N[i]? = some x := by rfl) (hv : Vis X.env.scope x := by first | exact Or.inl rfl | exact Or.inr (Or.inl rfl) | exact Or.inr (Or.inr rfl)) (hd : (x == ("__debug__" : Str)) = false := by decide)
    (hcd : (x == ("__classdict__" : Str)) = false := by decide) : DE X fr W (.Name x pos) (eV i) := de_var hO hN hv hd hcd
theorem dp (i : Nat) (hO : fr.O i = true := by rfl) (hN : X.N[i]? = some x := by rfl) (hv : Vis X.env.scope x := by first | exact Or.inl rfl | exact Or.inr (Or.inl rfl) | exact Or.inr (Or.inr rfl)) (hd : (x == ("__debug__" : Str)) = false := by decide)
    (hcd : (x == ("__classdict__" : Str)) = false := by decide) : DA X fr W (.Name x pos) (.p i) := DA.pl hO hN hv hd hcd
theorem free_of {fr : Fr} {own : List Nat} (h : (own.all fun i => !fr.O i) = true) : Free fr own := fun i hi => by
  rw [List.all_eq_true] at h
  simpa using h i hi
theorem sub_of {sl own : List Nat} (h : (sl.all fun i => own.contains i) = true) : ∀ i, i ∈ sl → i ∈ own := fun i hi => by
  rw [List.all_eq_true] at h
  simpa using h i hi
theorem hu64 {k : Nat} {A : Around} (hr : Room k A) : A.units + 64 < cLine := hr.units
theorem hu65 {k : Nat} {A : Around} (hr : Room k A) : A.units + 65 < cLine := by have := hr.un; omega
end
section
variable (P : Program) (w : World) (K : PySem.W.Frag) (mg : Str → Option Value) (base : Heap) (xr : XR)
/-- a def that may be called, and what it does -/
def Cal (x : Str) (k : Nat) (nw : Bool) (n : Nat) (io : List Nat) (m : Fn) (dvs : List D) : Prop := ∃ (f : Addr) (fd : FuncData) (ps : List Str) (ds : List Value) (dvV : List V),
  FnOk P w K mg base (L2N.CX P w) k f fd ps (spD w K xr nw n io m) ∧ mg x = some (.ref f) ∧ PySem.W.keepIn K (.ref f) = true ∧ Binds K fd ps ds ∧ Vals dvV ds ∧ ∀ G H, RpL K G H dvs dvV
/-- a def as it stands behind the top, with its defaults -/
def Fd (x : Str) (st : Stmt) (dfl : List V) : Prop := ∃ (f : Addr) (fd : FuncData), mg x = some (.ref f) ∧ FunD K x x (defArgs st) (defBody st) (defScope st) dfl [] f fd
/-- a def that keeps its promise -/
def Okf (x : Str) (st : Stmt) (dfl : List V) (k : Nat) (nw : Bool) (ps : List Str) (io : List Nat) (m : Fn) : Prop := ∃ (f : Addr) (fd : FuncData),
  FnOk P w K mg base (L2N.CX P w) k f fd ps (spD w K xr nw ps.length io m) ∧ mg x = some (.ref f) ∧ FunD K x x (defArgs st) (defBody st) (defScope st) dfl [] f fd
/-- the module's name x holds d -/
def CDat (x : Str) (d : D) : Prop := ∃ (v : V) (u : Value), mg x = some u ∧ RelV v u ∧ ∀ G H, Rp K G H d v
end
section
variable {X : Cx} {fr : Fx} {W : WX} {x : Str} {pos p : Pos} {e : Expr} {es : List Expr} {k n : Nat} {io : List Nat} {m : Fn} {dvs : List D} {as : List ArgM}
theorem dcl (c : Cal X.prog X.w X.K X.mg X.base fr.ex x k false n io m dvs) (hr : Room k X.A) (tk : L2N.Takes X W) (ha : DAs X fr W (e :: es) as) (hx : Gl X x := by rfl) (hk : fr.K = X.K := by rfl) (hw : fr.w = X.w := by rfl) (hn : (e :: es).length + dvs.length = n := by rfl) (hes : as.length = (e :: es).length := by rfl) (hs : shapeOk (shp as) io = true := by rfl)
    (hdb : (x == ("__debug__" : Str)) = false := by decide)
    (he : starEach (e :: es) X.env = (false, eval e X.env) :: starEach es X.env := by rfl) (hpl : (backTo pos (starEach es X.env)).any (·.1) = false := by rfl) :
    DE X fr W (.Call (.Name x p) (e :: es) [] pos) (eCall m io as dvs) := by
  obtain ⟨f, fd, ps, ds, dvV, F, hm, hkp, hb, hd, hdv⟩ := c
  exact de_call F hr hx hm hkp hb hd (hk ▸ hdv) tk hk hw ha hn hes hs hdb he hpl
theorem dgc {d : D} (c : CDat X.K X.mg x d) (hg : Gl X x := by rfl) (hk : fr.K = X.K := by rfl) (hd : (x == ("__debug__" : Str)) = false := by decide) : DE X fr W (.Name x pos) (eC d) := by
  obtain ⟨v, u, h1, h2, h3⟩ := c
  exact de_glob hg h1 h2 (fun G H => hk ▸ h3 G H) hd
theorem dclF (c : Cal X.prog X.w X.K X.mg X.base fr.ex x k true n io m dvs) (hr : Room k X.A) (tk : L2N.Takes X W) (ha : DAs X fr W (e :: es) as) (hx : Gl X x := by rfl) (hk : fr.K = X.K := by rfl) (hw : fr.w = X.w := by rfl) (hn : (e :: es).length + dvs.length = n := by rfl) (hes : as.length = (e :: es).length := by rfl) (hs : shapeOk (shp as) io = true := by rfl)
    (hdb : (x == ("__debug__" : Str)) = false := by decide)
    (he : starEach (e :: es) X.env = (false, eval e X.env) :: starEach es X.env := by rfl) (hpl : (backTo pos (starEach es X.env)).any (·.1) = false := by rfl) :
    DF X fr W (.Call (.Name x p) (e :: es) [] pos) (eCall m io as dvs) := by
  obtain ⟨f, fd, ps, ds, dvV, F, hm, hkp, hb, hd, hdv⟩ := c
  exact df_call F hr hx hm hkp hb hd (hk ▸ hdv) tk hk hw ha hn hes hs hdb he hpl
end
section
variable {P : Program} {w : World} {K : PySem.W.Frag} {mg : Str → Option Value} {base : Heap} {xr : XR}
theorem okf_mk0 {x : Str} {st : Stmt} {dfl : List V} {N ps : List Str} {k : Nat} {nw : Bool} {io : List Nat} {O : Nat → Bool} {g : M Fl} (F : Fd K mg x st dfl) (S : FnScope N ps (defScope st))
    (hN : ps.length ≤ N.length) (hio : ∀ i, i ∈ io → i < ps.length ∧ O i = true) (hO : ∀ i, i < ps.length → O i = true → i ∈ io)
    (hbody : ∀ (f : Addr) (cdv : Value) (A : Around) (outer : List PySem.Env) (s : Shared) (H : Hp) (E : XK) (F0 : Hp) (R : Addr → Prop) (A0 : Nat → Addr), Room k (A.deeper (envOfC x (defScope st) s.heap.objs.size f cdv)) →
      DSs0 (cxOf (L2N.CX P w) P w K mg base N x (defScope st) f cdv A outer s H E) ⟨⟨w, K, F0, R, O, fun i => io.contains i, A0, fun _ => False⟩, xr⟩ (fun c d _ H => E c d H) (defBody st) g) :
    Okf P w K mg base xr x st dfl (k + 1) nw ps io (mkFn nw N.length io g) := by
  obtain ⟨f, fd, hm, F⟩ := F
  exact ⟨f, fd, fn_okD F S hN hio hO (hbody f), hm, F⟩
theorem okf_mk {x : Str} {st : Stmt} {dfl : List V} {N ps : List Str} {k : Nat} {nw : Bool} {io : List Nat} {O : Nat → Bool} {g : M Fl} (F : Fd K mg x st dfl) (S : FnScope N ps (defScope st))
    (hN : ps.length ≤ N.length) (hio : ∀ i, i ∈ io → i < ps.length ∧ O i = true) (hO : ∀ i, i < ps.length → O i = true → i ∈ io)
    (hbody : ∀ (f : Addr) (cdv : Value) (A : Around) (outer : List PySem.Env) (s : Shared) (H : Hp) (E : XK) (F0 : Hp) (R : Addr → Prop) (A0 : Nat → Addr), Room k (A.deeper (envOfC x (defScope st) s.heap.objs.size f cdv)) →
      DSs (cxOf (L2N.CX P w) P w K mg base N x (defScope st) f cdv A outer s H E) ⟨⟨w, K, F0, R, O, fun i => io.contains i, A0, fun _ => False⟩, xr⟩ (fun c d _ H => E c d H) (defBody st) g) :
    Okf P w K mg base xr x st dfl (k + 1) nw ps io (mkFn nw N.length io g) := by
  obtain ⟨f, fd, hm, F⟩ := F
  exact ⟨f, fd, fn_okD F S hN hio hO (fun cdv A outer s H E F0 R A0 hr => dss0_of (hbody f cdv A outer s H E F0 R A0 hr)), hm, F⟩
/-- every parameter is given -/
theorem Okf.cal {x : Str} {st : Stmt} {ps : List Str} {k : Nat} {nw : Bool} {io : List Nat} {m : Fn} (o : Okf P w K mg base xr x st [] k nw ps io m)
    (h : ∀ (kV doc pm : Value) (an : Option Addr) (cdv ct : Value) (us : List Value), us.length = ps.length → bindArgs (PySem.W.fnOf x x (defArgs st) (defBody st) (defScope st) .none kV doc pm an cdv ct) ⟨us, []⟩ = pure (ps.zip us)) :
    Cal P w K mg base xr x k nw ps.length io m [] := by
  obtain ⟨f, fd, hF, hm, F⟩ := o
  exact ⟨f, fd, ps, [], [], hF, hm, F.kp, F.bindsN h, .nil, fun _ _ => RpL.nil⟩
/-- n are given, the defaults behind the first j fill up -/
theorem Okf.calD {x : Str} {st : Stmt} {dfl : List V} {ps : List Str} {k : Nat} {nw : Bool} {io : List Nat} {m : Fn} (o : Okf P w K mg base xr x st dfl k nw ps io m) (n j : Nat) (dvs : List D) (hd : dfl ≠ []) (hn : n + (dfl.length - j) = ps.length)
    (h : ∀ (T : Addr) (kV doc pm : Value) (an : Option Addr) (cdv ct : Value) (us its : List Value), us.length = n → its.length = dfl.length →
      ∃ k, bindArgs (PySem.W.fnOf x x (defArgs st) (defBody st) (defScope st) (.ref T) kV doc pm an cdv ct) ⟨us, []⟩ = seqItems? (.ref T) >>= k ∧ k (some its.toArray) = pure (ps.zip (us ++ its.drop j)))
    (hr : ∀ G H, RpL K G H dvs (dfl.drop j)) : Cal P w K mg base xr x k nw ps.length io m dvs := by
  obtain ⟨f, fd, hF, hm, F⟩ := o
  obtain ⟨ds, h1, h2⟩ := F.binds1 n j hd hn h
  exact ⟨f, fd, ps, ds, dfl.drop j, hF, hm, F.kp, h2, h1, hr⟩
/-- what is asked of the law's own def, from what its mirror gives -/
theorem law_sp {m : Fn} {n : Nat} (hm : ∀ ns : List Int, ns.length ≤ n → m [.lst (ns.map .int)] = .ok (.bl true) []) (hn : n ≤ sizeLine) (H : Hp) (a : Addr) (ns : List Int) (hl : ns.length ≤ n) (hS : SqL K H a (ns.map V.int)) :
    spD w K xr false 1 [] m [.ref a] H (fun v _ => v = .bl true) fun _ _ _ => False := by
  refine ⟨rfl, [.lst (ns.map .int)], fun _ => True, ⟨rfl, fun i d h1 _ => ?_, fun i hi => (by cases hi), fun i j b h => (by cases h), fun b ⟨i, hi, _⟩ => (by cases hi)⟩, ?_⟩
  · cases i with
    | zero =>
      simp only [List.getElem?_cons_zero, Option.some.injEq] at h1
      subst h1
      refine ⟨_, rfl, Rp.lst (by rw [List.length_map]; omega) ?_ rpl_ints⟩
      rcases hS with h | h
      · exact .inl ⟨trivial, h⟩
      · exact .inr h
    | succ i => simp at h1
  · rw [hm ns hl]
    show if false = true then _ else _
    rw [if_neg Bool.false_ne_true]
    intro v H' _ r _
    exact (r.rs (w := w)).bl
end
end DL
end
section
namespace DL
open PySem PySem.Spec L2
open PyProof.Rows hiding St
/-! ### what the module's names hold, read by the head's Hook -/
mutual
/-- the value u stands for d in the written part -/
def datB (K : PySem.W.Frag) : D → Value → Bool
  | .non, .none => true
  | .bl b, .bool c => b == c
  | .int i, .int j _ => decide (i = j)
  | .str x, .str y _ => decide (x = y) && decide (x.length ≤ sizeLine)
  | .ty n, .type m => decide (n = m)
  | .tup ds, .ref a => (match K.lookup a with
    | some ⟨.type c, _, .seq its _, _⟩ => decide (c = "tuple") && (decide (its.size ≤ sizeLine) && datBs K ds its.toList)
    | _ => false)
  | .lst ds, .ref a => (match K.lookup a with
    | some ⟨.type c, none, .seq its _, _⟩ => decide (c = "list") && (decide (its.size ≤ sizeLine) && datBs K ds its.toList)
    | _ => false)
  | _, _ => false
def datBs (K : PySem.W.Frag) : List D → List Value → Bool
  | [], [] => true
  | d :: ds, u :: us => datB K d u && datBs K ds us
  | _, _ => false
end
theorem datBs_len {K : PySem.W.Frag} : ∀ {ds : List D} {us : List Value}, datBs K ds us = true → us.length = ds.length
  | [], [], _ => rfl
  | [], _ :: _, h => by simp [datBs] at h
  | _ :: _, [], h => by simp [datBs] at h
  | d :: ds, u :: us, h => by
    simp only [datBs, Bool.and_eq_true] at h
    simp only [List.length_cons, datBs_len h.2]
mutual
theorem datB_ok {K : PySem.W.Frag} : ∀ {d : D} {u : Value}, datB K d u = true → ∃ v, RelV v u ∧ ∀ G H, Rp K G H d v := by
  intro d u h
  match d, u, h with
  | .non, .none, _ => exact ⟨.non, rfl, fun _ _ => by simp only [Rp]⟩
  | .bl b, .bool c, h =>
    have e : b = c := by simpa [datB] using h
    subst e
    exact ⟨.bl b, rfl, fun _ _ => by simp only [Rp]⟩
  | .int i, .int j t, h =>
    have e : i = j := by simpa [datB] using h
    subst e
    exact ⟨.int i, ⟨t, rfl⟩, fun _ _ => by simp only [Rp]⟩
  | .str x, .str y t, h =>
    simp only [datB, Bool.and_eq_true, decide_eq_true_eq] at h
    obtain ⟨e, hl⟩ := h
    subst e
    exact ⟨.str x, ⟨t, rfl⟩, fun _ _ => by simp only [Rp]; exact ⟨trivial, hl⟩⟩
  | .ty n, .type m, h =>
    have e : n = m := by simpa [datB] using h
    subst e
    exact ⟨.ty n, rfl, fun _ _ => by simp only [Rp]⟩
  | .tup ds, .ref a, h =>
    simp only [datB] at h
    split at h
    · rename_i c _ its n osl q
      simp only [Bool.and_eq_true, decide_eq_true_eq] at h
      obtain ⟨h1, h2, h3⟩ := h
      obtain ⟨vs, h4, h5⟩ := datBs_ok h3
      refine ⟨.ref a, rfl, fun G H => Rp.tup ?_ (.inr ⟨_, its, n, q, congrArg Value.type h1, rfl, h2, h4⟩) (h5 G H)⟩
      have := datBs_len h3
      simp only [Array.length_toList] at this
      omega
    · cases h
  | .lst ds, .ref a, h =>
    simp only [datB] at h
    split at h
    · rename_i c its n osl q
      simp only [Bool.and_eq_true, decide_eq_true_eq] at h
      obtain ⟨h1, h2, h3⟩ := h
      obtain ⟨vs, h4, h5⟩ := datBs_ok h3
      refine ⟨.ref a, rfl, fun G H => Rp.lst ?_ (.inr ⟨_, its, n, q, congrArg Value.type h1, rfl, rfl, h2, h4⟩) (h5 G H)⟩
      have := datBs_len h3
      simp only [Array.length_toList] at this
      omega
    · cases h
theorem datBs_ok {K : PySem.W.Frag} : ∀ {ds : List D} {us : List Value}, datBs K ds us = true → ∃ vs, Vals vs us ∧ ∀ G H, RpL K G H ds vs := by
  intro ds us h
  match ds, us, h with
  | [], [], _ => exact ⟨[], .nil, fun _ _ => RpL.nil⟩
  | d :: ds, u :: us, h =>
    simp only [datBs, Bool.and_eq_true] at h
    obtain ⟨v, h1, h2⟩ := datB_ok h.1
    obtain ⟨vs, h3, h4⟩ := datBs_ok h.2
    exact ⟨v :: vs, .cons h1 h3, fun G H => .cons (h2 G H) (h4 G H)⟩
end
def conD (K : PySem.W.Frag) (c : Str × D) : Bool := match PySem.W.nsIn K mainGlobals c.1 with
  | some (some u) => datB K c.2 u
  | _ => false
theorem conD_ok {K : PySem.W.Frag} {h : Heap} {mg : Str → Option Value} (X : K.In h) (G : h.Ns mainGlobals mg) {x : Str} {d : D} (c : conD K (x, d) = true) : CDat K mg x d := by
  unfold conD at c
  split at c
  · rename_i u q
    obtain ⟨v, h1, h2⟩ := datB_ok c
    exact ⟨v, u, PySem.W.mg_of X G q, h1, h2⟩
  · cases c
/-! the Hook -/
abbrev AlG : Type := He.AlD × Bool
def obsG (fa : List He.Fa) (fn : List He.DefD) (cs : List (Str × D)) (ks : List (PySem.W.Frag → Bool)) (K : PySem.W.Frag) : AlG := (He.obsD fa fn K, (cs.all fun c => conD K c) && ks.all fun k => k K)
def SaysG (fa : List He.Fa) (fn : List He.DefD) (cs : List (Str × D)) (ks : List (PySem.W.Frag → Bool)) (K : PySem.W.Frag) : Prop := obsG fa fn cs ks K = (He.valD fn, true)
def obsGG (n : Nat) (fa : List He.Fa) (fn : List He.DefD) (cs : List (Str × D)) (ks : List (PySem.W.Frag → Bool)) (g : Addr → Option Obj) : AlG := obsG fa fn cs ks (He.frG g (He.asD g n))
def hookG (n : Nat) (fa : List He.Fa) (fn : List He.DefD) (cs : List (Str × D)) (ks : List (PySem.W.Frag → Bool)) : PySem.W.Hook where
  α := AlG
  obs := fun s => obsGG n fa fn cs ks s.heap.get?
  val := fun _ => (He.valD fn, true)
  says := fun _ h => ∃ K : PySem.W.Frag, K.In h ∧ SaysG fa fn cs ks K
  of := fun _ _ e => ⟨_, He.frG_in, e⟩
  keeps := fun _ _ _ ⟨K, hK, c⟩ k => ⟨K, PySem.W.Frag.In.keeps hK k, c⟩
theorem obsGG_eq {n : Nat} {fa : List He.Fa} {fn : List He.DefD} {cs : List (Str × D)} {ks : List (PySem.W.Frag → Bool)} {g : Addr → Option Obj} {s : Shared} (h : ∀ a, g a = s.heap.get? a) : obsGG n fa fn cs ks g = (hookG n fa fn cs ks).obs s := by
  have e : g = s.heap.get? := funext h
  rw [e] <;> rfl
section
variable {fa : List He.Fa} {fn : List He.DefD} {cs : List (Str × D)} {ks : List (PySem.W.Frag → Bool)} {w : World} {K : PySem.W.Frag} {h : Heap} {mg : Str → Option Value}
theorem SaysG.d (c : SaysG fa fn cs ks K) : He.SaysD fa fn K := congrArg (fun z : AlG => z.1) c
theorem SaysG.free (c : SaysG fa fn cs ks K) (X : K.In h) (G : h.Ns mainGlobals mg) (i : Nat) {x : Str} (e : fa[i]? = some (.free x) := by rfl) : mg x = none := He.free_ok X G (c.d.fact i e)
theorem SaysG.con (c : SaysG fa fn cs ks K) (X : K.In h) (G : h.Ns mainGlobals mg) (i : Nat) {x : Str} {d : D} (e : cs[i]? = some (x, d) := by rfl) : CDat K mg x d := by
  have c1 : (cs.all fun c => conD K c) = true := (He.ba (show ((cs.all fun c => conD K c) && ks.all fun k => k K) = true from congrArg (fun z : AlG => z.2) c)).1
  exact conD_ok X G (List.all_eq_true.mp c1 (x, d) (List.mem_of_getElem? e))
theorem SaysG.k (c : SaysG fa fn cs ks K) (i : Nat) {k : PySem.W.Frag → Bool} (e : ks[i]? = some k := by rfl) : k K = true :=
  List.all_eq_true.mp (He.ba (show ((cs.all fun c => conD K c) && ks.all fun k => k K) = true from congrArg (fun z : AlG => z.2) c)).2 k (List.mem_of_getElem? e)
theorem SaysG.fd (c : SaysG fa fn cs ks K) (X : K.In h) (G : h.Ns mainGlobals mg) (i j : Nat) {x : Str} {st : Stmt} {dfl : List He.Dv} (e : fn[i]? = some ⟨(x, none), x, x, defArgs st, defBody st, defScope st, dfl, []⟩ := by rfl) (e2 : fa[j]? = some (.glo x) := by rfl) :
    Fd K mg x st (dfl.map (He.Dv.v K)) := by
  obtain ⟨fd, F⟩ := c.d.def_ i e
  exact ⟨_, fd, He.glo_ok X G (c.d.fact j e2), F⟩
end
end DL
end
section
namespace DL
open PySem PySem.Spec L2
open PyProof.Rows hiding St

/-! ### dicts whose keys are tuples -/
section
variable {X : Cx} {pins : List (Addr × Obj)} {σ : L2.St} {H : Hp} {s : Shared}
mutual
theorem Rp.nested {G : Addr → Prop} (I : Inv X pins σ H s) : ∀ (d : D) (v : V) (u : Value) (k : NestedKey), Rp X.K G H d v → nk d = some k → RelV v u → NestedIs s.heap k u
  | .non, v, u, k, h, e, r => by
    simp only [Rp] at h
    simp only [nk, Option.some.injEq] at e
    subst h e
    cases r
    exact .none
  | .bl b, v, u, k, h, e, r => by
    simp only [Rp] at h
    simp only [nk, Option.some.injEq] at e
    subst h e
    cases r
    exact .bool rfl
  | .int i, v, u, k, h, e, r => by
    simp only [Rp] at h
    simp only [nk, Option.some.injEq] at e
    subst h e
    obtain ⟨t, rfl⟩ := r
    exact .int _ _
  | .str x, v, u, k, h, e, r => by
    simp only [Rp] at h
    simp only [nk, Option.some.injEq] at e
    obtain ⟨h, _⟩ := h
    subst h e
    obtain ⟨t, rfl⟩ := r
    exact .text _ _
  | .tup ds, v, u, k, h, e, r => by
    obtain ⟨a, vs, rfl, _, st, rr⟩ := h.un_tup
    simp only [nk, Option.map_eq_some_iff] at e
    obtain ⟨ks, e, rfl⟩ := e
    cases r
    obtain ⟨its, o, n, r1, r2, r3, r4⟩ := sqT_at I.hok I.kIn st
    exact .tup r2 r3 r4 (RpL.nested I ds vs its ks rr e r1)
  | .ty n, v, u, k, h, e, r => by simp [nk] at e
  | .lst n, v, u, k, h, e, r => by simp [nk] at e
  | .dct n, v, u, k, h, e, r => by simp [nk] at e
  | .set n, v, u, k, h, e, r => by simp [nk] at e
  | .exc _ _ _ _, v, u, k, h, e, r => by simp [nk] at e
theorem RpL.nested {G : Addr → Prop} (I : Inv X pins σ H s) : ∀ (ds : List D) (vs : List V) (us : List Value) (ks : List NestedKey), RpL X.K G H ds vs → nks ds = some ks → Vals vs us → NestedAll s.heap ks us
  | [], vs, us, ks, h, e, r => by
    simp only [RpL] at h
    simp only [nks, Option.some.injEq] at e
    subst h e
    cases r
    exact .nil
  | d :: ds, vs, us, ks, h, e, r => by
    obtain ⟨v, vr, rfl, h1, h2⟩ := RpL.uncons h
    simp only [nks] at e
    split at e
    · rename_i k kr e1 e2
      simp only [Option.some.injEq] at e
      subst e
      cases r with
      | cons r1 r2 => exact .cons (Rp.nested I d v _ k h1 e1 r1) (RpL.nested I ds vr _ kr h2 e2 r2)
    · cases e
end
/-- v is the key k -/
def KeyV (K : PySem.W.Frag) (H : Hp) (v : V) (k : NestedKey) : Prop := k.depth ≤ 8 ∧ ∃ d G, Rp K G H d v ∧ nk d = some k
theorem KeyV.at (I : Inv X pins σ H s) {b : Addr} {k : NestedKey} (h : KeyV X.K H (.ref b) k) : (nestedKind X.prog X.w).is s.heap k b := by
  obtain ⟨h1, d, G, h2, h3⟩ := h
  exact ⟨Rp.nested I d _ _ k h2 h3 rfl, h1⟩
abbrev NEs : Type := List (NestedKey × V × V)
/-- the keys that stand in a dict of tuples -/
def NKs (K : PySem.W.Frag) (H : Hp) (es : NEs) : Prop := ∀ e ∈ es, ∃ b, e.2.1 = .ref b ∧ KeyV K H (.ref b) e.1
abbrev NX : NEs → List (NestedKey × Addr × Value) → Prop := Paired fun e x => x.1 = e.1 ∧ e.2.1 = .ref x.2.1 ∧ RelV e.2.2 x.2.2
theorem nx_of {w : World} {P : Program} : ∀ {es : NEs} {ents : List DictEntry}, (∀ e ∈ es, ∃ b, e.2.1 = .ref b) → Paired (fun (e : NestedKey × V × V) (x : DictEntry) => x.hash = e.1.hash w ∧ RelV e.2.1 x.key ∧ RelV e.2.2 x.val) es ents →
    ∃ xs, ents = xs.map (entryOfKey (nestedKind P w)) ∧ NX es xs
  | _, _, _, .nil => ⟨[], rfl, .nil⟩
  | e :: es, x :: ents, h, .cons r t => by
    obtain ⟨xs, e1, e2⟩ := nx_of (fun e he => h e (List.mem_cons_of_mem _ he)) t
    obtain ⟨b, hb⟩ := h e (List.mem_cons_self ..)
    obtain ⟨r1, r2, r3⟩ := r
    obtain ⟨hh, kk, vv⟩ := x
    rw [hb] at r2
    cases r2
    refine ⟨(e.1, b, vv) :: xs, ?_, .cons ⟨rfl, hb, r3⟩ e2⟩
    rw [List.map_cons, ← e1]
    have r1' : hh = e.1.hash w := r1
    subst r1'
    rfl
theorem nx_back {w : World} {P : Program} : ∀ {es : NEs} {xs : List (NestedKey × Addr × Value)}, NX es xs → Paired (fun (e : NestedKey × V × V) (x : DictEntry) => x.hash = e.1.hash w ∧ RelV e.2.1 x.key ∧ RelV e.2.2 x.val) es (xs.map (entryOfKey (nestedKind P w)))
  | _, _, .nil => .nil
  | e :: es, x :: xs, .cons r t => by
    obtain ⟨r1, r2, r3⟩ := r
    refine .cons ⟨?_, ?_, r3⟩ (nx_back t)
    · show NestedKey.hash w x.1 = _
      rw [r1]
    · rw [r2]
      rfl
theorem NX.keys : ∀ {es : NEs} {xs : List (NestedKey × Addr × Value)}, NX es xs → xs.map (·.1) = es.map (·.1)
  | _, _, .nil => rfl
  | _, _, .cons r t => by rw [List.map_cons, List.map_cons, r.1, NX.keys t]
theorem NX.mem : ∀ {es : NEs} {xs : List (NestedKey × Addr × Value)}, NX es xs → ∀ x ∈ xs, ∃ e ∈ es, x.1 = e.1 ∧ e.2.1 = .ref x.2.1
  | _, _, .nil, x, h => by cases h
  | _, _, .cons r t, x, h => by
    rcases List.mem_cons.mp h with rfl | h
    · exact ⟨_, List.mem_cons_self .., r.1, r.2.1⟩
    · obtain ⟨e, h1, h2⟩ := NX.mem t x h
      exact ⟨e, List.mem_cons_of_mem _ h1, h2⟩
/-- the dict in the heap -/
theorem nd_at {a : Addr} {es : NEs} (I : Inv X pins σ H s) (e : H a = some (DctO X.w a es)) (hk : NKs X.K H es) (nd : (es.map (·.1)).Nodup) : (a == sysModules) = false ∧ ∃ xs, NX es xs ∧ s.heap.DictOfH (nestedKind X.prog X.w) a xs := by
  obtain ⟨⟨h0, o, ents, ep, h1, h2, h3, h4⟩, _, _⟩ := I.hok a _ e
  obtain ⟨xs, e1, e2⟩ := nx_of (P := X.prog) (fun e he => let ⟨b, q, _⟩ := hk e he; ⟨b, q⟩) h4
  refine ⟨h0, xs, e2, o, ents, ep, h1, h2, h3, e1, fun x hx => ?_, by rw [NX.keys e2]; exact nd⟩
  obtain ⟨e, he, q1, q2⟩ := NX.mem e2 x hx
  obtain ⟨b, q3, q4⟩ := hk e he
  rw [q2] at q3
  cases q3
  rw [q1]
  exact q4.at I
theorem nd_new {P : Program} {w : World} {h : Heap} {H' : Hp} {a : Addr} {es : NEs} {xs : List (NestedKey × Addr × Value)} (hs : (a == sysModules) = false) (r : NX es xs) (d : h.DictOfH (nestedKind P w) a xs) : ObjOk P w H' h a (DctO w a es) := by
  obtain ⟨o, ents, ep, h1, h2, h3, h4, _, _⟩ := d
  refine ⟨⟨hs, o, ents, ep, h1, h2, h3, ?_⟩, ⟨o, h1⟩, fun h1 h2 p k => ?_⟩
  · rw [h4]
    exact nx_back r
  · obtain ⟨q0, o, ents, ep, q1, q2⟩ := p
    exact ⟨q0, o, ents, ep, k _ q1, q2⟩
/-! what is found, what is stored -/
def atN (es : NEs) (k : NestedKey) : Option V := (es.find? fun e => decide (e.1 = k)).map (·.2.2)
def putN (es : NEs) (k : NestedKey) (y v : V) : NEs := if (atN es k).isSome then es.map (fun e => if e.1 = k then (e.1, e.2.1, v) else e) else es ++ [(k, y, v)]
theorem NX.at {k : NestedKey} : ∀ {es : NEs} {xs : List (NestedKey × Addr × Value)}, NX es xs → (∀ v, atN es k = some v → ∃ p, atKey xs k = some p ∧ RelV v p.2) ∧ (atN es k = none → atKey xs k = none)
  | _, _, .nil => ⟨fun v h => (by cases h), fun _ => rfl⟩
  | e :: es, x :: xs, .cons r t => by
    have ih := NX.at (k := k) t
    by_cases h : e.1 = k
    · have hx : x.1 = k := r.1.trans h
      refine ⟨fun v hv => ⟨x.2, by simp [atKey, hx], ?_⟩, fun hn => ?_⟩
      · simp [atN, h] at hv
        subst hv
        exact r.2.2
      · simp [atN, h] at hn
    · have hx : ¬ x.1 = k := fun z => h (r.1.symm.trans z)
      refine ⟨fun v hv => ?_, fun hn => ?_⟩
      · have hv' : atN es k = some v := by simpa [atN, h] using hv
        obtain ⟨p, h1, h2⟩ := ih.1 v hv'
        exact ⟨p, by simpa [atKey, hx] using h1, h2⟩
      · have hn' : atN es k = none := by simpa [atN, h] using hn
        simpa [atKey, hx] using ih.2 hn'
theorem NX.put {k : NestedKey} {b : Addr} {v : V} {u : Value} {es : NEs} {xs : List (NestedKey × Addr × Value)} (r : NX es xs) (rv : RelV v u) : NX (putN es k (.ref b) v) (storedH xs k b u) := by
  have ha := NX.at (k := k) r
  cases e : atN es k with
  | none =>
    rw [show putN es k (.ref b) v = es ++ [(k, .ref b, v)] by unfold putN; rw [e]; rfl, storedH_new (ha.2 e)]
    have app : ∀ {es : NEs} {xs : List (NestedKey × Addr × Value)}, NX es xs → NX (es ++ [(k, .ref b, v)]) (xs ++ [(k, b, u)]) := fun {es xs} r => by
      induction r with
      | nil => exact .cons ⟨rfl, rfl, rv⟩ .nil
      | cons r t ih => exact .cons r ih
    exact app r
  | some v0 =>
    obtain ⟨p, h1, _⟩ := ha.1 v0 e
    rw [show putN es k (.ref b) v = es.map (fun e => if e.1 = k then (e.1, e.2.1, v) else e) by unfold putN; rw [e]; rfl, storedH_old h1]
    have mp : ∀ {es : NEs} {xs : List (NestedKey × Addr × Value)}, NX es xs → NX (es.map (fun e => if e.1 = k then (e.1, e.2.1, v) else e)) (xs.map (putAt k u)) := fun {es xs} r => by
      induction r with
      | nil => exact .nil
      | cons r t ih =>
        rename_i e x _ _
        refine .cons ?_ ih
        by_cases h : e.1 = k
        · have hx : x.1 = k := r.1.trans h
          simp only [h, if_true, putAt, hx]
          exact ⟨by first | rfl | trivial, r.2.1, rv⟩
        · have hx : ¬ x.1 = k := fun z => h (r.1.symm.trans z)
          simp only [h, if_false, putAt, hx]
          exact r
    exact mp r
theorem putN_len (es : NEs) (k : NestedKey) (y v : V) : (putN es k y v).length ≤ es.length + 1 := by
  unfold putN
  split <;> simp
/-! the operations -/
structure NAt (w : World) (K : PySem.W.Frag) (H : Hp) (a : Addr) (es : NEs) : Prop where
  o : H a = some (DctO w a es)
  k : NKs K H es
  n : (es.map (·.1)).Nodup
  z : es.length ≤ sizeLine
/-- a dict of tuples, or an empty one -/
def NOr (X : Cx) (H : Hp) (a : Addr) (es : NEs) : Prop := NAt X.w X.K H a es ∨ (es = [] ∧ H a = some (.dK []))
theorem n_room {A : Around} (hu : A.units + 64 < cLine) : (nestedKind X.prog X.w).room A.in1 := by
  show A.units + 1 + 8 < cLine
  omega
theorem nor_at {a : Addr} {es : NEs} (I : Inv X pins σ H s) (h : NOr X H a es) : (a == sysModules) = false ∧ es.length ≤ sizeLine ∧ Mut (H a) ∧ (∃ o, H a = some o ∧ Trk o) ∧ ∃ xs, NX es xs ∧ s.heap.DictOfH (nestedKind X.prog X.w) a xs := by
  rcases h with h | ⟨rfl, h⟩
  · obtain ⟨h1, h2⟩ := nd_at I h.o h.k h.n
    exact ⟨h1, h.z, by rw [h.o]; exact True.intro, ⟨_, h.o, trk_dct⟩, h2⟩
  · obtain ⟨z, hd, vs, rel, dd⟩ := dk_of I.hok h
    have e : vs = [] := by
      have := rel.length
      cases vs with
      | nil => rfl
      | cons v vs => simp at this
    subst e
    obtain ⟨o, es, ep, h1, h2, h3, h4⟩ := dd
    refine ⟨hd, Nat.zero_le _, by rw [h]; exact True.intro, ⟨_, h, trk_dK⟩, [], .nil, o, es, ep, h1, h2, h3, ?_, fun x hx => (by cases hx), List.nodup_nil⟩
    have hp := h4.2.1
    cases he : es.toList with
    | nil => rfl
    | cons x xs => rw [he] at hp; cases hp
/-- d[k] = v -/
theorem n_set {A : Around} {E : Value → Shared → Prop} {Q : Unit → Shared → Prop} {a b : Addr} {es : NEs} {k : NestedKey} {v : V} {r : Value} (hu : A.units + 64 < cLine) (I : Inv X pins σ H s) (g : NOr X H a es) (hk : KeyV X.K H (.ref b) k) (hl : es.length < sizeLine) (rv : RelV v r)
    (h : ∀ s', Inv X pins σ (upd H a (DctO X.w a (putN es k (.ref b) v))) s' → Q () s') : wpAny (model X.prog X.w) A (setItem (.ref a) (.ref b) r) Q E s := by
  obtain ⟨hs, hz, mu, ⟨o0, e0, t0⟩, xs, rel, dd⟩ := nor_at I g
  have hz' : xs.length ≤ sizeLine := by rw [← Paired.length rel]; omega
  refine wpAny_setItem_heap (hsz := hz') (n_room (X := X) hu) (hk.at I) dd fun h' dd' hs' => h _ ?_
  have := dd'
  obtain ⟨q, _, _, hq, _⟩ := this
  exact d_write I mu hs' ⟨q, hq⟩ (nd_new hs (rel.put rv) dd')
/-- d[k] -/
theorem n_get {A : Around} {E : Value → Shared → Prop} {Q : Value → Shared → Prop} {a b : Addr} {es : NEs} {k : NestedKey} {v : V} (hu : A.units + 64 < cLine) (I : Inv X pins σ H s) (g : NOr X H a es) (hk : KeyV X.K H (.ref b) k) (hv : atN es k = some v)
    (h : ∀ u s', Inv X pins σ H s' → RelV v u → Q u s') : wpAny (model X.prog X.w) A (getItem (.ref a) (.ref b)) Q E s := by
  obtain ⟨hs, hz, mu, _, xs, rel, dd⟩ := nor_at I g
  obtain ⟨p, h1, h2⟩ := (rel.at (k := k)).1 v hv
  exact wpAny_getItem_heap (n_room (X := X) hu) (hk.at I) dd h1 (h _ _ (I.tok _) h2)
theorem n_has {a : Addr} {es : NEs} {k : NestedKey} {xs : List (NestedKey × Addr × Value)} (rel : NX es xs) : (valueAt (pairsH xs) k).isSome = (atN es k).isSome := by
  rw [valueAt_pairsH, Option.isSome_map]
  cases e : atN es k with
  | none => rw [(rel.at (k := k)).2 e]; rfl
  | some v =>
    obtain ⟨p, h1, h2⟩ := (rel.at (k := k)).1 v e
    rw [h1]; rfl
end
end DL
end
section
namespace DL
open PySem PySem.Spec L2
open PyProof.Rows hiding St

section
variable {X : Cx} {H : Hp} {a : Addr}
/-- what stands at the key y -/
def DAt (X : Cx) (H : Hp) (a : Addr) (y : V) (r : Option V) : Prop :=
  (∃ kvs k, H a = some (.dK kvs) ∧ y = kV k ∧ r = valV kvs k) ∨ ∃ es k b, NOr X H a es ∧ y = .ref b ∧ KeyV X.K H (.ref b) k ∧ r = atN es k
def rIxDct (X : Cx) : R2 := fun x y H Q => ∃ a v, x = .ref a ∧ DAt X H a y (some v) ∧ Q v H
def rInDct (X : Cx) (neg : Bool) : R2 := fun y x H Q => ∃ a o, x = .ref a ∧ DAt X H a y o ∧ Q (.bl (if neg then !o.isSome else o.isSome)) H
def rSetDct (X : Cx) : V → V → V → Hp → (Hp → Prop) → Prop := fun o i v H Q => ∃ a, o = .ref a ∧
  ((∃ kvs k, H a = some (.dK kvs) ∧ i = kV k ∧ kvs.length < sizeLine ∧ Q (upd H a (.dK (putK kvs k v)))) ∨ ∃ es k b, NOr X H a es ∧ i = .ref b ∧ KeyV X.K H (.ref b) k ∧ es.length < sizeLine ∧ Q (upd H a (DctO X.w a (putN es k (.ref b) v))))
theorem dat_type {pins : List (Addr × Obj)} {σ : L2.St} {s : Shared} {y : V} {o : Option V} (I : Inv X pins σ H s) (g : DAt X H a y o) : s.TypeIs (.ref a) "dict" ∧ ∃ ob : Obj, s.heap.get? a = some ob ∧ ob.dict = none := by
  rcases g with ⟨kvs, k, e, _, _⟩ | ⟨es, k, b, h, _, _, _⟩
  · obtain ⟨z, hd, vs, rel, dd⟩ := dk_of I.hok e
    exact ⟨dd.typeIs, let ⟨o, _, _, h1, h2, _⟩ := dd; ⟨o, h1, h2.2.1⟩⟩
  · obtain ⟨_, _, _, _, xs, _, dd⟩ := nor_at I h
    exact ⟨dd.typeIs, let ⟨o, _, _, h1, h2, _⟩ := dd; ⟨o, h1, h2.2.1⟩⟩
theorem dat_get {pins : List (Addr × Obj)} {σ : L2.St} {s : Shared} {y : V} {v : V} {u : Value} {A : Around} {E : Value → Shared → Prop} {Q : Value → Shared → Prop} (hu : A.units + 64 < cLine) (I : Inv X pins σ H s) (g : DAt X H a y (some v)) (ry : RelV y u)
    (h : ∀ w' s', Inv X pins σ H s' → RelV v w' → Q w' s') : wpAny (model X.prog X.w) A (getItem (.ref a) u) Q E s := by
  rcases g with ⟨kvs, k, e, rfl, l⟩ | ⟨es, k, b, hh, rfl, hk, l⟩
  · exact d_getItem (by omega) I (.inl ⟨kvs, k, .inl e, rfl, l⟩) ry h
  · cases ry
    exact n_get hu I hh hk l.symm h
theorem dat_in {pins : List (Addr × Obj)} {σ : L2.St} {s : Shared} {y : V} {o : Option V} {u : Value} {A : Around} {E : Value → Shared → Prop} {Q : Value → Shared → Prop} (hu : A.units + 64 < cLine) (I : Inv X pins σ H s) (g : DAt X H a y o) (ry : RelV y u)
    (h : ∀ s', Inv X pins σ H s' → Q (.bool o.isSome) s') : wpAny (model X.prog X.w) A (compareOp .In u (.ref a)) Q E s := by
  rcases g with ⟨kvs, k, e, rfl, l⟩ | ⟨es, k, b, hh, rfl, hk, l⟩
  · exact d_in (by omega) I (.inl ⟨kvs, k, .inl e, rfl, l⟩) ry h
  · cases ry
    obtain ⟨hs, hz, mu, _, xs, rel, dd⟩ := nor_at I hh
    refine in_keyed (knd := nestedKind X.prog X.w) (n_room (X := X) hu) (hk.at I) hs ⟨xs, dd, rfl⟩ ?_
    rw [n_has (a := a) rel, ← l]
    exact h _ (I.tok _)
theorem dat_notIn {pins : List (Addr × Obj)} {σ : L2.St} {s : Shared} {y : V} {o : Option V} {u : Value} {A : Around} {E : Value → Shared → Prop} {Q : Value → Shared → Prop} (hu : A.units + 64 < cLine) (I : Inv X pins σ H s) (g : DAt X H a y o) (ry : RelV y u)
    (h : ∀ s', Inv X pins σ H s' → Q (.bool (!o.isSome)) s') : wpAny (model X.prog X.w) A (compareOp .NotIn u (.ref a)) Q E s := by
  rcases g with ⟨kvs, k, e, rfl, l⟩ | ⟨es, k, b, hh, rfl, hk, l⟩
  · exact d_notIn (by omega) I (.inl ⟨kvs, k, .inl e, rfl, l⟩) ry h
  · cases ry
    obtain ⟨hs, hz, mu, _, xs, rel, dd⟩ := nor_at I hh
    refine notIn_keyed (knd := nestedKind X.prog X.w) (n_room (X := X) hu) (hk.at I) hs ⟨xs, dd, rfl⟩ ?_
    rw [n_has (a := a) rel, ← l]
    exact h _ (I.tok _)
theorem or_inDct (hu : X.A.units + 65 < cLine) : OpR X (compareOp .In) (rInDct X false) := by
  intro pins s σ H x y v u Q I rx ry h
  obtain ⟨a, o, rfl, g, q⟩ := h
  cases ry
  exact dat_in (by omega) I g rx fun s' I' => ⟨.bl o.isSome, H, I', rfl, q⟩
theorem or_notInDct (hu : X.A.units + 65 < cLine) : OpR X (compareOp .NotIn) (rInDct X true) := by
  intro pins s σ H x y v u Q I rx ry h
  obtain ⟨a, o, rfl, g, q⟩ := h
  cases ry
  exact dat_notIn (by omega) I g rx fun s' I' => ⟨.bl (!o.isSome), H, I', rfl, q⟩
theorem set_dct (hu : X.A.units + 64 < cLine) : PSet X (rSetDct X) := by
  intro pins s σ H o i v ov iv u Q I ro ri rv h
  obtain ⟨a, rfl, ⟨kvs, k, e, rfl, z, q⟩ | ⟨es, k, b, hh, rfl, hk, z, q⟩⟩ := h
  · cases ro
    exact d_setItem (by omega) I (.inl ⟨kvs, k, e, rfl, z, rfl⟩) ri rv fun s' I' => ⟨_, I', q⟩
  · cases ro
    cases ri
    exact n_set hu I hh hk z rv fun s' I' => ⟨_, I', q⟩
theorem PSet.or {t t' : TSet} (h : PSet X t) (h' : PSet X t') : PSet X (fun o i v H Q => t o i v H Q ∨ t' o i v H Q) := by
  intro pins s σ H o i v ov iv u Q I ro ri rv q
  rcases q with q | q
  · exact h pins s σ H o i v ov iv u Q I ro ri rv q
  · exact h' pins s σ H o i v ov iv u Q I ro ri rv q
theorem ix_dct (hu : X.A.units + 64 < cLine) : IxR X (rIxDct X) := by
  intro value slice pins s σ H x y v u Q I rx ry h hs
  obtain ⟨a, vv, rfl, g, q⟩ := h
  cases rx
  obtain ⟨ht, _⟩ := dat_type I g
  unfold subscriptTail
  refine wpAny_bind ?_
  rw [getitemInPython_of_ne ht.not_modules]
  have go : wpAny (model X.prog X.w) X.A (subscripted slice false (.ref a) u) (fun r z => wpAny (model X.prog X.w) X.A (letTemporaryGo value (.ref a) r >>= fun _ => pure r) (EP X pins σ Q) X.xe z) X.xe s := by
    rw [hs]
    refine wpAny_operating (dat_get hu I g ry fun r s' I' rr => wpAny_bind (wpAny_letTemporaryGo (wpAny_pure ⟨vv, H, I', rr, q⟩)))
  refine wpAny_bind (wpAny_specialOf ht PySem.F.slot_dict_getitem.lookup ?_)
  first
    | exact wpAny_pure (wpAny_bind go)
    | exact wpAny_bind (wpAny_pure (wpAny_bind go))
    | exact wpAny_bind go
/-! len, list, truth -/
/-- the keys of a dict, in their order -/
def DKs (X : Cx) (H : Hp) (a : Addr) (ys : List V) : Prop := (∃ kvs, H a = some (.dK kvs) ∧ ys = kvs.map fun kv => kV kv.1) ∨ ∃ es, H a = some (DctO X.w a es) ∧ es.length ≤ sizeLine ∧ ys = es.map (·.2.1)
theorem raw_at {pins : List (Addr × Obj)} {σ : L2.St} {s : Shared} {es : NEs} (I : Inv X pins σ H s) (e : H a = some (DctO X.w a es)) : (a == sysModules) = false ∧ ∃ (ents : Array DictEntry) (ep : Nat), s.heap.DictRaw a ents ep ∧ ents.size = es.length ∧ Vals (es.map (·.2.1)) (ents.toList.map (·.key)) := by
  obtain ⟨⟨h0, o, ents, ep, h1, h2, h3, h4⟩, _, _⟩ := I.hok a _ e
  refine ⟨h0, ents, ep, ⟨o, h1, h2, h3⟩, ?_, ?_⟩
  · have := Paired.length h4
    rw [this]
    simp
  · have mp : ∀ {es : NEs} {l : List DictEntry}, Paired (fun (e : NestedKey × V × V) (x : DictEntry) => x.hash = e.1.hash X.w ∧ RelV e.2.1 x.key ∧ RelV e.2.2 x.val) es l → Vals (es.map (·.2.1)) (l.map (·.key)) := fun {es l} r => by
      induction r with
      | nil => exact .nil
      | cons r t ih => exact .cons r.2.1 ih
    exact mp h4
def rLenDct (X : Cx) : List V → Hp → VK → Prop := fun xs H Q => ∃ a ys, xs = [.ref a] ∧ DKs X H a ys ∧ Q (.int ys.length) H
theorem call_lenDct : CallR X (.builtin "len") (rLenDct X) := by
  intro pins s σ H xs us Q I r h
  obtain ⟨a, ys, rfl, hk, q⟩ := h
  obtain ⟨u, rfl, ru⟩ := vals1 r
  cases ru
  rcases hk with ⟨kvs, e, rfl⟩ | ⟨es, e, z, rfl⟩
  · refine d_len I (.inl e) fun t s' I' => ⟨.int kvs.length, H, I', ⟨t, rfl⟩, ?_⟩
    rw [List.length_map] at q
    exact q
  · obtain ⟨h0, ents, ep, hr, hz, hv⟩ := raw_at I e
    refine PyProof.Rows.call_len_slot (n := ents.size) hr.typeIs PySem.F.slot_dict_len (fun Q' hq => call_len_raw h0 hr hq) (by omega) (by rw [sizeLine_eq] at z; omega) ?_
    refine ⟨.int es.length, H, I.tok _, ⟨_, by rw [hz]⟩, ?_⟩
    rw [List.length_map] at q
    exact q
def rListDct (X : Cx) : List V → Hp → VK → Prop := fun xs H Q => ∃ a ys, xs = [.ref a] ∧ DKs X H a ys ∧ ∀ p, H p = none → Q (.ref p) (upd H p (.lst ys))
theorem call_listDct (hc : X.calm = true) : CallR X (.type "list") (rListDct X) := by
  intro pins s σ H xs us Q I r h
  obtain ⟨a, ys, rfl, hk, q⟩ := h
  rcases hk with ⟨kvs, e, rfl⟩ | ⟨es, e, z, rfl⟩
  · exact call_listD hc pins s σ H _ us Q I r ⟨a, kvs, rfl, .inl e, q⟩
  · obtain ⟨u, rfl, ru⟩ := vals1 r
    cases ru
    obtain ⟨h0, ents, ep, hr, hz, hv⟩ := raw_at I e
    refine PySem.W.kdl_call (KdlSrc.rawDict h0) (I.ok.hd hc) hr (by omega) fun h' tk acc c' hk hD hacc => ?_
    have hacc' : acc.toList = ents.toList.map (·.key) := by
      apply List.ext_getElem?
      intro i
      by_cases hi : i < ents.size
      · have hi2 : i < acc.size := by rw [hacc.1]; exact hi
        have e1 : acc[i]? = some acc[i] := Array.getElem?_eq_getElem hi2
        obtain ⟨hi3, e2⟩ := hacc.2 i acc[i] e1
        rw [Array.getElem?_toList, e1, e2, List.getElem?_map, Array.getElem?_toList, Array.getElem?_eq_getElem hi3]
        rfl
      · rw [Array.getElem?_toList, Array.getElem?_eq_none (by rw [hacc.1]; omega), List.getElem?_map, Array.getElem?_toList, Array.getElem?_eq_none (by omega)]
        rfl
    refine ⟨.ref s.heap.objs.size, upd H s.heap.objs.size (.lst (es.map (·.2.1))), I.laid (t' := tk) hk (Nat.le_refl _) ⟨by rw [List.length_map]; omega, acc.toList, c', by rw [hacc']; exact hv, ?_⟩, rfl, q _ (I.hok.fresh (Nat.le_refl _))⟩
    rw [Array.toArray_toList]
    exact hD
end
end DL
end
section
namespace DL
open PySem PySem.Spec L2
open PyProof.Rows hiding St

/-! ### dicts by their data -/
def dkey (d : D) : Option NestedKey := match nk d with
  | some k => if k.depth ≤ 8 then some k else none
  | none => none
def scKey : D → Option Key
  | .int i => some (.inl i)
  | .str x => some (.inr x)
  | _ => none
def keyEq (a b : D) : Bool := match nk a, nk b with
  | some x, some y => decide (x = y)
  | _, _ => false
def dget (kvs : List (D × D)) (k : D) : Option D := (kvs.find? fun kv => keyEq kv.1 k).map (·.2)
def dput (kvs : List (D × D)) (k v : D) : List (D × D) := if (dget kvs k).isSome then kvs.map (fun kv => if keyEq kv.1 k then (kv.1, v) else kv) else kvs ++ [(k, v)]
/-- a key that fits the dict -/
def okKey (kvs : List (D × D)) (k : D) : Bool := (if k.isTup then (dkey k).isSome else (scKey k).isSome) && (match kvs with
  | [] => true
  | kv :: _ => kv.1.isTup == k.isTup)
section
variable {X : Cx} {K : PySem.W.Frag} {G : Addr → Prop} {H : Hp} {w : World}
theorem dkey_some {d : D} {k : NestedKey} (h : dkey d = some k) : nk d = some k ∧ k.depth ≤ 8 := by
  unfold dkey at h
  split at h
  · rename_i k' e
    split at h
    · rename_i hd
      cases h
      exact ⟨e, hd⟩
    · cases h
  · cases h
theorem rp_key {d : D} {k : Key} (h : Rp K G H d (kV k)) : scKey d = some k := by
  cases k with
  | inl i => cases d <;> simp [Rp, kV] at h <;> first | exact (by subst h; rfl) | skip
  | inr x => cases d <;> simp [Rp, kV] at h <;> first | exact (by obtain ⟨h, _⟩ := h; subst h; rfl) | skip
theorem sc_nk {d : D} {k : Key} (h : scKey d = some k) : nk d = some (match k with | .inl i => .num i | .inr x => .text x) := by
  unfold scKey at h
  split at h <;> first | (cases h; rfl) | cases h
theorem sc_tup {d : D} {k : Key} (h : scKey d = some k) : d.isTup = false := by
  unfold scKey at h
  split at h <;> first | rfl | cases h
theorem sc_eq {a b : D} {k l : Key} (h : scKey a = some k) (h' : scKey b = some l) : keyEq a b = decide (k = l) := by
  unfold keyEq
  rw [sc_nk h, sc_nk h']
  cases k <;> cases l <;> simp
theorem Rp.tup_ref {d : D} {v : V} (h : Rp K G H d v) (ht : d.isTup = true) : ∃ b, v = .ref b := by
  cases d <;> first | cases ht | skip
  obtain ⟨a, vs, e, _⟩ := h.un_tup
  exact ⟨a, e⟩
theorem kvK_at {k : D} {kk : Key} (hk : scKey k = some kk) : ∀ {kvs : List (D × D)} {es : List (Key × V)}, KvK K G H kvs es → (∀ d, dget kvs k = some d → ∃ v, valV es kk = some v ∧ Rp K G H d v) ∧ (dget kvs k = none → valV es kk = none)
  | _, _, .nil => ⟨fun d h => (by cases h), fun _ => rfl⟩
  | kv :: kvs, e :: es, .cons r t => by
    have ih := kvK_at hk t
    have e1 := sc_eq (rp_key r.1) hk
    by_cases h : e.1 = kk
    · have e2 : keyEq kv.1 k = true := by rw [e1]; exact decide_eq_true h
      refine ⟨fun d hd => ⟨e.2, valV_pos h, ?_⟩, fun hn => ?_⟩
      · simp [dget, List.find?_cons, e2] at hd
        subst hd
        exact r.2
      · simp [dget, List.find?_cons, e2] at hn
    · have e2 : keyEq kv.1 k = false := by rw [e1]; exact decide_eq_false h
      have e3 : dget (kv :: kvs) k = dget kvs k := by simp [dget, List.find?_cons, e2]
      rw [e3, valV_neg h]
      exact ih
theorem kvR_at {k : D} {kk : NestedKey} (hk : nk k = some kk) : ∀ {kvs : List (D × D)} {es : NEs}, KvR K G H kvs es → (∀ d, dget kvs k = some d → ∃ v, atN es kk = some v ∧ Rp K G H d v) ∧ (dget kvs k = none → atN es kk = none)
  | _, _, .nil => ⟨fun d h => (by cases h), fun _ => rfl⟩
  | kv :: kvs, e :: es, .cons r t => by
    have ih := kvR_at hk t
    have e1 : keyEq kv.1 k = decide (e.1 = kk) := by unfold keyEq; rw [r.1, hk]
    by_cases h : e.1 = kk
    · have e2 : keyEq kv.1 k = true := by rw [e1]; exact decide_eq_true h
      refine ⟨fun d hd => ⟨e.2.2, by simp [atN, h], ?_⟩, fun hn => ?_⟩
      · simp [dget, List.find?_cons, e2] at hd
        subst hd
        exact r.2.2.2
      · simp [dget, List.find?_cons, e2] at hn
    · have e2 : keyEq kv.1 k = false := by rw [e1]; exact decide_eq_false h
      have e3 : dget (kv :: kvs) k = dget kvs k := by simp [dget, List.find?_cons, e2]
      have e4 : atN (e :: es) kk = atN es kk := by simp [atN, List.find?_cons, h]
      rw [e3, e4]
      exact ih
theorem kvK_nt : ∀ {kvs : List (D × D)} {es : List (Key × V)}, KvK K G H kvs es → ∀ kv ∈ kvs, kv.1.isTup = false
  | _, _, .nil, kv, h => by cases h
  | kv :: kvs, e :: es, .cons r t, kv', h => by
    rcases List.mem_cons.mp h with rfl | h
    · exact sc_tup (rp_key r.1)
    · exact kvK_nt t kv' h
theorem kvR_ks {kvs : List (D × D)} {es : NEs} (r : KvR K G H kvs es) (ht : ∀ kv ∈ kvs, kv.1.isTup = true) : NKs K H es := by
  induction r with
  | nil => exact fun e h => by cases h
  | cons r t ih =>
    intro e he
    rcases List.mem_cons.mp he with rfl | he
    · obtain ⟨r1, r2, r3, r4⟩ := r
      obtain ⟨b, hb⟩ := Rp.tup_ref r3 (ht _ (List.mem_cons_self ..))
      rw [hb] at r3
      exact ⟨b, hb, r2, _, _, r3, r1⟩
    · exact ih (fun kv h => ht kv (List.mem_cons_of_mem _ h)) e he
/-- how a dict stands to a key that fits -/
theorem dct_key {kvs : List (D × D)} {a : Addr} {k : D} {y : V} (h : Ow X.w X.K G H (.dct kvs) a) (ry : Rp X.K G H k y) (hk : okKey kvs k = true) :
    (∃ es kk, H a = some (.dK es) ∧ KvK X.K G H kvs es ∧ y = kV kk ∧ scKey k = some kk) ∨ ∃ es kk b, NOr X H a es ∧ KvR X.K G H kvs es ∧ (∀ kv ∈ kvs, kv.1.isTup = true) ∧ (es.map (·.1)).Nodup ∧ y = .ref b ∧ KeyV X.K H (.ref b) kk ∧ dkey k = some kk ∧ k.isTup = true := by
  obtain ⟨o, e, z, ho⟩ := h
  unfold okKey at hk
  rw [Bool.and_eq_true] at hk
  obtain ⟨hk1, hk2⟩ := hk
  cases ht : k.isTup with
  | false =>
    rw [ht] at hk1 hk2
    simp only [Bool.false_eq_true, if_false] at hk1
    obtain ⟨kk, ek⟩ := Option.isSome_iff_exists.mp hk1
    have ey : y = kV kk := by
      unfold scKey at ek
      split at ek
      · simp only [Rp] at ry; cases ek; exact ry
      · simp only [Rp] at ry; cases ek; exact ry.1
      · cases ek
    rcases ho with ⟨es, rfl, r⟩ | ⟨hn, hm, es, rfl, r, nd⟩
    · exact .inl ⟨es, kk, e, r, ey, ek⟩
    · cases kvs with
      | nil => exact absurd rfl hn
      | cons kv kvs =>
        simp only [beq_iff_eq] at hk2
        rw [hm kv (List.mem_cons_self ..)] at hk2
        cases hk2
  | true =>
    rw [ht] at hk1 hk2
    simp only [if_true] at hk1
    obtain ⟨kk, ek⟩ := Option.isSome_iff_exists.mp hk1
    obtain ⟨b, rfl⟩ := ry.tup_ref ht
    obtain ⟨k1, k2⟩ := dkey_some ek
    have kv : KeyV X.K H (.ref b) kk := ⟨k2, k, G, ry, k1⟩
    rcases ho with ⟨es, rfl, r⟩ | ⟨hn, hm, es, rfl, r, nd⟩
    · cases kvs with
      | nil =>
        cases r
        exact .inr ⟨[], kk, b, .inr ⟨rfl, e⟩, .nil, fun kv h => (by cases h), List.nodup_nil, rfl, kv, ek, rfl⟩
      | cons kv kvs =>
        simp only [beq_iff_eq] at hk2
        rw [kvK_nt r kv (List.mem_cons_self ..)] at hk2
        cases hk2
    · refine .inr ⟨es, kk, b, .inl ⟨e, kvR_ks r hm, nd, ?_⟩, r, hm, nd, rfl, kv, ek, rfl⟩
      rw [← Paired.length r]
      exact z
theorem dct_at {kvs : List (D × D)} {a : Addr} {k : D} {y : V} (h : Ow X.w X.K G H (.dct kvs) a) (ry : Rp X.K G H k y) (hk : okKey kvs k = true) :
    ∃ r, DAt X H a y r ∧ (∀ d, dget kvs k = some d → ∃ v, r = some v ∧ Rp X.K G H d v) ∧ (dget kvs k = none → r = none) := by
  rcases dct_key h ry hk with ⟨es, kk, e, r, ey, ek⟩ | ⟨es, kk, b, hn, r, hm, nd, rfl, kv, ek, _⟩
  · have := kvK_at ek r
    exact ⟨valV es kk, .inl ⟨es, kk, e, ey, rfl⟩, this.1, this.2⟩
  · have := kvR_at (dkey_some ek).1 r
    exact ⟨atN es kk, .inr ⟨es, kk, b, hn, rfl, kv, rfl⟩, this.1, this.2⟩
theorem Rs.dct {kvs : List (D × D)} {v : V} (h : Rs w K G H (.dct kvs) v) : ∃ a, v = .ref a ∧ Ow w K G H (.dct kvs) a := h
theorem Rs.keyRp {kvs : List (D × D)} {k : D} {v : V} (h : Rs w K G H k v) (hk : okKey kvs k = true) : Rp K G H k v := by
  cases k with
  | lst xs => simp [okKey, D.isTup, scKey] at hk
  | dct xs => simp [okKey, D.isTup, scKey] at hk
  | set xs => simp [okKey, D.isTup, scKey] at hk
  | _ => exact h
/-! the operations, with what stood before -/
def ix2D : List D → Option D
  | [.dct kvs, k] => if okKey kvs k then dget kvs k else none
  | ds => ixD ds
theorem ix2_ok : AppD X.w X.K ix2D (r2 (fun x y H Q => rIx X.K x y H Q ∨ rIxDct X x y H Q)) := by
  intro G ds vs d H Q hG hg hr q
  unfold ix2D at hg
  split at hg
  · rename_i kvs k
    split at hg
    · rename_i hk
      obtain ⟨x, y, rfl, h1, h2⟩ := rsl2 hr
      obtain ⟨a, rfl, ho⟩ := h1.dct
      obtain ⟨r, g1, g2, _⟩ := dct_at ho (h2.keyRp hk) hk
      obtain ⟨v, rfl, g3⟩ := g2 d hg
      exact .inr ⟨a, v, rfl, g1, q v H (Same.refl H) g3⟩
    · cases hg
  · have := ix_ok (w := X.w) (K := X.K) G ds vs d H Q hG hg hr q
    match vs, this with
    | [x, y], this => exact .inl this
def in2D : List D → Option D
  | [k, .dct kvs] => if okKey kvs k then some (.bl (dget kvs k).isSome) else none
  | ds => inD ds
def notIn2D (l : List D) : Option D := notD1 (in2D l)
theorem dct_in {kvs : List (D × D)} {k : D} {x y : V} {Q : VK} {n : Bool} (hk : okKey kvs k = true) (h1 : Rs X.w X.K G H k x) (h2 : Rs X.w X.K G H (.dct kvs) y) (q : Q (.bl (if n then !(dget kvs k).isSome else (dget kvs k).isSome)) H) : rInDct X n x y H Q := by
  obtain ⟨a, rfl, ho⟩ := h2.dct
  obtain ⟨r, g1, g2, g3⟩ := dct_at ho (h1.keyRp hk) hk
  have e : r.isSome = (dget kvs k).isSome := by
    cases e : dget kvs k with
    | none => rw [g3 e]; rfl
    | some d =>
      obtain ⟨v, rfl, _⟩ := g2 d e
      rfl
  exact ⟨a, r, rfl, g1, by rw [e]; exact q⟩
theorem in2_ok : AppD X.w X.K in2D (r2 (fun x y H Q => rInX X.K false x y H Q ∨ rInDct X false x y H Q)) := by
  intro G ds vs d H Q hG hg hr q
  unfold in2D at hg
  split at hg
  · rename_i k kvs
    split at hg
    · rename_i hk
      obtain ⟨x, y, rfl, h1, h2⟩ := rsl2 hr
      cases hg
      exact .inr (dct_in (n := false) hk h1 h2 (q _ H (Same.refl H) rp_bl))
    · cases hg
  · have := in_ok (w := X.w) (K := X.K) G ds vs d H Q hG hg hr q
    match vs, this with
    | [x, y], this => exact .inl this
theorem notIn2_ok : AppD X.w X.K notIn2D (r2 (fun x y H Q => rInX X.K true x y H Q ∨ rInDct X true x y H Q)) := by
  intro G ds vs d H Q hG hg hr q
  unfold notIn2D in2D at hg
  split at hg
  · rename_i k kvs
    split at hg
    · rename_i hk
      obtain ⟨x, y, rfl, h1, h2⟩ := rsl2 hr
      cases hg
      exact .inr (dct_in (n := true) hk h1 h2 (q _ H (Same.refl H) rp_bl))
    · cases hg
  · have := notIn_ok (w := X.w) (K := X.K) G ds vs d H Q hG hg hr q
    match vs, this with
    | [x, y], this => exact .inl this
theorem op_in2 (hu : X.A.units + 65 < cLine) : OpR X (compareOp .In) (fun x y H Q => rInX X.K false x y H Q ∨ rInDct X false x y H Q) := OpR.or (op_inX hu) (or_inDct hu)
theorem op_notIn2 (hu : X.A.units + 65 < cLine) : OpR X (compareOp .NotIn) (fun x y H Q => rInX X.K true x y H Q ∨ rInDct X true x y H Q) := OpR.or (op_notInX hu) (or_notInDct hu)
theorem ix_two (hu : X.A.units + 64 < cLine) : IxR X (fun x y H Q => rIx X.K x y H Q ∨ rIxDct X x y H Q) := IxR.or ix_seq (ix_dct hu)
/-! len, list -/
theorem dct_keys {kvs : List (D × D)} {a : Addr} (h : Ow X.w X.K G H (.dct kvs) a) : ∃ ys, DKs X H a ys ∧ RpL X.K G H (kvs.map (·.1)) ys ∧ kvs.length ≤ sizeLine := by
  obtain ⟨o, e, z, ho⟩ := h
  rcases ho with ⟨es, rfl, r⟩ | ⟨hn, hm, es, rfl, r, nd⟩
  · refine ⟨_, .inl ⟨es, e, rfl⟩, ?_, z⟩
    clear e z
    induction r with
    | nil => exact RpL.nil
    | cons r t ih => exact RpL.cons r.1 ih
  · refine ⟨_, .inr ⟨es, e, by rw [← Paired.length r]; exact z, rfl⟩, ?_, z⟩
    clear e z hn hm nd
    induction r with
    | nil => exact RpL.nil
    | cons r t ih => exact RpL.cons r.2.2.1 ih
def len2D : List D → Option D
  | [.dct kvs] => some (.int kvs.length)
  | ds => lenD ds
theorem len2_ok : AppD X.w X.K len2D (fun xs H Q => rLen X.K xs H Q ∨ rLenDct X xs H Q) := by
  intro G ds vs d H Q hG hg hr q
  unfold len2D at hg
  split at hg
  · rename_i kvs
    obtain ⟨x, rfl, h1⟩ := rsl1 hr
    obtain ⟨a, rfl, ho⟩ := h1.dct
    obtain ⟨ys, g1, g2, _⟩ := dct_keys ho
    cases hg
    have e := g2.length
    rw [List.length_map] at e
    exact .inr ⟨a, ys, rfl, g1, by rw [e]; exact q _ H (Same.refl H) rp_int⟩
  · exact .inl (len_ok (w := X.w) (K := X.K) G ds vs d H Q hG hg hr q)
theorem call_len2 : CallR X (.builtin "len") (fun xs H Q => rLen X.K xs H Q ∨ rLenDct X xs H Q) := CallR.or call_len call_lenDct
def list2D : List D → Option D
  | [.dct kvs] => some (.lst (kvs.map (·.1)))
  | ds => listD ds
theorem list2_ok : AppD X.w X.K list2D (fun xs H Q => rList X.K xs H Q ∨ rListDct X xs H Q) := by
  intro G ds vs d H Q hG hg hr q
  unfold list2D at hg
  split at hg
  · rename_i kvs
    obtain ⟨x, rfl, h1⟩ := rsl1 hr
    obtain ⟨a, rfl, ho⟩ := h1.dct
    obtain ⟨ys, g1, g2, z⟩ := dct_keys ho
    cases hg
    exact .inr ⟨a, ys, rfl, g1, fun p hp => q _ _ (same_upd hp) (newL hG (by rw [List.length_map]; exact z) g2 hp)⟩
  · exact .inl (list_ok (w := X.w) (K := X.K) G ds vs d H Q hG hg hr q)
theorem call_list2 (hc : X.calm = true) : CallR X (.type "list") (fun xs H Q => rList X.K xs H Q ∨ rListDct X xs H Q) := CallR.or call_list_of (call_listDct hc)
end
end DL
end
section
namespace DL
open PySem PySem.Spec L2
open PyProof.Rows hiding St
section
variable {K : PySem.W.Frag} {G : Addr → Prop} {H : Hp} {w : World}
theorem dput_len (kvs : List (D × D)) (k d : D) : (dput kvs k d).length ≤ kvs.length + 1 := by
  unfold dput
  split <;> simp
theorem kvK_put {k d : D} {kk : Key} {v : V} (hk : scKey k = some kk) (rk : Rp K G H k (kV kk)) (rd : Rp K G H d v) {kvs : List (D × D)} {es : List (Key × V)} (r : KvK K G H kvs es) : KvK K G H (dput kvs k d) (putK es kk v) := by
  have ha := kvK_at hk r
  have hany := valV_any kk es
  unfold dput putK
  cases e : dget kvs k with
  | none =>
    rw [hany, ha.2 e]
    simp only [Option.isSome_none, Bool.false_eq_true, if_false]
    clear ha hany e
    induction r with
    | nil => exact .cons ⟨rk, rd⟩ .nil
    | cons r t ih => exact .cons r ih
  | some d0 =>
    obtain ⟨v0, e0, _⟩ := ha.1 d0 e
    rw [hany, e0]
    simp only [Option.isSome_some, if_true]
    clear ha hany e e0
    induction r with
    | nil => exact .nil
    | cons r t ih =>
      rename_i kv e _ _
      refine .cons ?_ ih
      have e1 := sc_eq (rp_key r.1) hk
      by_cases h : e.1 = kk
      · have e2 : keyEq kv.1 k = true := by rw [e1]; exact decide_eq_true h
        simp only [e2, if_true]
        rw [if_pos h]
        exact ⟨r.1, rd⟩
      · have e2 : keyEq kv.1 k = false := by rw [e1]; exact decide_eq_false h
        simp only [e2, Bool.false_eq_true, if_false]
        rw [if_neg h]
        exact r
theorem kvR_put {k d : D} {kk : NestedKey} {y v : V} (hk : nk k = some kk) (hd : kk.depth ≤ 8) (rk : Rp K G H k y) (rd : Rp K G H d v) {kvs : List (D × D)} {es : NEs} (r : KvR K G H kvs es) : KvR K G H (dput kvs k d) (putN es kk y v) := by
  have ha := kvR_at hk r
  unfold dput putN
  cases e : dget kvs k with
  | none =>
    rw [ha.2 e]
    simp only [Option.isSome_none, Bool.false_eq_true, if_false]
    clear ha e
    induction r with
    | nil => exact .cons ⟨hk, hd, rk, rd⟩ .nil
    | cons r t ih => exact .cons r ih
  | some d0 =>
    obtain ⟨v0, e0, _⟩ := ha.1 d0 e
    rw [e0]
    simp only [Option.isSome_some, if_true]
    clear ha e e0
    induction r with
    | nil => exact .nil
    | cons r t ih =>
      rename_i kv e _ _
      refine .cons ?_ ih
      have e1 : keyEq kv.1 k = decide (e.1 = kk) := by unfold keyEq; rw [r.1, hk]
      by_cases h : e.1 = kk
      · have e2 : keyEq kv.1 k = true := by rw [e1]; exact decide_eq_true h
        simp only [e2, if_true]
        rw [if_pos h]
        exact ⟨r.1, r.2.1, r.2.2.1, rd⟩
      · have e2 : keyEq kv.1 k = false := by rw [e1]; exact decide_eq_false h
        simp only [e2, Bool.false_eq_true, if_false]
        rw [if_neg h]
        exact r
theorem putN_nd {es : NEs} {k : NestedKey} {y v : V} (h : (es.map (·.1)).Nodup) : ((putN es k y v).map (·.1)).Nodup := by
  unfold putN
  cases e : atN es k with
  | none =>
    simp only [Option.isSome_none, Bool.false_eq_true, if_false, List.map_append, List.map_cons, List.map_nil]
    refine nd_snoc h fun z => ?_
    obtain ⟨x, h1, h2⟩ := List.mem_map.mp z
    unfold atN at e
    rw [Option.map_eq_none_iff, List.find?_eq_none] at e
    exact e x h1 (decide_eq_true h2)
  | some v0 =>
    simp only [Option.isSome_some, if_true, List.map_map]
    have e1 : ((fun x : NestedKey × V × V => x.1) ∘ fun e : NestedKey × V × V => if e.1 = k then (e.1, e.2.1, v) else e) = fun x => x.1 := by
      funext x
      simp only [Function.comp]
      split <;> rfl
    rw [e1]
    exact h
theorem dput_tup {kvs : List (D × D)} {k d : D} (hk : k.isTup = true) (h : ∀ kv ∈ kvs, kv.1.isTup = true) : ∀ kv ∈ dput kvs k d, kv.1.isTup = true := by
  intro kv hkv
  unfold dput at hkv
  split at hkv
  · obtain ⟨x, h1, rfl⟩ := List.mem_map.mp hkv
    split <;> exact h x h1
  · rcases List.mem_append.mp hkv with h1 | h1
    · exact h kv h1
    · simp only [List.mem_singleton] at h1
      subst h1
      exact hk
theorem dput_ne {kvs : List (D × D)} {k d : D} : dput kvs k d ≠ [] := by
  unfold dput
  split
  · rename_i h
    cases kvs with
    | nil => cases h
    | cons _ _ => intro z; simp at z
  · simp
end
section
variable {X : Cx} {fr : Fx} {W : WX} {σ : L2.St} {H H1 H' : Hp} {ρ ρ' : DL.Env} {e : Expr} {pos : Pos} {f fi : M D} {i : Nat}
/-- x[k] = e, x a list or a dict -/
def sPutI (i : Nat) (fi f : M D) : M Fl := f.bind fun d ρ1 => match ρ1[i]? with
  | some (some _) => (fi.bind fun k ρ2 => match ρ2[i]? with
    | some (some (.lst ds)) => (match k with
      | .int n => (match ixN ds.length n with
        | some j => .ok .nx (ρ2.set i (some (.lst (ds.set j d))))
        | none => .stuck)
      | _ => .stuck)
    | some (some (.dct kvs)) => if okKey kvs k && lenOk (kvs.length + 1) then .ok .nx (ρ2.set i (some (.dct (dput kvs k d)))) else .stuck
    | _ => .stuck) ρ1
  | _ => .stuck
def rSetAny (X : Cx) : V → V → V → Hp → (Hp → Prop) → Prop := fun o i v H Q => rSetL o i v H Q ∨ rSetDct X o i v H Q
theorem set_any (hu : X.A.units + 64 < cLine) : PSet X (rSetAny X) := PSet.or set_list (set_dct hu)
theorem key_rp {kvs : List (D × D)} {k : D} {K : PySem.W.Frag} {G : Addr → Prop} {v : V} (h : Rp K G H k v) : Rp K G H k v := h
theorem ds_putI {tg : Expr} (hO : fr.O i = true) (hk : fr.K = X.K) (hw : fr.w = X.w) (he : DE X fr W e f) (hg : PG X tg (gSub (tVar i) (tD fr W fi) (rSetAny X))) (hs : swapsWithSole [tg] e pos.line X.env = pure false := by rfl) (hww : swappedStores [tg] e X.env = pure none := by rfl)
    (h1 : (assignEach [tg] X.env).map (·.2) = [assign tg X.env] := by rfl) : DS X fr W (.Assign [tg] e pos) (sPutI i fi f) :=
  ps_mono (ps_asg he hg hs hww h1) fun Dn σ H ⟨ρ, E, h⟩ => ⟨ρ, E, wp_head h fun d ρ1 q v H1 E1 s1 r1 => by
    split at q
    · rename_i ds0 hd0
      obtain ⟨A, h1, h2, h3⟩ := E1.ow i _ hd0 hO
      refine ⟨.ref A, h1, ρ1, E1, wp_head q fun k ρ2 q kv H2 E2 s2 r2 => ?_⟩
      split at q
      · rename_i ds hds
        split at q
        · rename_i n
          split at q
          · rename_i j hj
            obtain ⟨A', h1', h2', h3'⟩ := E2.ow i _ hds hO
            rw [h1] at h1'
            cases h1'
            obtain ⟨z, vs, e1, r⟩ := ow_lst h2'
            obtain ⟨E3, s3⟩ := E2.putO (d := .lst (ds.set j d)) (o := .lst (vs.set j v)) hO h1 e1 trk_lst ⟨by simpa using z, _, rfl, RpL.set j r (r1.good s2)⟩ h3'
            exact .inl ⟨A, vs, n, j, rfl, (r2.rs (w := fr.w)).int, e1, by rw [r.length]; exact hj, q σ _ E3 (StS.of ((s1.trans s2).trans s3))⟩
          · exact q.elim
        · exact q.elim
      · rename_i kvs hds
        split at q
        · rename_i hc
          rw [Bool.and_eq_true] at hc
          obtain ⟨A', h1', h2', h3'⟩ := E2.ow i _ hds hO
          rw [h1] at h1'
          cases h1'
          have hl := lenOk_iff.mp hc.2
          have hlen := dput_len kvs k d
          have rd : Rp X.K (Good fr.toFr σ) H2 d v := hk ▸ r1.good s2
          have rk : Rp X.K (Good fr.toFr σ) H2 k kv := hk ▸ r2
          have h2x : Ow X.w X.K (Good fr.toFr σ) H2 (.dct kvs) A := hk ▸ hw ▸ h2'
          rcases dct_key h2x rk hc.1 with ⟨es, kk, eA, rr, ey, ek⟩ | ⟨es, kk, b, hn, rr, hm, nd, ey, kV', ek, ht⟩
          · obtain ⟨E3, s3⟩ := E2.putO (d := .dct (dput kvs k d)) (o := .dK (putK es kk v)) hO h1 eA trk_dK ⟨by omega, .inl ⟨_, rfl, hk ▸ kvK_put ek (ey ▸ rk) rd rr⟩⟩ h3'
            exact .inr ⟨A, rfl, .inl ⟨es, kk, eA, ey, by rw [← Paired.length rr]; omega, q σ _ E3 (StS.of ((s1.trans s2).trans s3))⟩⟩
          · subst ey
            obtain ⟨k1, k2⟩ := dkey_some ek
            obtain ⟨o0, eA, t0⟩ : ∃ o0, H2 A = some o0 ∧ Trk o0 := by
              rcases hn with hn | ⟨_, hn⟩
              · exact ⟨_, hn.o, trk_dct⟩
              · exact ⟨_, hn, trk_dK⟩
            obtain ⟨E3, s3⟩ := E2.putO (d := .dct (dput kvs k d)) (o := DctO X.w A (putN es kk (.ref b) v)) hO h1 eA t0 ⟨by omega, .inr ⟨dput_ne, dput_tup ht hm, _, by rw [hw], hk ▸ kvR_put k1 k2 rk rd rr, putN_nd nd⟩⟩ h3'
            exact .inr ⟨A, rfl, .inr ⟨es, kk, b, hn, rfl, kV', by rw [← Paired.length rr]; omega, q σ _ E3 (StS.of ((s1.trans s2).trans s3))⟩⟩
        · exact q.elim
      · exact q.elim
    · exact q.elim⟩
/-- {} -/
def eDct0 : M D := M.pure (.dct [])
theorem df_dct0 : DF X fr W (.Dict [] [] pos) eDct0 :=
  pe_mono pe_dnewK fun σ H Q ⟨ρ, E, h⟩ p hp => h p H _ (.dK []) E Stp.refl hp (same_upd hp) upd_same ⟨Nat.zero_le _, .inl ⟨[], rfl, .nil⟩⟩
end
end DL
end
section
namespace DL
open PySem PySem.Spec L2
open PyProof.Rows hiding St

/-! ### comprehensions of any number of clauses -/
def cMid (e : Expr) (d : Nat) (t i : Expr) (ifs : List Expr) (i1 : Expr) (it acc : Value) (env : PySem.Env) : Sem Fin := do
  standAt i.pos
  match ← pyNext it with
  | none => pure (.done .next)
  | some v =>
    letOwnedTupleGo t it v
    assign t env v
    let mut ok := true
    for c in ifs do
      if ok then ok ← isTrue c env (eval c env)
    if ok then
      let x ← eval i1 env
      standAt i1.pos
      let x ← foldedSetIterable i1 env x
      let _ ← runOwn (.compStart e (d + 1) (← holding [x] (pyIter x)) acc env) env
    again (.compLoop e d it acc env)
def cLast (e : Expr) (emit : Value → PySem.Env → Sem Unit) (d : Nat) (t i : Expr) (ifs : List Expr) (it acc : Value) (env : PySem.Env) : Sem Fin := do
  standAt i.pos
  match ← pyNext it with
  | none => pure (.done .next)
  | some v =>
    letOwnedTupleGo t it v
    assign t env v
    let mut ok := true
    for c in ifs do
      if ok then ok ← isTrue c env (eval c env)
    if ok then
      emit acc env
    again (.compLoop e d it acc env)
/-- a comprehension, its clauses, its last step -/
structure Cp (e : Expr) (gens : List Comprehension) (emit : Value → PySem.Env → Sem Unit) : Prop where
  lw : ∀ (prog : Program) (w : World) (A : Around) (Q : Fin → Shared → Prop) (E : Value → Shared → Prop) (s : Shared) (d : Nat) (it acc : Value) (env : PySem.Env), wpAny (model prog w) A ((compTurn e d it acc env).onRaise fun x => do noteFrame x env; theTreesLotGoes x) Q E s →
    wpAny (model prog w) (A.under (.compLoop e d it acc env)) ((model prog w).den (.compLoop e d it acc env)) Q E s
  sw : ∀ (prog : Program) (w : World) (A : Around) (Q : Fin → Shared → Prop) (E : Value → Shared → Prop) (s : Shared) (d : Nat) (it acc : Value) (env : PySem.Env), wpAny (model prog w) A ((compStart e d it acc env).onRaise fun x => do noteFrame x env; standAt theWindowsPlace) Q E s →
    wpAny (model prog w) (A.under (.compStart e d it acc env)) ((model prog w).den (.compStart e d it acc env)) Q E s
  cl : clausesOf e = gens
  mid : ∀ (d : Nat) (t i t1 i1 : Expr) (ifs ifs1 : List Expr) (it acc : Value) (env : PySem.Env), gens[d]? = some ⟨t, i, ifs, 0⟩ → gens[d + 1]? = some ⟨t1, i1, ifs1, 0⟩ → compTurn e d it acc env = cMid e d t i ifs i1 it acc env
  last : ∀ (d : Nat) (t i : Expr) (ifs : List Expr) (it acc : Value) (env : PySem.Env), gens[d]? = some ⟨t, i, ifs, 0⟩ → gens[d + 1]? = none → compTurn e d it acc env = cLast e emit d t i ifs it acc env
def emitL (elt : Expr) (acc : Value) (env : PySem.Env) : Sem Unit := do let _ ← call (.builtin "list.append") [acc, ← eval elt env]
def emitS (elt : Expr) (acc : Value) (env : PySem.Env) : Sem Unit := do let v ← eval elt env; standAt elt.pos; let _ ← call (.builtin "set.add") [acc, v]
def emitD (k v : Expr) (acc : Value) (env : PySem.Env) : Sem Unit := do
  let kv ← eval k env
  let vv ← holding [kv] (eval v env)
  match acc with
  | .ref d => do
    standAt { k.pos with endLine := v.pos.endLine, endCol := v.pos.endCol }
    holding [kv, vv] (dictSet d kv vv)
  | _ => unsupported "internal:dictcomp"
theorem cp_list (elt : Expr) (gens : List Comprehension) (scope : Scope) (pos : Pos) : Cp (.ListComp elt gens scope pos) gens (emitL elt) := ⟨fun _ _ _ _ _ _ _ _ _ _ h => h, fun _ _ _ _ _ _ _ _ _ _ h => h, rfl, fun d t i t1 i1 ifs ifs1 it acc env h h1 => by
  unfold compTurn
  dsimp only
  rw [h]
  dsimp only
  rw [h1]
  rfl, fun d t i ifs it acc env h h1 => by
  unfold compTurn
  dsimp only
  rw [h]
  dsimp only
  rw [h1]
  rfl⟩
theorem cp_set (elt : Expr) (gens : List Comprehension) (scope : Scope) (pos : Pos) : Cp (.SetComp elt gens scope pos) gens (emitS elt) := ⟨fun _ _ _ _ _ _ _ _ _ _ h => h, fun _ _ _ _ _ _ _ _ _ _ h => h, rfl, fun d t i t1 i1 ifs ifs1 it acc env h h1 => by
  unfold compTurn
  dsimp only
  rw [h]
  dsimp only
  rw [h1]
  rfl, fun d t i ifs it acc env h h1 => by
  unfold compTurn
  dsimp only
  rw [h]
  dsimp only
  rw [h1]
  rfl⟩
theorem cp_dict (k v : Expr) (gens : List Comprehension) (scope : Scope) (pos : Pos) : Cp (.DictComp k v gens scope pos) gens (emitD k v) := ⟨fun _ _ _ _ _ _ _ _ _ _ h => h, fun _ _ _ _ _ _ _ _ _ _ h => h, rfl, fun d t i t1 i1 ifs ifs1 it acc env h h1 => by
  unfold compTurn
  dsimp only
  rw [h]
  dsimp only
  rw [h1]
  rfl, fun d t i ifs it acc env h h1 => by
  unfold compTurn
  dsimp only
  rw [h]
  dsimp only
  rw [h1]
  rfl⟩
end DL
end
section
namespace DL
open PySem PySem.Spec L2
open PyProof.Rows hiding St
section
variable {prog : Program} {w : World} {A : Around} {R : Result → Shared → Prop} {s : Shared} {e : Expr} {gens : List Comprehension} {emit : Value → PySem.Env → Sem Unit} {d : Nat} {t i t1 i1 : Expr} {ifs ifs1 : List Expr} {it acc : Value} {env : PySem.Env}
abbrev NoE : Value → Shared → Prop := fun _ _ => False
/-- no exception: any is good -/
theorem wNo {α : Type} {m : Sem α} {Q Q' : α → Shared → Prop} {E : Value → Shared → Prop} {M : Model} (h : wpAny M A m Q NoE s) (q : ∀ a z, Q a z → Q' a z) : wpAny M A m Q' E s := wpAny_mono h q fun _ _ z => z.elim
/-- a turn of a clause, till its tests are told; B: what is done where they hold -/
def TurnW (prog : Program) (w : World) (A : Around) (t : Expr) (ifs : List Expr) (it : Value) (env : PySem.Env) (Done : Shared → Prop) (B : Shared → Prop) (Nx : Shared → Prop) (s : Shared) : Prop :=
  wpAny (model prog w) A (pyNext it) (fun r z1 => match r with
    | none => Done z1
    | some v => wpAny (model prog w) A (letOwnedTupleGo t it v) (fun _ z2 => wpAny (model prog w) A (assign t env v) (fun _ z3 =>
        wpAny (model prog w) A (forIn ifs true fun c b => if b = true then do let k ← isTrue c env (eval c env); pure (ForInStep.yield k) else pure (ForInStep.yield b)) (fun k z4 => if k = true then B z4 else Nx z4) NoE z3) NoE z2) NoE z1) NoE s
/-- the last step -/
def ActE (prog : Program) (w : World) (A : Around) (emit : Value → PySem.Env → Sem Unit) (acc : Value) (env : PySem.Env) (Post : Shared → Prop) (s : Shared) : Prop := wpAny (model prog w) A (emit acc env) (fun _ z => Post z) NoE s
/-- the next clause's loop -/
def ActC (prog : Program) (w : World) (A : Around) (e i1 : Expr) (d : Nat) (acc : Value) (env : PySem.Env) (Post : Shared → Prop) (s : Shared) : Prop :=
  wpAny (model prog w) A (eval i1 env) (fun x z => wpAny (model prog w) A (pyIter x) (fun it1 z1 => codeAny (model prog w) A (.compStart e d it1 acc env) (fun r z2 => match r with
    | .ok _ => Post z2
    | .error _ => False) z1) NoE z) NoE s
theorem loop_last (C : Cp e gens emit) (h0 : gens[d]? = some ⟨t, i, ifs, 0⟩) (h1 : gens[d + 1]? = none) (I : Nat → Shared → Prop)
    (turn : ∀ n s, I n s → TurnW prog w A t ifs it env (R (.ok .next)) (ActE prog w A emit acc env fun z => ∃ m, m < n ∧ I m z) (fun z => ∃ m, m < n ∧ I m z) s) (n : Nat) (h : I n s) : codeAny (model prog w) A (.compLoop e d it acc env) R s := by
  refine codeAny_loop rfl I (fun n s hI => ?_) n h
  refine C.lw _ _ _ _ _ _ _ _ _ _ (wpAny_noted ?_)
  rw [C.last d t i ifs it acc env h0 h1]
  unfold cLast
  refine wpAny_bind (wpAny_standAt (wpAny_bind (wNo (turn n s hI) fun r z1 q => ?_)))
  cases r with
  | none => exact wpAny_pure q
  | some v =>
    refine wpAny_bind (wNo q fun _ z2 q => wpAny_bind (wNo q fun _ z3 q => wpAny_bind (wNo q fun k z4 q => ?_)))
    cases k with
    | false => exact wpAny_pure ⟨rfl, q⟩
    | true => exact wpAny_bind (wNo (show wpAny _ _ _ _ _ _ from q) fun _ z5 q => wpAny_pure ⟨rfl, q⟩)
theorem loop_mid (C : Cp e gens emit) (h0 : gens[d]? = some ⟨t, i, ifs, 0⟩) (h1 : gens[d + 1]? = some ⟨t1, i1, ifs1, 0⟩) (hs : ∀ x, foldedSetIterable i1 env x = pure x) (I : Nat → Shared → Prop)
    (turn : ∀ n s, I n s → TurnW prog w A t ifs it env (R (.ok .next)) (ActC prog w A e i1 (d + 1) acc env fun z => ∃ m, m < n ∧ I m z) (fun z => ∃ m, m < n ∧ I m z) s) (n : Nat) (h : I n s) : codeAny (model prog w) A (.compLoop e d it acc env) R s := by
  refine codeAny_loop rfl I (fun n s hI => ?_) n h
  refine C.lw _ _ _ _ _ _ _ _ _ _ (wpAny_noted ?_)
  rw [C.mid d t i t1 i1 ifs ifs1 it acc env h0 h1]
  unfold cMid
  refine wpAny_bind (wpAny_standAt (wpAny_bind (wNo (turn n s hI) fun r z1 q => ?_)))
  cases r with
  | none => exact wpAny_pure q
  | some v =>
    refine wpAny_bind (wNo q fun _ z2 q => wpAny_bind (wNo q fun _ z3 q => wpAny_bind (wNo q fun k z4 q => ?_)))
    cases k with
    | false => exact wpAny_pure ⟨rfl, q⟩
    | true =>
      refine wpAny_bind (wNo (show wpAny _ _ _ _ _ _ from q) fun x z5 q => ?_)
      refine wpAny_bind (wpAny_standAt (wpAny_bind (wpAny_of_eq (hs x) (wpAny_bind (wpAny_holding (wNo q fun it1 z6 q => ?_))))))
      refine wpAny_bind (wpAny_runOwn ?_)
      rw [Around.mark_none]
      refine codeAny_mono q fun r z7 q => ?_
      cases r with
      | error e => exact q.elim
      | ok f => first
        | exact wpAny_pure ⟨rfl, q⟩
        | exact wpAny_bind (wpAny_pure (wpAny_pure ⟨rfl, q⟩))
/-- the loop's start: its iterator is asked once more, or not -/
theorem cp_start (C : Cp e gens emit) (h0 : gens[d]? = some ⟨t, i, ifs, 0⟩) (hl : codeAny (model prog w) A (.compLoop e d it acc env) R s)
    (h : wpAny (model prog w) A (pyIter it) (fun it' z => codeAny (model prog w) A (.compLoop e d it' acc env) R z) NoE s) : codeAny (model prog w) A (.compStart e d it acc env) R s := by
  refine codeAny_of_tree ?_
  refine C.sw _ _ _ _ _ _ _ _ _ _ (wpAny_notedAt ?_)
  unfold compStart
  have hcl : (clausesOf e)[d]? = some ⟨t, i, ifs, 0⟩ := by rw [C.cl]; exact h0
  rw [hcl]
  show wpAny _ _ (ask >>= _) _ _ s
  refine wpAny_bind (wpAny_askSetting (wpAny_ite ?_))
  split
  · first
      | exact wpAny_pure ⟨rfl, hl⟩
      | exact wpAny_bind (wpAny_pure (wpAny_pure ⟨rfl, hl⟩))
  · first
      | exact wpAny_bind (wpAny_rule (wpAny_bind (wpAny_standAt (wpAny_bind (wNo h fun it' z q => wpAny_pure ⟨rfl, q⟩)))))
      | (refine wpAny_bind (wpAny_rule ?_); show wpAny _ _ (standAt i.pos >>= _) _ _ s; exact wpAny_bind (wpAny_standAt (wpAny_bind (wNo h fun it' z q => wpAny_pure ⟨rfl, q⟩))))
end
end DL
end
section
namespace DL
open PySem PySem.Spec L2
open PyProof.Rows hiding St

/-- a last step, a body: from slots and heap to a wish for the heap -/
abbrev EM := L2.St → Hp → (Hp → Prop) → Prop
/-- one clause's loop over J, the slots at vs wiped at each turn -/
def tLp (vs : List Nat) (J : It) (g : TG) (tt : TT) (em : EM) : EM := fun σ H N => ∃ W : Nat → Nat → Hp → Prop, (∃ m, W 0 m H) ∧ ∀ i m H, W i m H →
  (J.stop i H ∧ N H) ∨ (J.go i H ∧ ∃ Nx : Hp → Prop, (∀ H', Nx H' → ∃ m', m' < m ∧ W (i + 1) m' H') ∧ ∀ x H', J.yld i H x H' → g x (wipe σ vs) H' fun σ2 H2 => wipe σ2 vs = wipe σ vs ∧ tt σ2 H2 fun b H3 => if b = true then em σ2 H3 Nx else Nx H3)
/-- what is known of the slots behind a body that wipes those at vs -/
def Kp (vs : List Nat) (σ σ' : L2.St) : Prop := σ'.length = σ.length ∧ ∀ (j : Nat) (v : V), j ∉ vs → σ[j]? = some (some v) → σ'[j]? = some (some v)
theorem Kp.refl {vs : List Nat} {σ : L2.St} : Kp vs σ σ := ⟨rfl, fun _ _ _ h => h⟩
theorem wipe_off {σ : L2.St} {j : Nat} {vs : List Nat} (h : j ∉ vs) : (wipe σ vs)[j]? = σ[j]? := wV.1 h
theorem Kp.wipe {vs : List Nat} {σ : L2.St} : Kp vs σ (L2.wipe σ vs) := ⟨wipe_length _ _, fun j v hj h => by rw [wipe_off hj]; exact h⟩
section
variable {Y : Cx}
/-- a body keeps what it says, in the block's context -/
def BodyT (Y : Cx) (vs : List Nat) (act : (Shared → Prop) → Shared → Prop) (em : EM) : Prop := ∀ (pins : List (Addr × Obj)) (σ : L2.St) (H : Hp) (s : Shared) (N : Hp → Prop) (Post : Shared → Prop), Inv Y pins σ H s → em σ H N →
  (∀ σ' H' s', Inv Y pins σ' H' s' → Kp vs σ σ' → N H' → Post s') → act Post s
theorem yNo {α : Type} {m : Sem α} {Q Q' : α → Shared → Prop} {M : Model} {A : Around} {s : Shared} (hx : ∀ e z, ¬ Y.xe e z) (h : wpAny M A m Q Y.xe s) (q : ∀ a z, Q a z → Q' a z) : wpAny M A m Q' NoE s := wpAny_mono h q fun _ _ z => (hx _ _ z).elim
theorem loop_inv {vs vs1 : List Nat} {t : Expr} {ifs : List Expr} {J : It} {it : Addr} {fp : List Addr} {tn : Nat → Heap → Prop} {g : TG} {tt : TT} {em : EM} {act : (Shared → Prop) → Shared → Prop} {pins : List (Addr × Obj)} {σ : L2.St} {H : Hp} {s : Shared} {N : Hp → Prop} {R : Result → Shared → Prop} {c : Code}
    (hx : ∀ e z, ¬ Y.xe e z) (hc : Y.calm = true) (hv : ∀ j, j ∈ vs1 → j ∈ vs)
    (hloop : ∀ I : Nat → Shared → Prop, (∀ n s, I n s → TurnW Y.prog Y.w Y.A t ifs (.ref it) Y.env (R (.ok .next)) (act fun z => ∃ m, m < n ∧ I m z) (fun z => ∃ m, m < n ∧ I m z) s) → ∀ (n : Nat) (s : Shared), I n s → codeAny (model Y.prog Y.w) Y.A c R s)
    (pg : PG Y t g) (pt : PTs Y ifs tt) (hb : BodyT Y vs1 act em) (T : Turn Y.prog Y.w Y.K t J fp it tn) (I0 : Inv Y pins σ H s) (st : tn 0 s.heap) (hfp : ∀ b ∈ fp, FpOk Y pins H b) (h : tLp vs J g tt em σ H N)
    (hR : ∀ σ' H' s', Inv Y pins σ' H' s' → Kp vs σ σ' → N H' → R (.ok .next) s') : codeAny (model Y.prog Y.w) Y.A c R s := by
  obtain ⟨W, ⟨m0, w0⟩, turn⟩ := h
  have ok : ∀ {H' : Hp}, (∀ b ∈ fp, H' b = none) → ∀ b ∈ fp, FpOk Y pins H' b := fun hn b hb => ⟨hn b hb, (hfp b hb).2⟩
  refine hloop (fun n z => ∃ i H', Inv Y pins (wipe σ vs) H' z ∧ tn i z.heap ∧ (∀ b ∈ fp, H' b = none) ∧ W i n H') ?_ m0 s ⟨0, H, I0.weak (wipe_length _ _) (fun j v e => (wipe_some e).1), st, fun b hb => (hfp b hb).1, w0⟩
  rintro n z ⟨i, H1, I1, st1, n1, w1⟩
  rcases turn i n H1 w1 with ⟨stop, q⟩ | ⟨go, Nx, hNx, step⟩
  · refine yNo hx (T.done Y rfl rfl rfl hc i pins z (wipe σ vs) H1 Y.xe I1 (ok n1) st1 stop) fun r z1 ⟨hr, I2⟩ => ?_
    subst hr
    exact hR _ H1 z1 I2 Kp.wipe q
  · refine yNo hx (T.item Y rfl rfl rfl hc i pins z (wipe σ vs) H1 Y.xe I1 (ok n1) st1 go) fun r z1 ⟨u, hr, h1⟩ => ?_
    subst hr
    refine yNo hx h1 fun _ z2 ⟨x, H2, I2, r2, y2, st2, n2⟩ => ?_
    have I3 := I2.pinned (ok n2) (T.obj _ _ st2)
    refine yNo hx (pg.run _ z2 _ H2 x u _ I3 r2 (step x H2 y2)) fun _ z3 ⟨σ3, H3, I3, hw, q3⟩ => ?_
    refine yNo hx (pt.run _ z3 σ3 H3 _ I3 q3) fun b z4 ⟨H4, I4, q4⟩ => ?_
    have fin : ∀ {σ5 : L2.St} {z5 : Shared} {H5 : Hp}, Inv Y (pins ++ pinsAt fp z2.heap) σ5 H5 z5 → Kp vs1 σ3 σ5 → Nx H5 → ∃ m, m < n ∧ ∃ i H', Inv Y pins (wipe σ vs) H' z5 ∧ tn i z5.heap ∧ (∀ b ∈ fp, H' b = none) ∧ W i m H' := fun {σ5 z5 H5} I5 k5 nx => by
      obtain ⟨m', hm, w'⟩ := hNx H5 nx
      have pin : ∀ b ∈ fp, ∀ o, z2.heap.get? b = some o → z5.heap.get? b = some o ∧ H5 b = none := fun b hb o e =>
        let q := I5.pin (b, o) (List.mem_append_right _ (List.mem_append_right _ (mem_pinsAt hb e)))
        ⟨q.1, q.2.1⟩
      have hl : (wipe σ vs).length = σ5.length := by rw [k5.1, ← hw, wipe_length]
      refine ⟨m', hm, i + 1, H5, (I5.unpinned (pins := pins)).weak hl (fun j v e => ?_), T.keep _ _ _ st2 fun b hb o e => (pin b hb o e).1, fun b hb => ?_, w'⟩
      · rw [← hw] at e
        obtain ⟨e1, e2⟩ := wipe_some e
        exact k5.2 j v (fun w => e2 (hv j w)) e1
      · obtain ⟨o, e, _⟩ := T.obj _ _ st2 b hb
        exact (pin b hb o e).2
    cases b with
    | false =>
      simp only [Bool.false_eq_true, if_false] at q4 ⊢
      exact fin I4 Kp.refl q4
    | true =>
      simp only [if_true] at q4 ⊢
      exact hb _ σ3 H4 z4 Nx _ I4 q4 fun σ' H' s' I' k' nx => fin I' k' nx
/-- the next clause as a body -/
def tCl (wi : TI) (vs : List Nat) (g : TG) (tt : TT) (em : EM) : EM := fun σ H N => wi σ H fun J H1 => tLp vs J g tt em σ H1 N
theorem body_mid {e : Expr} {gens : List Comprehension} {emit : Value → PySem.Env → Sem Unit} {d : Nat} {t1 i1 : Expr} {ifs1 : List Expr} {acc : Value} {vs vs1 : List Nat} {wi : TI} {g : TG} {tt : TT} {em : EM} {act : (Shared → Prop) → Shared → Prop}
    (hx : ∀ e z, ¬ Y.xe e z) (hc : Y.calm = true) (C : Cp e gens emit) (h1 : gens[d]? = some ⟨t1, i1, ifs1, 0⟩) (hv : ∀ j, j ∈ vs1 → j ∈ vs)
    (hloop : ∀ (it : Addr) (R : Result → Shared → Prop) (I : Nat → Shared → Prop), (∀ n s, I n s → TurnW Y.prog Y.w Y.A t1 ifs1 (.ref it) Y.env (R (.ok .next)) (act fun z => ∃ m, m < n ∧ I m z) (fun z => ∃ m, m < n ∧ I m z) s) → ∀ (n : Nat) (s : Shared), I n s → codeAny (model Y.prog Y.w) Y.A (.compLoop e d (.ref it) acc Y.env) R s)
    (hi : PI Y t1 i1 wi) (pg : PG Y t1 g) (pt : PTs Y ifs1 tt) (hb : BodyT Y vs1 act em) : BodyT Y vs (ActC Y.prog Y.w Y.A e i1 d acc Y.env) (tCl wi vs g tt em) := by
  intro pins σ H s N Post I h hP
  refine yNo hx (hi.run pins s σ H _ I h) fun xv s1 q => yNo hx q fun itv s2 q => ?_
  obtain ⟨it, fp, tn, J, H2, e1, I2, T, st2, f2, q2⟩ := q
  subst e1
  have loop : codeAny (model Y.prog Y.w) Y.A (.compLoop e d (.ref it) acc Y.env) (fun r z => match r with
    | .ok _ => Post z
    | .error _ => False) s2 := by
    refine loop_inv (R := fun r z => match r with
      | .ok _ => Post z
      | .error _ => False) hx hc hv (hloop it fun r z => match r with
      | .ok _ => Post z
      | .error _ => False) pg pt hb T I2 st2 f2 q2 hP
  exact cp_start C h1 loop (T.self Y.A 0 _ _ _ st2 loop)
/-- the last step of a list -/
theorem body_list {elt : Expr} {D : Addr} {te : TE} (hx : ∀ e z, ¬ Y.xe e z) (pe : PE Y elt te) : BodyT Y [] (ActE Y.prog Y.w Y.A (emitL elt) (.ref D) Y.env) (fun σ H N => te σ H fun y H1 => ∃ acc, H1 D = some (.lst acc) ∧ acc.length < sizeLine ∧ N (upd H1 D (.lst (acc ++ [y])))) := by
  intro pins σ H s N Post I h hP
  unfold ActE emitL
  refine wpAny_bind (yNo hx (pe.run pins s σ H _ I h) fun v s1 ⟨y, H1, I1, r1, acc, hD, hz, n⟩ => ?_)
  exact wpAny_bind (app_ok I1 hD hz r1 fun s2 I2 => wpAny_pure (hP σ _ s2 I2 Kp.refl n))
end
end DL
end
section
namespace DL
open PySem PySem.Spec L2
open PyProof.Rows hiding St
section
variable {Y : Cx} {e : Expr} {gens : List Comprehension} {emit : Value → PySem.Env → Sem Unit} {d : Nat} {t i t1 i1 : Expr} {ifs ifs1 : List Expr} {acc : Value} {vs vs1 : List Nat} {em : EM}
def LoopOk (Y : Cx) (e : Expr) (d : Nat) (t : Expr) (ifs : List Expr) (acc : Value) (act : (Shared → Prop) → Shared → Prop) : Prop := ∀ (it : Addr) (R : Result → Shared → Prop) (I : Nat → Shared → Prop),
  (∀ n s, I n s → TurnW Y.prog Y.w Y.A t ifs (.ref it) Y.env (R (.ok .next)) (act fun z => ∃ m, m < n ∧ I m z) (fun z => ∃ m, m < n ∧ I m z) s) → ∀ (n : Nat) (s : Shared), I n s → codeAny (model Y.prog Y.w) Y.A (.compLoop e d (.ref it) acc Y.env) R s
/-- a clause's loop: what a turn does, and that it keeps em -/
def ClOk (Y : Cx) (e : Expr) (d : Nat) (t : Expr) (ifs : List Expr) (acc : Value) (vs : List Nat) (em : EM) : Prop := ∃ act vs1, LoopOk Y e d t ifs acc act ∧ (∀ j, j ∈ vs1 → j ∈ vs) ∧ BodyT Y vs1 act em
theorem clOk_last (C : Cp e gens emit) (h0 : gens[d]? = some ⟨t, i, ifs, 0⟩) (h1 : gens[d + 1]? = none) (hb : BodyT Y [] (ActE Y.prog Y.w Y.A emit acc Y.env) em) : ClOk Y e d t ifs acc vs em :=
  ⟨_, [], fun it R I turn n s hI => loop_last C h0 h1 I turn n hI, fun j h => (by cases h), hb⟩
theorem clOk_mid {wi : TI} {g : TG} {tt : TT} (hx : ∀ e z, ¬ Y.xe e z) (hc : Y.calm = true) (C : Cp e gens emit) (h0 : gens[d]? = some ⟨t, i, ifs, 0⟩) (h1 : gens[d + 1]? = some ⟨t1, i1, ifs1, 0⟩) (hs : ∀ x, foldedSetIterable i1 Y.env x = pure x)
    (hv : ∀ j, j ∈ vs1 → j ∈ vs) (hi : PI Y t1 i1 wi) (pg : PG Y t1 g) (pt : PTs Y ifs1 tt) (hb : ClOk Y e (d + 1) t1 ifs1 acc vs1 em) : ClOk Y e d t ifs acc vs (tCl wi vs1 g tt em) := by
  obtain ⟨act, vs2, hl, hv2, hB⟩ := hb
  exact ⟨_, vs1, fun it R I turn n s hI => loop_mid C h0 h1 hs I turn n hI, hv, body_mid hx hc C h1 hv2 hl hi pg pt hB⟩
end
section
variable {X : Cx}
/-- the whole: the first iterator, the new object at D, the loops -/
def tCp (wi : TI) (vs : List Nat) (g : TG) (tt : TT) (em : Addr → EM) (o0 : Addr → HO) : TE := fun σ H Q => wi σ H fun J H1 => ∀ D, H1 D = none → tLp vs J g tt (em D) σ (upd H1 D (o0 D)) fun H' => Q (.ref D) H'
structure NewOb (X : Cx) (new : Sem Value) (ob : Obj) (o0 : Addr → HO) : Prop where
  run : ∀ (s : Shared) (Q : Value → Shared → Prop) (E : Value → Shared → Prop), Q (.ref s.heap.objs.size) { s with heap := s.heap.push ob } → wpAny (model X.prog X.w) X.A new Q E s
  ok : ∀ (H : Hp) (h : Heap), sysModules < h.objs.size → ObjOk X.prog X.w H (h.push ob) h.objs.size (o0 h.objs.size)
theorem cp_core {pins : List (Addr × Obj)} {s : Shared} {σ : L2.St} {H : Hp} {Q : VK} {e tg iter : Expr} {ifs : List Expr} {rest : List Comprehension} {emit : Value → PySem.Env → Sem Unit} {scope : Scope} {own : List (Str × Nat)} {pos' : Pos} {wi : TI} {g : TG} {tt : TT} {em : Addr → EM} {new : Sem Value} {ob : Obj} {o0 : Addr → HO}
    {use : Option (Value → Sem Unit)} {Qf : Value → Shared → Prop} (C : Cp e (⟨tg, iter, ifs, 0⟩ :: rest) emit) (nw : NewOb X new ob o0) (hc : X.calm = true) (hN : X.N.Nodup) (I : Inv X pins σ H s) (hi : PI X tg iter wi) (ok : BlkOk X.N X.env.scope scope own)
    (hg : ∀ (s : Shared) (H : Hp) (C : Addr) (cl : List (Str × Addr)) (fp : List Addr), PG (X.blk s H scope (compEnvC scope cl C X.env) fp) tg g)
    (ht : ∀ (s : Shared) (H : Hp) (C : Addr) (cl : List (Str × Addr)) (fp : List Addr), PTs (X.blk s H scope (compEnvC scope cl C X.env) fp) ifs tt)
    (hb : ∀ (s : Shared) (H : Hp) (C : Addr) (cl : List (Str × Addr)) (fp : List Addr) (D : Addr), ClOk (X.blk s H scope (compEnvC scope cl C X.env) fp) e 0 tg ifs (.ref D) (own.map (·.2)) (em D))
    (hs : ∀ x, foldedSetIterable iter X.env x = pure x) (h : tCp wi (own.map (·.2)) g tt em o0 σ H Q)
    (hRR : ∀ D C s' m H', Inv X pins σ H' s' → Q (.ref D) H' → s'.heap.Ns C m → FpOk X pins H' C → compPost (model X.prog X.w) X.A X.xe use Qf (.ref D) C (.ok .next) s') :
    wpAny (model X.prog X.w) X.A (comprehension e scope X.env pos' new false (eval iter X.env) use) Qf X.xe s := by
  have fr : ∀ y ∈ scope.names, y.2 = .free → ∃ c, X.env.cells.lookup y.1 = some c := fun y hy e => (ok.free y hy e).elim (fun k => I.ok.has _ (.inl k)) fun k => I.ok.has _ (.inr k)
  refine wpAny_comprehension_free (use := use) C.cl hs (closure_ok fr) ok.kind (fun y hy e => by rw [ok.uniq y hy, e]) (thn (hi.run pins s σ H _ I h) fun xv s1 q => thn q fun itv s2 q => ?_)
  obtain ⟨it, fp, tn, J, H2, e1, I2, T, st2, f2, q2⟩ := q
  subst e1
  refine nw.run _ _ _ (newEnv_comp ?_)
  have hDn : H2 s2.heap.objs.size = none := I2.hok.fresh (Nat.le_refl _)
  have w := q2 _ hDn
  have I3 : Inv X pins σ (upd H2 s2.heap.objs.size (o0 s2.heap.objs.size)) { s2 with heap := s2.heap.push ob } := I2.laid (t' := s2.toks) (fun b o e => Heap.get?_push_of_some _ e) (Nat.le_refl _) (nw.ok _ _ I2.big)
  generalize hD : s2.heap.objs.size = D at w I3 hDn ⊢
  generalize hs3 : ({ s2 with heap := s2.heap.push ob } : Shared) = s3 at I3 ⊢
  have h3 : s3.heap = s2.heap.push ob := by rw [← hs3]
  generalize hH3 : upd H2 D (o0 D) = H3 at I3 w
  have f3 : ∀ b ∈ fp, FpOk X pins H3 b ∧ b < s3.heap.objs.size := fun b hb => by
    obtain ⟨o, q, _⟩ := T.obj _ _ st2 b hb
    have lt := Heap.lt_size q
    refine ⟨⟨?_, (f2 b hb).2⟩, by rw [h3, Heap.size_push]; exact Nat.lt_succ_of_lt lt⟩
    rw [← hH3, upd_ne (by rw [← hD]; exact Nat.ne_of_lt lt)]
    exact (f2 b hb).1
  have st3 : tn 0 s3.heap := T.keep _ _ _ st2 fun b _ o q => by rw [h3]; exact Heap.get?_push_of_some _ q
  have I4 := block_start I3 ok hN f3
  have pg := hg s3 H3 s3.heap.objs.size (cellsFrom (s3.heap.objs.size + 1) scope.names (cloFrom X.env.cells scope.names [])) fp
  have pt := ht s3 H3 s3.heap.objs.size (cellsFrom (s3.heap.objs.size + 1) scope.names (cloFrom X.env.cells scope.names [])) fp
  obtain ⟨act, vs1, hl, hv, hB⟩ := hb s3 H3 s3.heap.objs.size (cellsFrom (s3.heap.objs.size + 1) scope.names (cloFrom X.env.cells scope.names [])) fp D
  show codeAny _ _ (.compStart e 0 (.ref it) (.ref D) (compEnvC scope (cellsFrom (s3.heap.objs.size + 1) scope.names (cloFrom X.env.cells scope.names [])) s3.heap.objs.size X.env)) (compPost (model X.prog X.w) X.A X.xe use Qf (.ref D) s3.heap.objs.size) { s3 with heap := pushCells (s3.heap.push { cls := .type "dict", data := .dict #[] }) scope.names }
  generalize hce : compEnvC scope (cellsFrom (s3.heap.objs.size + 1) scope.names (cloFrom X.env.cells scope.names [])) s3.heap.objs.size X.env = ce at I4 pg pt hl hB ⊢
  have cL : ce.locals = s3.heap.objs.size := by subst hce; rfl
  generalize hs4 : ({ s3 with heap := pushCells (s3.heap.push { cls := .type "dict", data := .dict #[] }) scope.names } : Shared) = s4 at I4 ⊢
  have st4 : tn 0 s4.heap := T.keep _ _ _ st3 fun b _ o q => by rw [← hs4]; exact pushCells_keeps _ _ _ _ (Heap.get?_push_of_some _ q)
  have f4 : ∀ b ∈ fp, FpOk (X.blk s3 H3 scope ce fp) [] H3 b := fun b hb => ⟨(f3 b hb).1.1, (I4.ok.exf b hb).1, I4.ok.exfs b hb, .inl hb, fun x c q => (I4.ok.exf b hb).2 x c q, fun p hp => absurd (show p ∈ ([] : List (Addr × Obj)) ++ [] from hp) (by simp)⟩
  have w' : tLp (own.map (·.2)) J g tt (em D) (wipe σ (own.map (·.2))) H3 fun H' => Q (.ref D) H' := by
    obtain ⟨W, w0, turn⟩ := w
    have ww : wipe (wipe σ (own.map (·.2))) (own.map (·.2)) = wipe σ (own.map (·.2)) := off_wipe (sl := own.map (·.2)) (fun _ h => h) ⟨rfl, fun _ _ => rfl⟩
    exact ⟨W, w0, by rw [ww]; exact turn⟩
  have loop : codeAny (model X.prog X.w) X.A (.compLoop e 0 (.ref it) (.ref D) ce) (compPost (model X.prog X.w) X.A X.xe use Qf (.ref D) s3.heap.objs.size) s4 := by
    refine loop_inv (Y := X.blk s3 H3 scope ce fp) (fun e z h => h) hc hv (hl it _) pg pt hB T I4 st4 f4 w' fun σ' H' s' I5 _ qq => ?_
    have I6 : Inv X pins σ H' s' := I3.call' (ch := fp) I5.os I5.base I5.hok I5.bare fun b hb => ⟨(f3 b hb).1.2.2.2.1, (f3 b hb).1.2.1, (f3 b hb).1.2.2.2.2.1, (f3 b hb).1.2.2.2.2.2⟩
    have nC : H' s3.heap.objs.size = none := by
      have z : H' ce.locals = none := I5.free
      rw [cL] at z
      exact z
    obtain ⟨m, hn, _⟩ := I5.loc
    have hn : s'.heap.Ns ce.locals m := hn
    rw [cL] at hn
    exact hRR D s3.heap.objs.size s' m H' I6 qq hn (I3.fpOk (Nat.le_refl _) nC)
  exact cp_start C rfl loop (T.self X.A 0 _ _ _ st4 loop)
end
end DL
end
section
namespace DL
open PySem PySem.Spec L2
open PyProof.Rows hiding St
section
variable {X : Cx}
/-- a comprehension that is stored into a name on its own line -/
structure Swp (X : Cx) (e : Expr) (t : TE) : Prop where
  run : ∀ {i : Nat} {y : Str} {py spos : Pos}, X.N[i]? = some y → X.env.scope.names.lookup y = some .local → swapsWith e (some (.Name y py)) spos.line X.env = pure true → PS X (.Assign [.Name y py] e spos) (tAsg t (gName i))
theorem Swp.mono {e : Expr} {t t' : TE} (h : Swp X e t) (hi : ∀ σ H Q, t' σ H Q → t σ H Q) : Swp X e t' := ⟨fun hy hl hs => ps_mono (h.run hy hl hs) fun D σ H q => hi _ _ _ q⟩
section
variable {e tg iter : Expr} {ifs : List Expr} {rest : List Comprehension} {emit : Value → PySem.Env → Sem Unit} {scope : Scope} {own : List (Str × Nat)} {pos' : Pos} {wi : TI} {g : TG} {tt : TT} {em : Addr → EM} {new : Sem Value} {ob : Obj} {o0 : Addr → HO}
theorem pe_cp (C : Cp e (⟨tg, iter, ifs, 0⟩ :: rest) emit) (nw : NewOb X new ob o0) (he : eval e X.env = comprehension e scope X.env pos' new false (eval iter X.env)) (hc : X.calm = true) (hN : X.N.Nodup) (hi : PI X tg iter wi) (ok : BlkOk X.N X.env.scope scope own)
    (hg : ∀ (s : Shared) (H : Hp) (C : Addr) (cl : List (Str × Addr)) (fp : List Addr), PG (X.blk s H scope (compEnvC scope cl C X.env) fp) tg g)
    (ht : ∀ (s : Shared) (H : Hp) (C : Addr) (cl : List (Str × Addr)) (fp : List Addr), PTs (X.blk s H scope (compEnvC scope cl C X.env) fp) ifs tt)
    (hb : ∀ (s : Shared) (H : Hp) (C : Addr) (cl : List (Str × Addr)) (fp : List Addr) (D : Addr), ClOk (X.blk s H scope (compEnvC scope cl C X.env) fp) e 0 tg ifs (.ref D) (own.map (·.2)) (em D))
    (hs : ∀ x, foldedSetIterable iter X.env x = pure x) : PE X e (tCp wi (own.map (·.2)) g tt em o0) := by
  refine ⟨fun pins s σ H Q I h => ?_⟩
  rw [he]
  refine cp_core C nw hc hN I hi ok hg ht hb hs h fun D C s' m H' I' q hn f => ⟨m, hn, fun h2 sb => ?_⟩
  obtain ⟨f0, f1, f2, f3, f4, f5⟩ := f
  exact ⟨.ref D, H', I'.turned (t' := s'.toks) (fun b o hb e => (sb.2 b hb).trans e) f0 f1 f3 f4 f5, rfl, q⟩
theorem swp_cp (C : Cp e (⟨tg, iter, ifs, 0⟩ :: rest) emit) (nw : NewOb X new ob o0) (he : ∀ f, evalThenUse e X.env f = (do let _ ← comprehension e scope X.env pos' new false (eval iter X.env) (some f))) (hc : X.calm = true) (hN : X.N.Nodup) (hi : PI X tg iter wi) (ok : BlkOk X.N X.env.scope scope own)
    (hg : ∀ (s : Shared) (H : Hp) (C : Addr) (cl : List (Str × Addr)) (fp : List Addr), PG (X.blk s H scope (compEnvC scope cl C X.env) fp) tg g)
    (ht : ∀ (s : Shared) (H : Hp) (C : Addr) (cl : List (Str × Addr)) (fp : List Addr), PTs (X.blk s H scope (compEnvC scope cl C X.env) fp) ifs tt)
    (hb : ∀ (s : Shared) (H : Hp) (C : Addr) (cl : List (Str × Addr)) (fp : List Addr) (D : Addr), ClOk (X.blk s H scope (compEnvC scope cl C X.env) fp) e 0 tg ifs (.ref D) (own.map (·.2)) (em D))
    (hs : ∀ x, foldedSetIterable iter X.env x = pure x) : Swp X e (tCp wi (own.map (·.2)) g tt em o0) := by
  refine ⟨fun {i y py spos} hy hyl hsw => ⟨fun pins s σ H D I h => ?_⟩⟩
  rw [exec_Assign_Name_used _ _ _ _ hsw]
  refine wpAny_bind (wpAny_standAt (wpAny_bind ?_))
  rw [he]
  have h : tCp wi (own.map (·.2)) g tt em o0 σ H (fun x H1 => gName i x σ H1 D.nx) := h
  refine wpAny_bind (thn (cp_core (Qf := fun _ z => SP X pins D .next z) C nw hc hN I hi ok hg ht hb hs h fun L C s' m H' I' q hn f => ?_) fun _ z q => wpAny_pure (wpAny_pure q))
  show wpAny _ _ (assign (.Name y py) X.env (.ref L)) _ _ _
  refine wpAny_assign_Name (store_ok2 (v := V.ref L) I' hN hy (.inl hyl) rfl (fun s2 I2 ⟨a, sb, ha⟩ => ?_) (.inr hyl))
  obtain ⟨f0, f1, f2, f3, f4, f5⟩ := f
  have hCa : C ≠ a := ha.elim (fun z => by rw [z]; exact f1) fun z e => f4 y a z e.symm
  refine ⟨m, hn.sameBut sb hCa, fun h3 sb3 => ⟨_, H', I2.turned (t' := s2.toks) (fun b o hb e => (sb3.2 b hb).trans e) f0 f1 f3 f4 f5, q⟩⟩
end
/-! the new object -/
theorem new_list : NewOb X (newList []) { cls := .type "list", data := .seq ([] : List Value).toArray } (fun _ => .lst []) :=
  ⟨fun s Q E h => wpAny_newObj_type h (by show 0 ≤ sizeLine; decide), fun H h _ => ⟨Nat.zero_le _, [], 0, .nil, Heap.get?_push_size _ rfl⟩⟩
theorem new_dict : NewOb X newDict { cls := .type "dict", data := .dict #[] } (fun _ => .dK []) :=
  ⟨fun s Q E h => wpAny_newObj_type h, fun H h hb => dk_empty h hb⟩
theorem new_set : NewOb X (newSet (.type "set")) { cls := .type "set", dict := none, data := .set #[] 0 (.fresh 0 0 (!X.w.params.followText "set-order")) } (fun D => SetOO X.w D []) := by
  refine ⟨fun s Q E h => PpSet.newSet_ok h, fun H h hb => ⟨?_, ⟨_, Heap.get?_push_size _ rfl⟩, fun h1 h2 p k => ?_⟩⟩
  · refine ⟨_, #[], 0, _, [], Heap.get?_push_size _ rfl, ⟨rfl, rfl, rfl⟩, rfl, List.Perm.nil, .nil, by decide, by rfl, List.Pairwise.nil, ?_⟩
    show _ ∨ (!X.w.params.followText "set-order") = true
    cases X.w.params.followText "set-order"
    · exact .inr rfl
    · exact .inl rfl
  · obtain ⟨o, es, ep, t, ms, q1, q2⟩ := p
    exact ⟨o, es, ep, t, ms, k _ q1, q2⟩
/-! swapsWith -/
def scopeOf : Expr → Option Scope
  | .ListComp _ _ s _ => some s
  | .SetComp _ _ s _ => some s
  | .DictComp _ _ _ s _ => some s
  | _ => none
theorem sw_comp {e : Expr} {scope : Scope} {py : Pos} {y : Str} {l : Nat} {env : PySem.Env} (he : scopeOf e = some scope) (hk : env.scope.kind = .function) (hy : env.scope.names.lookup y = some .local) (hl : (py.line == e.pos.line) = true)
    (ha : (scope.names.any fun (n, k) => n == y && (k == .local || k == .cell)) = false) : swapsWith e (some (.Name y py)) l env = pure true := by
  have ky : env.kindOf y = some .local := hy
  have hb : env.blockKind = .function := by unfold PySem.Env.blockKind; rw [hk]; rfl
  have go : ∀ e', scopeOf e' = some scope → (py.line == e'.pos.line) = true → swapsWith e' (some (.Name y py)) l env = pure true := by
    intro e' he hl
    cases e' <;> first
      | cases he; done
      | (cases he
         unfold swapsWith
         simp only [hb, ky, ha, hl]
         rfl)
  exact go e he hl
end
end DL
end
section
namespace DL
open PySem PySem.Spec L2
open PyProof.Rows hiding St

/-! ### comprehensions by their data -/
def lpL (vs : List Nat) (g : MG) (tt : M Bool) (body : D → M D) : List D → D → M D
  | [], a, ρ => .ok a ρ
  | d :: ds, a, ρ => match g d ρ with
    | none => .stuck
    | some ρ1 => (tt ρ1).noX.bind fun b ρ2 => if b then (body a ρ2).bind fun a' ρ3 => lpL vs g tt body ds a' (wipeE ρ3 vs) else lpL vs g tt body ds a (wipeE ρ2 vs)
/-- a clause behind the first -/
def clB (f : M (List D)) (vs : List Nat) (g : MG) (tt : M Bool) (body : D → M D) : D → M D := fun a ρ => (f ρ).noX.bind fun ds ρ1 => if lenOk ds.length then lpL vs g tt body ds a (wipeE ρ1 vs) else .stuck
def eCp (f : M (List D)) (vs : List Nat) (g : MG) (tt : M Bool) (body : D → M D) (a0 : D) : M D := f.bind fun ds ρ1 => if lenOk ds.length then (lpL vs g tt body ds a0 (wipeE ρ1 vs)).noX.bind fun a ρ2 => .ok a (restE ρ1 ρ2 vs) else .stuck
def emL (elt : M D) : D → M D := fun a ρ => (elt ρ).noX.bind fun y ρ' => match a with
  | .lst ys => if lenOk (ys.length + 1) then .ok (.lst (ys ++ [y])) ρ' else .stuck
  | _ => .stuck
section
variable {X : Cx} {fr : Fx} {W : WX} {σ σ1 : L2.St} {H H1 H' : Hp} {ρ ρ' ρ1 ρ2 : DL.Env} {D0 : Addr} {o o' : HO} {a : D}
theorem ER.makingO (E : ER fr.toFr σ H ρ) (hD : H D0 = none) : ER (fr.xp (Xd fr D0)).toFr σ (upd H D0 o) ρ := by
  have hg : ∀ b x, Good fr.toFr σ b → H b = some x → Good (fr.xp (Xd fr D0)).toFr σ b ∧ (upd H D0 o) b = some x := fun b x g q => by
    have hb : b ≠ D0 := ne_of_none q hD
    exact ⟨⟨g.1, g.2.1, fun z => z.elim g.2.2 hb⟩, by rw [upd_ne hb]; exact q⟩
  have sm := same_upd (o := o) hD
  refine ⟨E.len, fun i d h1 h2 => ?_, fun i d h1 h2 => ?_, E.nn, E.ne, E.par, E.step.trans (Stp.same sm), fun b h => ?_⟩
  · obtain ⟨v, h3, h4⟩ := E.pl i d h1 h2
    exact ⟨v, h3, Rp.move hg (fun b xs q => sm b _ q) (fun b ob u q => sm b _ q) d v h4⟩
  · obtain ⟨b, h3, h4, h5⟩ := E.ow i d h1 h2
    exact ⟨b, h3, h4.move (fun x q => sm _ _ q) hg (fun b xs q => sm b _ q) (fun b ob u q => sm b _ q), h5⟩
  · rcases h with h | h
    · exact ⟨(E.xt b h).1.imp fun x q => sm _ _ q, (E.xt b h).2⟩
    · subst h
      exact ⟨⟨_, upd_same⟩, fun z => by
        obtain ⟨x, q, _⟩ := E.owned z
        rw [hD] at q
        cases q⟩
theorem ER.moreO (E : ER (fr.xp (Xd fr D0)).toFr σ H ρ) (hD : H D0 = some o) (t : Trk o) (hF : fr.F D0 = none) : ER (fr.xp (Xd fr D0)).toFr σ (upd H D0 o') ρ := by
  have hg : ∀ b x, Good (fr.xp (Xd fr D0)).toFr σ b → H b = some x → Good (fr.xp (Xd fr D0)).toFr σ b ∧ (upd H D0 o') b = some x := fun b x g q => by
    have hb : b ≠ D0 := fun z => g.2.2 (.inr z)
    exact ⟨g, by rw [upd_ne hb]; exact q⟩
  have ht : ∀ b xs, H b = some (.tup xs) → (upd H D0 o') b = some (.tup xs) := fun b xs q => by rw [upd_ne (ne_of q hD (Ne.symm (t.2.1 xs)))]; exact q
  have hf : ∀ b ob u, H b = some (.frz ob u) → (upd H D0 o') b = some (.frz ob u) := fun b ob u q => by rw [upd_ne (ne_of q hD (Ne.symm (t.2.2 ob u)))]; exact q
  refine ⟨E.len, fun i d h1 h2 => ?_, fun i d h1 h2 => ?_, E.nn, E.ne, E.par, ⟨fun b x h n => ?_, fun b xs h => ht _ _ (E.step.t b xs h), fun b ob u h => hf _ _ _ (E.step.f b ob u h)⟩, fun b h => ⟨?_, (E.xt b h).2⟩⟩
  · obtain ⟨v, h3, h4⟩ := E.pl i d h1 h2
    exact ⟨v, h3, Rp.move hg ht hf d v h4⟩
  · obtain ⟨b, h3, h4, h5⟩ := E.ow i d h1 h2
    have hb : b ≠ D0 := fun z => (E.xt D0 (.inr rfl)).2 ⟨i, h2, z ▸ h3⟩
    exact ⟨b, h3, h4.move (fun x q => by rw [upd_ne hb]; exact q) hg ht hf, h5⟩
  · have hb : b ≠ D0 := fun z => by
      subst z
      have hF' : fr.F b = none := hF
      have h' : fr.F b = some x := h
      rw [hF'] at h'
      cases h'
    rw [upd_ne hb]
    exact E.step.k b x h n
  · by_cases hb : b = D0
    · subst hb
      exact ⟨_, upd_same⟩
    · obtain ⟨x, q⟩ := (E.xt b h).1
      exact ⟨x, by rw [upd_ne hb]; exact q⟩
theorem ER.madeO (E : ER (fr.xp (Xd fr D0)).toFr σ H ρ) (hD : H D0 = some o) (t : Trk o) (hF : fr.F D0 = none) (hX : ¬ fr.X D0) : ER fr.toFr σ (hide H D0) ρ := by
  have hg : ∀ b x, Good (fr.xp (Xd fr D0)).toFr σ b → H b = some x → Good fr.toFr σ b ∧ hide H D0 b = some x := fun b x g q => by
    have hb : b ≠ D0 := fun z => g.2.2 (.inr z)
    exact ⟨⟨g.1, g.2.1, fun z => g.2.2 (.inl z)⟩, by rw [hide_ne hb]; exact q⟩
  have ht : ∀ b xs, H b = some (.tup xs) → hide H D0 b = some (.tup xs) := fun b xs q => by rw [hide_ne (ne_of q hD (Ne.symm (t.2.1 xs)))]; exact q
  have hf : ∀ b ob u, H b = some (.frz ob u) → hide H D0 b = some (.frz ob u) := fun b ob u q => by rw [hide_ne (ne_of q hD (Ne.symm (t.2.2 ob u)))]; exact q
  refine ⟨E.len, fun i d h1 h2 => ?_, fun i d h1 h2 => ?_, E.nn, E.ne, E.par, ⟨fun b x h n => ?_, fun b xs h => ht _ _ (E.step.t b xs h), fun b ob u h => hf _ _ _ (E.step.f b ob u h)⟩, fun b h => ?_⟩
  · obtain ⟨v, h3, h4⟩ := E.pl i d h1 h2
    exact ⟨v, h3, Rp.move hg ht hf d v h4⟩
  · obtain ⟨b, h3, h4, h5⟩ := E.ow i d h1 h2
    have hb : b ≠ D0 := fun z => (E.xt D0 (.inr rfl)).2 ⟨i, h2, z ▸ h3⟩
    exact ⟨b, h3, h4.move (fun x q => by rw [hide_ne hb]; exact q) hg ht hf, h5⟩
  · have hb : b ≠ D0 := fun z => by
      subst z
      have hF' : fr.F b = none := hF
      have h' : fr.F b = some x := h
      rw [hF'] at h'
      cases h'
    rw [hide_ne hb]
    exact E.step.k b x h n
  · have hb : b ≠ D0 := fun z => hX (z ▸ h)
    obtain ⟨⟨x, q⟩, n⟩ := E.xt b (.inl h)
    exact ⟨⟨x, by rw [hide_ne hb]; exact q⟩, n⟩
/-- but for what is owned, and D0 -/
abbrev St0 (fr : Fx) (D0 : Addr) (σ : L2.St) (H H' : Hp) : Prop := Stp (fun b => Owned fr.toFr σ b ∨ b = D0) H H'
/-- what a body promises: em is reached where the data say so -/
def BD (fr : Fx) (D0 : Addr) (vs : List Nat) (body : D → M D) (em : EM) : Prop := ∀ (σ : L2.St) (H : Hp) (N : Hp → Prop) (ρ : DL.Env) (a : D) (o : HO), ER (fr.xp (Xd fr D0)).toFr σ H ρ → H D0 = some o → Ob fr.w fr.K (Good (fr.xp (Xd fr D0)).toFr σ) H a D0 o →
  wpR (body a ρ) (fun a' ρ' => ∀ H' o', ER (fr.xp (Xd fr D0)).toFr (wipe σ vs) H' ρ' → St0 fr D0 σ H H' → H' D0 = some o' → Ob fr.w fr.K (Good (fr.xp (Xd fr D0)).toFr σ) H' a' D0 o' → N H') (fun _ _ => False) → em σ H N
theorem wipe_wipe {σ2 : L2.St} {vs vs1 : List Nat} (h : ∀ j, j ∈ vs1 → j ∈ vs) (e : wipe σ2 vs = wipe σ vs) : wipe (wipe σ2 vs1) vs = wipe σ vs := by
  rw [← e]
  apply List.ext_getElem?
  intro i
  by_cases hi : i ∈ vs
  · by_cases hl : i < σ2.length
    · rw [wV.2 hi (by rw [wipe_len]; exact hl), wV.2 hi hl]
    · rw [List.getElem?_eq_none (by rw [wipe_len, wipe_len]; omega), List.getElem?_eq_none (by rw [wipe_len]; omega)]
  · rw [wV.1 hi, wV.1 hi, wV.1 fun z => hi (h i z)]
theorem xp_wipe {vs : List Nat} (hf : Free fr.toFr vs) {b : Addr} : Good (fr.xp (Xd fr D0)).toFr (wipe σ vs) b ↔ Good (fr.xp (Xd fr D0)).toFr σ b := good_wipe (fr := fr.xp (Xd fr D0)) hf
theorem ob_wipe {vs : List Nat} (hf : Free fr.toFr vs) (h : Ob fr.w fr.K (Good (fr.xp (Xd fr D0)).toFr σ) H a D0 o) : Ob fr.w fr.K (Good (fr.xp (Xd fr D0)).toFr (wipe σ vs)) H a D0 o := h.move (fun b x g q => ⟨(xp_wipe hf).mpr g, q⟩) (fun _ _ q => q) fun _ _ _ q => q
theorem ob_unwipe {vs : List Nat} (hf : Free fr.toFr vs) (h : Ob fr.w fr.K (Good (fr.xp (Xd fr D0)).toFr (wipe σ vs)) H a D0 o) : Ob fr.w fr.K (Good (fr.xp (Xd fr D0)).toFr σ) H a D0 o := h.move (fun b x g q => ⟨(xp_wipe hf).mp g, q⟩) (fun _ _ q => q) fun _ _ _ q => q
theorem lp_of {vs vs1 sl : List Nat} {g : MG} {tt : M Bool} {body : D → M D} {em : EM} {J : It} {N : Hp → Prop} {H0 : Hp} {ds : List D} (hf : Free fr.toFr vs) (hsl : ∀ i, i ∈ sl → i ∈ vs) (hv : ∀ j, j ∈ vs1 → j ∈ vs) (it : ItOk fr.K J ds (Good (fr.xp (Xd fr D0)).toFr σ) H0)
    (hb : BD fr D0 vs1 body em) (hF : fr.F D0 = none) (E0 : ER (fr.xp (Xd fr D0)).toFr (wipe σ vs) H0 ρ) (hD0 : H0 D0 = some o) (ob0 : Ob fr.w fr.K (Good (fr.xp (Xd fr D0)).toFr σ) H0 a D0 o)
    (h : wpR (lpL vs g tt body ds a ρ) (fun a' ρ' => ∀ H' o', ER (fr.xp (Xd fr D0)).toFr (wipe σ vs) H' ρ' → St0 fr D0 σ H0 H' → H' D0 = some o' → Ob fr.w fr.K (Good (fr.xp (Xd fr D0)).toFr σ) H' a' D0 o' → N H') (fun _ _ => False)) :
    tLp vs J (gEx fr sl g) (tEx fr tt) em σ H0 N := by
  have keep : ∀ {H : Hp}, St0 fr D0 σ H0 H → Keep (Good (fr.xp (Xd fr D0)).toFr σ) H0 H := fun s => ⟨fun b x g q => s.k b x q fun z => z.elim g.2.1 fun e => g.2.2 (.inr e), s.t, s.f⟩
  have hO : ∀ b, Owned (fr.xp (Xd fr D0)).toFr (wipe σ vs) b ↔ Owned fr.toFr σ b := fun b => own_wipe (fr := fr.xp (Xd fr D0)) hf
  refine ⟨fun i m H => m = ds.length - i ∧ i ≤ ds.length ∧ St0 fr D0 σ H0 H ∧ ∃ (ρ : DL.Env) (a : D) (o : HO), ER (fr.xp (Xd fr D0)).toFr (wipe σ vs) H ρ ∧ H D0 = some o ∧ Ob fr.w fr.K (Good (fr.xp (Xd fr D0)).toFr σ) H a D0 o ∧
    wpR (lpL vs g tt body (ds.drop i) a ρ) (fun a' ρ' => ∀ H' o', ER (fr.xp (Xd fr D0)).toFr (wipe σ vs) H' ρ' → St0 fr D0 σ H0 H' → H' D0 = some o' → Ob fr.w fr.K (Good (fr.xp (Xd fr D0)).toFr σ) H' a' D0 o' → N H') (fun _ _ => False),
    ⟨_, rfl, Nat.zero_le _, Stp.refl, ρ, a, o, E0, hD0, ob0, h⟩, ?_⟩
  rintro i m H ⟨rfl, hi, s, ρ, a, o, E, eD, ob, hw⟩
  by_cases hlt : i < ds.length
  · right
    rw [List.drop_eq_getElem_cons hlt] at hw
    refine ⟨it.go i H (keep s) hlt, fun H' => St0 fr D0 σ H0 H' ∧ ∃ (ρ : DL.Env) (a : D) (o : HO), ER (fr.xp (Xd fr D0)).toFr (wipe σ vs) H' ρ ∧ H' D0 = some o ∧ Ob fr.w fr.K (Good (fr.xp (Xd fr D0)).toFr σ) H' a D0 o ∧
      wpR (lpL vs g tt body (ds.drop (i + 1)) a ρ) (fun a' ρ' => ∀ H' o', ER (fr.xp (Xd fr D0)).toFr (wipe σ vs) H' ρ' → St0 fr D0 σ H0 H' → H' D0 = some o' → Ob fr.w fr.K (Good (fr.xp (Xd fr D0)).toFr σ) H' a' D0 o' → N H') (fun _ _ => False),
      fun H' ⟨s', ρ', a', o', h1, h2, h3, h4⟩ => ⟨_, by omega, rfl, hlt, s', ρ', a', o', h1, h2, h3, h4⟩, fun x H2 y => ?_⟩
    obtain ⟨sm, rx⟩ := it.yld i H x H2 _ (keep s) (List.getElem?_eq_getElem hlt) y
    have rx := rx (Good (fr.xp (Xd fr D0)).toFr (wipe σ vs)) (fun b o g q => (xp_wipe hf).mpr g) fun b hb => E.free hb
    cases hgd : g ds[i] ρ with
    | none => simp only [lpL, hgd] at hw; exact hw.elim
    | some ρ2 =>
      simp only [lpL, hgd] at hw
      refine ⟨_, _, ρ, ρ2, E.same sm, rx, hgd, fun σ2 H3 E3 s3 o3 => ⟨off_wipe hsl o3, _, ρ2, E3, ?_⟩⟩
      have ew := off_wipe hsl o3
      have nD : ¬ Owned (fr.xp (Xd fr D0)).toFr (wipe σ vs) D0 := (E.xt D0 (.inr rfl)).2
      have sD3 : H3 D0 = some o := (s3.k D0 _ (sm _ _ eD) nD).1
      have hO2 : ∀ b, Owned (fr.xp (Xd fr D0)).toFr σ2 b ↔ Owned fr.toFr σ b := fun b => by
        rw [← own_wipe (fr := fr.xp (Xd fr D0)) (σ := σ2) hf, ew]
        exact hO b
      have s03 : St0 fr D0 σ H0 H3 := (s.trans (Stp.same sm)).trans ⟨fun b o q n => (s3.k b o q fun z => n (.inl ((hO b).mp z))).1, s3.t, s3.f⟩
      have gg : ∀ b, Good (fr.xp (Xd fr D0)).toFr σ b ↔ Good (fr.xp (Xd fr D0)).toFr σ2 b := fun b => by
        rw [← xp_wipe (σ := σ2) hf, ew]
        exact (xp_wipe hf).symm
      have ob3 : Ob fr.w fr.K (Good (fr.xp (Xd fr D0)).toFr σ2) H3 a D0 o := ob.move (fun b x gb q => ⟨(gg b).mp gb, (s3.k b _ (sm _ _ q) fun z => gb.2.1 ((hO b).mp z)).1⟩) (fun b xs q => s3.t b xs (sm _ _ q)) fun b ob u q => s3.f b ob u (sm _ _ q)
      refine wpR.mono (noX_wp (Qe' := Ex (fr.xp (Xd fr D0)) W0 σ2) (wpR.of_bind hw)) (fun bb ρ3 q H4 E4 s4 => ?_) fun _ _ q => q
      have sD4 : H4 D0 = some o := s4.k D0 _ sD3 fun z => nD ((hO D0).mpr ((hO2 D0).mp z))
      have s04 : St0 fr D0 σ H0 H4 := s03.trans (s4.mono fun b z => .inl ((hO2 b).mp z))
      have ob4 : Ob fr.w fr.K (Good (fr.xp (Xd fr D0)).toFr σ2) H4 a D0 o := ob3.move (fun b x gb q => ⟨gb, s4.k b _ q fun z => gb.2.1 z⟩) s4.t s4.f
      cases bb with
      | false =>
        refine (if_neg Bool.false_ne_true).mpr ⟨s04, wipeE ρ3 vs, a, o, ?_, sD4, ob4.move (fun b x gb q => ⟨(gg b).mpr gb, q⟩) (fun _ _ q => q) (fun _ _ _ q => q), q⟩
        have := ER.wipe (fr := fr.xp (Xd fr D0)) (own := vs) E4 hf
        rwa [ew] at this
      | true =>
        refine (if_pos rfl).mpr (hb σ2 H4 _ ρ3 a o E4 sD4 ob4 ?_)
        have q : wpR ((body a ρ3).bind _) _ _ := q
        refine wpR.mono (wpR.of_bind q) (fun a' ρ5 q H5 o5 E5 s5 eD5 ob5 => ?_) fun _ _ q => q
        have s05 : St0 fr D0 σ H0 H5 := s04.trans (s5.mono fun b z => z.elim (fun z => .inl ((hO2 b).mp z)) .inr)
        refine ⟨s05, wipeE ρ5 vs, a', o5, ?_, eD5, ob5.move (fun b x gb q => ⟨(gg b).mpr gb, q⟩) (fun _ _ q => q) (fun _ _ _ q => q), q⟩
        have := ER.wipe (fr := fr.xp (Xd fr D0)) (own := vs) E5 hf
        rwa [wipe_wipe hv ew] at this
  · left
    have hi' : i = ds.length := by omega
    subst hi'
    rw [List.drop_length] at hw
    exact ⟨it.stop _ H (keep s) (Nat.le_refl _), hw H o E s eD ob⟩
end
end DL
end
section
namespace DL
open PySem PySem.Spec L2
open PyProof.Rows hiding St
section
variable {X Y : Cx} {fr : Fx} {W : WX} {σ σ1 : L2.St} {H H1 H' : Hp} {ρ ρ' ρ1 ρ2 : DL.Env} {D0 : Addr} {o o' : HO} {a : D}
def iEx (fr : Fx) (f : M (List D)) : TI := fun σ H R => ∃ xp, tI (fr.xp xp) W0 f σ H R
theorem bd_mid {vs vs1 sl : List Nat} {f : M (List D)} {g : MG} {tt : M Bool} {body : D → M D} {em : EM} (hf : Free fr.toFr vs) (hsl : ∀ i, i ∈ sl → i ∈ vs) (hv : ∀ j, j ∈ vs1 → j ∈ vs) (hF : fr.F D0 = none) (hb : BD fr D0 vs1 body em) :
    BD fr D0 vs (clB f vs g tt body) (tCl (iEx fr f) vs (gEx fr sl g) (tEx fr tt) em) := by
  intro σ H N ρ a o E eD ob h
  have h : wpR ((f ρ).noX.bind _) _ _ := h
  refine ⟨Xd fr D0, ρ, E, wpR.mono (noX_wp (Qe' := Ex (fr.xp (Xd fr D0)) W0 σ) (wpR.of_bind h)) (fun ds ρ1 q J H1 E1 s1 it => ?_) fun _ _ q => q⟩
  by_cases hz : lenOk ds.length = true
  · rw [if_pos hz] at q
    have nD : ¬ Owned (fr.xp (Xd fr D0)).toFr σ D0 := (E.xt D0 (.inr rfl)).2
    have eD1 : H1 D0 = some o := s1.k D0 _ eD nD
    have ob1 : Ob fr.w fr.K (Good (fr.xp (Xd fr D0)).toFr σ) H1 a D0 o := ob.move (fun b x gb q => ⟨gb, s1.k b _ q fun z => gb.2.1 z⟩) s1.t s1.f
    refine lp_of (fr := fr) hf hsl hv it hb hF (ER.wipe (fr := fr.xp (Xd fr D0)) (own := vs) E1 hf) eD1 ob1 (wpR.mono q (fun a' ρ' q H2 o2 E2 s2 eD2 ob2 => q H2 o2 E2 (Stp.trans (s1.mono fun b z => .inl z) s2) eD2 ob2) fun _ _ q => q)
  · rw [if_neg hz] at q
    exact q.elim
/-- the last step of a list -/
def emLst (fr : Fx) (te : M D) (D : Addr) : EM := fun σ H N => eEx fr te σ H fun y H1 => ∃ acc, H1 D = some (.lst acc) ∧ acc.length < sizeLine ∧ N (upd H1 D (.lst (acc ++ [y])))
theorem bd_list {te : M D} (hF : fr.F D0 = none) : BD fr D0 [] (emL te) (emLst fr te D0) := by
  intro σ H N ρ a o E eD ob h
  have h : wpR ((te ρ).noX.bind _) _ _ := h
  refine ⟨Xd fr D0, ρ, E, wpR.mono (noX_wp (Qe' := Ex (fr.xp (Xd fr D0)) W0 σ) (wpR.of_bind h)) (fun y ρ1 q v H1 E1 s1 r1 => ?_) fun _ _ q => q⟩
  have nD : ¬ Owned (fr.xp (Xd fr D0)).toFr σ D0 := (E.xt D0 (.inr rfl)).2
  have eD1 : H1 D0 = some o := s1.k D0 _ eD nD
  have ob1 : Ob fr.w fr.K (Good (fr.xp (Xd fr D0)).toFr σ) H1 a D0 o := ob.move (fun b x gb q => ⟨gb, s1.k b _ q fun z => gb.2.1 z⟩) s1.t s1.f
  cases a with
  | lst ys =>
    obtain ⟨z, vs, rfl, r⟩ := ob1
    dsimp only at q
    by_cases hl : lenOk (ys.length + 1) = true
    · rw [if_pos hl] at q
      have hl' := lenOk_iff.mp hl
      have hlen := r.length
      refine ⟨vs, eD1, by omega, ?_⟩
      have ht : ∀ b xs, H1 b = some (.tup xs) → (upd H1 D0 (.lst (vs ++ [v]))) b = some (.tup xs) := fun b xs q => by rw [upd_ne (ne_of q eD1 (by intro z; cases z))]; exact q
      have hz : ∀ b ob u, H1 b = some (.frz ob u) → (upd H1 D0 (.lst (vs ++ [v]))) b = some (.frz ob u) := fun b ob u q => by rw [upd_ne (ne_of q eD1 (by intro z; cases z))]; exact q
      refine q _ (.lst (vs ++ [v])) (E1.moreO eD1 trk_lst hF) ((s1.mono fun b z => .inl z).trans ⟨fun b x q n => by rw [upd_ne fun z => n (.inr z)]; exact q, ht, hz⟩) upd_same ⟨by simpa using hl', _, rfl, ?_⟩
      exact RpL.move (fun b x gb q => ⟨gb, by rw [upd_ne fun z => gb.2.2 (.inr z)]; exact q⟩) ht hz _ _ (RpL.append r (RpL.cons r1 RpL.nil))
    · rw [if_neg hl] at q
      exact q.elim
  | _ => exact q.elim
/-- a comprehension as an expression, and as what is stored -/
structure DC (X : Cx) (fr : Fx) (W : WX) (e : Expr) (f : M D) : Prop where
  pe : DF X fr W e f
  sw : Swp X e (tF fr W f)
theorem it_up {K : PySem.W.Frag} {J : It} {ds : List D} (it : ItOk K J ds (Good fr.toFr σ) H1) (hD : H1 D0 = none) : ItOk K J ds (Good (fr.xp (Xd fr D0)).toFr σ) (upd H1 D0 o) := by
  have up : ∀ b x, H1 b = some x → upd H1 D0 o b = some x := fun b x q => by rw [upd_ne (ne_of_none q hD)]; exact q
  have gg : ∀ b x, Good fr.toFr σ b → H1 b = some x → Good (fr.xp (Xd fr D0)).toFr σ b := fun b x g q => ⟨g.1, g.2.1, fun z => z.elim g.2.2 (ne_of_none q hD)⟩
  have kk : ∀ {H : Hp}, Keep (Good (fr.xp (Xd fr D0)).toFr σ) (upd H1 D0 o) H → Keep (Good fr.toFr σ) H1 H := fun s => ⟨fun b x g q => s.k b x (gg b x g q) (up b x q), fun b xs q => s.t b xs (up _ _ q), fun b ob u q => s.f b ob u (up _ _ q)⟩
  exact ⟨fun i H s hi => it.go i H (kk s) hi, fun i H x H' d s hd y => ⟨(it.yld i H x H' d (kk s) hd y).1, fun G h1 h2 => (it.yld i H x H' d (kk s) hd y).2 G (fun b x g q => h1 b x (gg b x g q) (up _ _ q)) h2⟩, fun i H s hi => it.stop i H (kk s) hi⟩
theorem tcp_of {Q : VK} {vs vs1 sl : List Nat} {f : M (List D)} {g : MG} {tt : M Bool} {body : D → M D} {a0 : D} {em : Addr → EM} {o0 : Addr → HO} (hf : Free fr.toFr vs) (hsl : ∀ i, i ∈ sl → i ∈ vs) (hv : ∀ j, j ∈ vs1 → j ∈ vs)
    (hb : ∀ D, fr.F D = none → BD fr D vs1 body (em D)) (h0 : ∀ D G H, Ob fr.w fr.K G H a0 D (o0 D)) (h : tF fr W (eCp f vs g tt body a0) σ H Q) : tCp (tI fr W f) vs (gEx fr sl g) (tEx fr tt) em o0 σ H Q := by
  obtain ⟨ρ, E, h⟩ := h
  refine ⟨ρ, E, wpR.mono (wpR.of_bind (r := f ρ) h) (fun ds ρ1 q J H1 E1 s1 it D0 hD => ?_) fun _ _ q => q⟩
  by_cases hz : lenOk ds.length = true
  · rw [if_pos hz] at q
    have hF := E1.free0 hD
    have hX : ¬ fr.X D0 := fun z => by
      obtain ⟨⟨o, e⟩, _⟩ := E1.xt D0 z
      rw [hD] at e
      cases e
    have sm := same_upd (o := o0 D0) hD
    refine lp_of (fr := fr) hf hsl hv (it_up it hD) (hb D0 hF) hF (ER.wipe (fr := fr.xp (Xd fr D0)) (own := vs) (E1.makingO hD) hf) upd_same (h0 D0 _ _) (wpR.mono (noX_wp (Qe' := fun _ _ => False) (wpR.of_bind q)) (fun a' ρ2 q H2 o2 E2 s2 eD2 ob2 => ?_) fun _ _ q => q)
    have t2 := ob2.trk
    have E3 := ER.madeO E2 eD2 t2 hF hX
    have ht : ∀ b xs, H2 b = some (.tup xs) → hide H2 D0 b = some (.tup xs) := fun b xs q => by rw [hide_ne (ne_of q eD2 (Ne.symm (t2.2.1 xs)))]; exact q
    have hfz : ∀ b ob u, H2 b = some (.frz ob u) → hide H2 D0 b = some (.frz ob u) := fun b ob u q => by rw [hide_ne (ne_of q eD2 (Ne.symm (t2.2.2 ob u)))]; exact q
    have s3 : Stp (Owned fr.toFr σ) H1 (hide H2 D0) := ⟨fun b x q n => by rw [hide_ne (ne_of_none q hD)]; exact s2.k b x (sm _ _ q) fun z => z.elim n (ne_of_none q hD), fun b xs q => ht _ _ (s2.t b xs (sm _ _ q)), fun b ob u q => hfz _ _ _ (s2.f b ob u (sm _ _ q))⟩
    refine q D0 (hide H2 D0) H2 o2 (E1.rest E3 hf s3) (s1.trans s3) hide_same (fun b x q => ?_) eD2 (ob2.move (fun b x g q => ?_) ht hfz)
    · by_cases hb : b = D0
      · subst hb; rw [hide_same] at q; cases q
      · rwa [hide_ne hb] at q
    · have hb : b ≠ D0 := fun z => g.2.2 (.inr z)
      exact ⟨⟨g.1, g.2.1, fun z => g.2.2 (.inl z)⟩, by rw [hide_ne hb]; exact q⟩
  · rw [if_neg hz] at q
    exact q.elim
theorem dc_cp {e tg iter : Expr} {ifs : List Expr} {rest : List Comprehension} {emit : Value → PySem.Env → Sem Unit} {scope : Scope} {own : List (Str × Nat)} {pos' : Pos} {new : Sem Value} {ob : Obj} {o0 : Addr → HO} {vs1 sl : List Nat} {f : M (List D)} {g : MG} {tt : M Bool} {body : D → M D} {a0 : D} {em : Addr → EM}
    (C : Cp e (⟨tg, iter, ifs, 0⟩ :: rest) emit) (nw : NewOb X new ob o0) (he : eval e X.env = comprehension e scope X.env pos' new false (eval iter X.env)) (he2 : ∀ f, evalThenUse e X.env f = (do let _ ← comprehension e scope X.env pos' new false (eval iter X.env) (some f)))
    (hc : X.calm = true) (hN : X.N.Nodup) (hi : DI X fr W tg iter f) (ok : BlkOk X.N X.env.scope scope own) (hf : Free fr.toFr (own.map (·.2))) (hsl : ∀ i, i ∈ sl → i ∈ own.map (·.2)) (hv : ∀ j, j ∈ vs1 → j ∈ own.map (·.2))
    (hg : ∀ (s : Shared) (H : Hp) (C : Addr) (cl : List (Str × Addr)) (fp : List Addr) (xp : Addr → Prop), DG (X.blk s H scope (compEnvC scope cl C X.env) fp) (fr.xp xp) sl tg g)
    (ht : ∀ (s : Shared) (H : Hp) (C : Addr) (cl : List (Str × Addr)) (fp : List Addr) (xp : Addr → Prop), DTs (X.blk s H scope (compEnvC scope cl C X.env) fp) (fr.xp xp) W0 ifs tt)
    (hb : ∀ (s : Shared) (H : Hp) (C : Addr) (cl : List (Str × Addr)) (fp : List Addr) (D : Addr), ClOk (X.blk s H scope (compEnvC scope cl C X.env) fp) e 0 tg ifs (.ref D) (own.map (·.2)) (em D))
    (hB : ∀ D, fr.F D = none → BD fr D vs1 body (em D)) (h0 : ∀ D G H, Ob fr.w fr.K G H a0 D (o0 D)) (hs : ∀ x, foldedSetIterable iter X.env x = pure x) : DC X fr W e (eCp f (own.map (·.2)) g tt body a0) := by
  have hg' : ∀ (s : Shared) (H : Hp) (C : Addr) (cl : List (Str × Addr)) (fp : List Addr), PG (X.blk s H scope (compEnvC scope cl C X.env) fp) tg (gEx fr sl g) := fun s H C cl fp => ⟨fun pins s' σ H v u Q I r ⟨xp, q⟩ => (hg s _ C cl fp xp).run pins s' σ H v u Q I r q⟩
  have ht' : ∀ (s : Shared) (H : Hp) (C : Addr) (cl : List (Str × Addr)) (fp : List Addr), PTs (X.blk s H scope (compEnvC scope cl C X.env) fp) ifs (tEx fr tt) := fun s H C cl fp => ⟨fun pins s' σ H Q I ⟨xp, q⟩ => (ht s _ C cl fp xp).run pins s' σ H Q I q⟩
  exact ⟨pe_mono (pe_cp C nw he hc hN hi ok hg' ht' hb hs) fun σ H Q h => tcp_of hf hsl hv hB h0 h, (swp_cp C nw he2 hc hN hi ok hg' ht' hb hs).mono fun σ H Q h => tcp_of hf hsl hv hB h0 h⟩
end
end DL
end
section
namespace DL
open PySem PySem.Spec L2
open PyProof.Rows hiding St

/-! ### sets whose members are ints, texts, truth values, None -/
/-- the value v, carried by itself, is the key k -/
inductive LeafV : V → NestedKey → Prop
  | non : LeafV .non .none
  | bl (b : Bool) : LeafV (.bl b) (.num (if b = true then 1 else 0))
  | int (i : Int) : LeafV (.int i) (.num i)
  | str (x : Str) : LeafV (.str x) (.text x)
abbrev Mems (w : World) : List (NestedKey × V) → List (Int × Value) → Prop := Paired fun (k : NestedKey × V) (e : Int × Value) => e.1 = k.1.hash w ∧ RelV k.2 e.2
def Leaves (ks : List (NestedKey × V)) : Prop := ∀ k ∈ ks, LeafV k.2 k.1
section
variable {P : Program} {w : World} {A : Around} {E : Value → Shared → Prop} {s : Shared} {a : Addr}
theorem LeafV.leaf {v : V} {k : NestedKey} (h : LeafV v k) : ∃ l : Leaf, l.key = k := by
  cases h with
  | non => exact ⟨.none, rfl⟩
  | bl b => exact ⟨.num _, rfl⟩
  | int i => exact ⟨.num i, rfl⟩
  | str x => exact ⟨.text x, rfl⟩
theorem LeafV.isOf {v : V} {k : NestedKey} {u : Value} {l : Leaf} (h : LeafV v k) (r : RelV v u) : (leafKind P w).is l u = true ↔ k = l.key := by
  show Leaf.isOf l u = true ↔ k = l.key
  cases h with
  | non =>
    cases r
    cases l <;> simp [Leaf.isOf, Leaf.key, Value.isStrOf]
  | bl b =>
    cases r
    cases l <;> simp [Leaf.isOf, Leaf.key, Value.isStrOf]
  | int i =>
    obtain ⟨t, rfl⟩ := r
    cases l <;> simp [Leaf.isOf, Leaf.key, Value.isStrOf]
  | str x =>
    obtain ⟨t, rfl⟩ := r
    cases l <;> simp [Leaf.isOf, Leaf.key, Value.isStrOf]
theorem LeafV.scan {v : V} {k : NestedKey} {u : Value} (h : LeafV v k) (r : RelV v u) : u.scannable = true := by
  cases h with
  | non => cases r; rfl
  | bl b => cases r; rfl
  | int i => obtain ⟨t, rfl⟩ := r; rfl
  | str x => obtain ⟨t, rfl⟩ := r; rfl
theorem mems_elems : ∀ {ms : List (NestedKey × V)} {es : List (Int × Value)}, Mems w ms es → Leaves ms → ElemsOf (leafKind P w) es
  | _, _, .nil, _ => fun e he => by cases he
  | m :: ms, e :: es, .cons r t, hl => fun e' he => by
    rcases List.mem_cons.mp he with rfl | he
    · have l1 := hl m (List.mem_cons_self ..)
      obtain ⟨l, hk⟩ := l1.leaf
      refine ⟨⟨l, (l1.isOf r.2).mpr hk.symm, ?_⟩, l1.scan r.2⟩
      rw [r.1]
      show _ = l.key.hash w
      rw [hk]
    · exact mems_elems t (fun k h => hl k (List.mem_cons_of_mem _ h)) e' he
theorem mems_find {l : Leaf} : ∀ {ms : List (NestedKey × V)} {es : List (Int × Value)}, Mems w ms es → Leaves ms → ((∃ e ∈ es, (leafKind P w).is l e.2 = true) ↔ l.key ∈ ms.map (·.1))
  | _, _, .nil, _ => by simp
  | m :: ms, e :: es, .cons r t, hl => by
    have l1 := hl m (List.mem_cons_self ..)
    have ih := mems_find (l := l) t fun k h => hl k (List.mem_cons_of_mem _ h)
    simp only [List.mem_cons, exists_eq_or_imp, List.map_cons, ih, l1.isOf r.2]
    exact ⟨fun h => h.imp Eq.symm id, fun h => h.imp Eq.symm id⟩
theorem Mems.perm {ms : List (NestedKey × V)} {es es' : List (Int × Value)} (h : Mems w ms es) (p : es.Perm es') : ∃ ms', ms'.Perm ms ∧ Mems w ms' es' := by
  induction p generalizing ms with
  | nil => cases h; exact ⟨[], .nil, .nil⟩
  | cons x p ih =>
    cases h with
    | cons r t =>
      obtain ⟨ms', h1, h2⟩ := ih t
      exact ⟨_ :: ms', h1.cons _, .cons r h2⟩
  | swap x y l =>
    cases h with
    | cons r t =>
      cases t with
      | cons r' t' => exact ⟨_, List.Perm.swap _ _ _, .cons r' (.cons r t')⟩
  | trans p q ih1 ih2 =>
    obtain ⟨m1, h1, h2⟩ := ih1 h
    obtain ⟨m2, h3, h4⟩ := ih2 h2
    exact ⟨m2, h3.trans h1, h4⟩
theorem set_in {h : Heap} {ks : List (NestedKey × V)} (R : SetOb w h a ks) (hl : Leaves ks) : h.SetOf (leafKind P w) a (fun l => decide (l.key ∈ ks.map (·.1))) ks.length := by
  obtain ⟨o, es, ep, t, ms, ho, hex, hd, pm, rel, hb, hf, hr, hled⟩ := R
  have hl' : Leaves ms := fun k hk => hl k (pm.mem_iff.mp hk)
  refine ⟨o, es, ep, t, ho, hex, hd, mems_elems rel hl', fun l => ?_, hb, hf, ?_⟩
  · rw [mems_find rel hl', decide_eq_true_eq]
    exact (pm.map (·.1)).mem_iff.symm
  · rw [← Array.length_toList, ← Paired.length rel, pm.length_eq]
/-- the tail of an addition: the new rows are stored, laid anew where the table is too full -/
theorem set_tail {g : Bool → Sem Unit} (hg : ∀ (b : Bool) (s₁ : Shared) (Q' : Unit → Shared → Prop), Q' () s₁ → wpAny (model P w) A (g b) Q' E s₁) {o : Obj} {es es1 : Array (Int × Value)} {ep : Nat} {t t2 : SetTable} {ks ms1 : List (NestedKey × V)}
    (ho : s.heap.get? a = some o) (hex : o.ExactSet) (hd : o.data = .set es ep t) (pm1 : ms1.Perm ks) (rel1 : Mems w ms1 es1.toList) (hb1 : es1.size < scanBound) (hf2 : t2.fits es1.size = true) (hr : Ris t2.place.toList)
    (hled : w.params.followText "set-order" = true ∨ t2.led = true) {wd : Bool} {R : Option Bool → Shared → Prop} (hR : ∀ h', Heap.SameBut a s.heap h' → SetOb w h' a ks → R (some true) { s with heap := h' }) :
    wpAny (model P w) A (do
        storeSet a es1 t2
        if (!wd && t2.tooFull) = true then do
            g (relayAll t2 es1 (SetTable.grown es1.size)).2.2
            storeSet a (relayAll t2 es1 (SetTable.grown es1.size)).1 (relayAll t2 es1 (SetTable.grown es1.size)).2.1
            pure (some true)
          else pure (some true)) R E s := by
  refine wpAny_bind (wpAny_storeSet_of ho hd ?_ (fits_of_scanBound hb1))
  have o1 := store_at (es' := es1) (t' := t2) ho hd
  have b1 := Heap.SameBut.update s.heap a (Obj.putSet es1 t2)
  by_cases hfull : (!wd && t2.tooFull) = true
  · rw [if_pos hfull]
    have p2 := relayAll_perm t2 es1 (SetTable.grown es1.size)
    have f2 := relayAll_fits t2 es1 (SetTable.grown es1.size)
    have r2 := relayAll_ris t2 es1 (SetTable.grown es1.size)
    have l2 := relayAll_led t2 es1 (SetTable.grown es1.size)
    generalize relayAll t2 es1 (SetTable.grown es1.size) = z at p2 f2 r2 l2 ⊢
    obtain ⟨es2, t3, gave⟩ := z
    dsimp only at p2 f2 r2 l2 ⊢
    have hb2 : es2.size < scanBound := by
      have e : es2.size = es1.size := by rw [← Array.length_toList, p2.length_eq, Array.length_toList]
      omega
    obtain ⟨ms2, q1, q2⟩ := rel1.perm p2.symm
    refine wpAny_bind (hg _ _ _ (wpAny_bind (wpAny_storeSet_of o1 rfl ?_ (fits_of_scanBound hb2))))
    exact wpAny_pure (hR _ (b1.trans (Heap.SameBut.update _ a _)) ⟨_, es2, _, t3, ms2, store_at (es' := es2) (t' := t3) o1 rfl, hex, rfl, q1.trans pm1, q2, hb2, f2, r2, hled.imp id fun z => by rw [l2]; exact z⟩)
  · rw [if_neg hfull]
    exact wpAny_pure (hR _ b1 ⟨_, es1, _, t2, ms1, o1, hex, rfl, pm1, rel1, hb1, hf2, hr, hled⟩)
/-- the members behind an addition -/
def addKs (ks : List (NestedKey × V)) (k : NestedKey) (y : V) : List (NestedKey × V) := if k ∈ ks.map (·.1) then ks else ks ++ [(k, y)]
theorem set_add0 {ks : List (NestedKey × V)} {k : NestedKey} {y : V} {u : Value} {l : Leaf} {Q : Bool → Shared → Prop} (R : SetOb w s.heap a ks) (hl : Leaves ks) (hy : LeafV y k) (ek : l.key = k) (ry : RelV y u) (room : ks.length + 1 < scanBound)
    (hQ : ∀ b h', Heap.SameBut a s.heap h' → SetOb w h' a (addKs ks k y) → Q b { s with heap := h' }) : wpAny (model P w) A (setAddHashed a u ((leafKind P w).hash l)) Q E s := by
  obtain ⟨o, es, ep, t, ms, ho, hex, hd, pm, rel, hb, hf, hr, hled⟩ := R
  have hl' : Leaves ms := fun k hk => hl k (pm.mem_iff.mp hk)
  have hkey : (leafKind P w).is l u = true := (hy.isOf ry).mpr ek.symm
  have hsc := hy.scan ry
  have hel : ElemsOf (leafKind P w) es.toList := mems_elems rel hl'
  have hin : (∃ e ∈ es.toList, (leafKind P w).is l e.2 = true) ↔ k ∈ ks.map (·.1) := by
    rw [mems_find rel hl', ek]
    exact (pm.map (·.1)).mem_iff
  unfold setAddHashed setAddHashedIn
  refine wpAny_holding (wpAny_bind (wpAny_setState_of ho hd hf ?_))
  dsimp only
  rw [byScan_of hsc hb hel]
  simp only [↓reduceIte]
  unfold setAddByScan
  refine wpAny_bind (wpAny_bind (wpAny_rule (wpAny_bind (wpAny_setScan_of hkey ho hd hf hel ?_))))
  cases hfi : List.findIdx? (fun e => (leafKind P w).is l e.2) es.toList with
  | some j =>
    dsimp only
    obtain ⟨hj, pj, _⟩ := List.findIdx?_eq_some_iff_getElem.mp hfi
    have hm := hin.mp ⟨_, List.getElem_mem hj, pj⟩
    refine wpAny_pure (wpAny_pure ?_)
    refine hQ _ s.heap (Heap.SameBut.refl a s.heap) ?_
    rw [show addKs ks k y = ks from if_pos hm]
    exact ⟨o, es, ep, t, ms, ho, hex, hd, pm, rel, hb, hf, hr, hled⟩
  | none =>
    dsimp only
    have hnk : k ∉ ks.map (·.1) := fun z => by
      obtain ⟨e, he, q⟩ := hin.mpr z
      have c := List.findIdx?_eq_none_iff.mp hfi e he
      rw [q] at c
      cases c
    have gv : ∀ (b : Bool) {s₁ : Shared} {Q' : Unit → Shared → Prop}, Q' () s₁ → wpAny (model P w) A (match b with | true => rule "set.scan.the-table-gave-way" | false => pure ()) Q' E s₁ :=
      fun b _ _ q => by cases b <;> first | exact wpAny_pure q | exact wpAny_rule q
    have p1 := layNew_perm t es ((leafKind P w).hash l) u
    have f1 := layNew_fits t es ((leafKind P w).hash l) u
    have r1 := layNew_ris t es ((leafKind P w).hash l) u hr
    have l1 := layNew_led t es ((leafKind P w).hash l) u
    generalize layNew t es ((leafKind P w).hash l) u = z at p1 f1 r1 l1 ⊢
    obtain ⟨es1, t1, wd, gave⟩ := z
    dsimp only at p1 f1 r1 l1 ⊢
    rw [Array.toList_push] at p1
    have relp : Mems w (ms ++ [(k, y)]) (es.toList ++ [((leafKind P w).hash l, u)]) := by
      have app : ∀ {ms : List (NestedKey × V)} {es : List (Int × Value)}, Mems w ms es → Mems w (ms ++ [(k, y)]) (es ++ [((leafKind P w).hash l, u)]) := fun r => by
        induction r with
        | nil => exact .cons ⟨by show l.key.hash w = _; rw [ek], ry⟩ .nil
        | cons r t ih => exact .cons r ih
      exact app rel
    obtain ⟨ms1, q1, q2⟩ := relp.perm p1.symm
    have eA : addKs ks k y = ks ++ [(k, y)] := if_neg hnk
    have q3 : ms1.Perm (addKs ks k y) := by
      rw [eA]
      exact q1.trans (pm.append_right _)
    have hz1 : es1.size = ks.length + 1 := by
      rw [← Array.length_toList, ← Paired.length q2, q1.length_eq, List.length_append, pm.length_eq]
      rfl
    have hb1 : es1.size < scanBound := by omega
    have hled1 : w.params.followText "set-order" = true ∨ t1.led = true := hled.imp id fun z => by rw [l1]; exact z
    refine wpAny_bind (gv _ ?_)
    split
    · refine wpAny_bind ?_
      rw [hashByValue_scannable 8 hsc]
      refine wpAny_pure ?_
      refine set_tail (fun b _ _ q => by cases b <;> first | exact wpAny_pure q | exact wpAny_rule q) ho hex hd q3 q2 hb1 ?_ ?_ ?_ fun h' sb r => wpAny_pure (hQ _ h' sb r)
      · first | (split <;> first | exact f1 | exact SetTable.fits_plain_off f1) | exact f1
      · first | (split <;> exact r1) | exact r1
      · first | (split <;> exact hled1) | exact hled1
    · refine wpAny_bind (wpAny_pure ?_)
      simp only [↓reduceIte]
      exact set_tail (fun b _ _ q => by cases b <;> first | exact wpAny_pure q | exact wpAny_rule q) ho hex hd q3 q2 hb1 f1 r1 hled1 fun h' sb r => wpAny_pure (hQ _ h' sb r)
end
end DL
end
section
namespace DL
open PySem PySem.Spec L2
open PyProof.Rows hiding St
section
variable {X : Cx} {pins : List (Addr × Obj)} {σ : L2.St} {H : Hp} {s : Shared} {a : Addr} {ks : List (NestedKey × V)}
theorem set_at (I : Inv X pins σ H s) (e : H a = some (SetOO X.w a ks)) : SetOb X.w s.heap a ks := (I.hok a _ e).1
theorem setO_okk {P : Program} {w : World} {h : Heap} {H' : Hp} (R : SetOb w h a ks) : ObjOk P w H' h a (SetOO w a ks) := by
  have ⟨o, _, _, _, _, ho, _⟩ := R
  exact ⟨R, ⟨o, ho⟩, fun h1 h2 p k => by
    obtain ⟨o, es, ep, t, ms, q1, q2⟩ := p
    exact ⟨o, es, ep, t, ms, k _ q1, q2⟩⟩
/-- s.add(y) -/
theorem set_add {k : NestedKey} {y : V} {u : Value} {E : Value → Shared → Prop} {A : Around} {Q : Value → Shared → Prop} (I : Inv X pins σ H s) (e : H a = some (SetOO X.w a ks)) (hl : Leaves ks) (hy : LeafV y k) (ry : RelV y u) (room : ks.length + 1 < scanBound)
    (h : ∀ s', Inv X pins σ (upd H a (SetOO X.w a (addKs ks k y))) s' → Q .none s') : wpAny (model X.prog X.w) A (call (.builtin "set.add") [.ref a, u]) Q E s := by
  have R := set_at I e
  obtain ⟨l, ek⟩ := hy.leaf
  refine wpAny_call_entry F.slot_set_add (set_in (P := X.prog) R hl).typeIs F.entry_set_add ?_ (F.args_set_add_2 _ _)
  unfold Builtin.«set.add» Builtin.Frozenset.oneOther
  simp only [List.isEmpty_nil, bind_assoc]
  unfold Builtin.Frozenset.addrOf setAdd
  refine wpAny_bind (wpAny_pure ?_)
  try dsimp only
  refine wpAny_bind (wpAny_pure ?_)
  try dsimp only
  refine wpAny_bind (wpAny_holding (wpAny_bind ((leafKind X.prog X.w).pyHash ((hy.isOf (P := X.prog) ry).mpr ek.symm) ?_)))
  refine set_add0 (s := { s with toks := s.toks + 1 }) R hl hy ek ry room fun b h' sb r => ?_
  show wpAny _ _ (ret Value.none) _ _ _
  have ⟨o, _, _, _, _, ho, _⟩ := r
  exact wpAny_pure ⟨_, rfl, h _ (I.write (e := a) (t' := s.toks + 1) (by rw [e]; trivial) (.inl rfl) (fun b u hb hu => (sb.2 b hb).trans hu) ⟨o, ho⟩ (setO_okk r))⟩
def rInSet (X : Cx) (neg : Bool) : R2 := fun y x H Q => ∃ a ks k, x = .ref a ∧ H a = some (SetOO X.w a ks) ∧ Leaves ks ∧ LeafV y k ∧ Q (.bl (if neg then !decide (k ∈ ks.map (·.1)) else decide (k ∈ ks.map (·.1)))) H
theorem or_inSet : OpR X (compareOp .In) (rInSet X false) := by
  intro pins s σ H x y v u Q I rx ry h
  obtain ⟨a, ks, k, rfl, e, hl, hy, q⟩ := h
  cases ry
  obtain ⟨l, rfl⟩ := hy.leaf
  exact wpAny_inSet_of (knd := leafKind X.prog X.w) ((hy.isOf rx).mpr rfl) (hy.scan rx) (set_in (set_at I e) hl) ⟨.bl _, H, I.tok _, rfl, q⟩
theorem or_notInSet : OpR X (compareOp .NotIn) (rInSet X true) := by
  intro pins s σ H x y v u Q I rx ry h
  obtain ⟨a, ks, k, rfl, e, hl, hy, q⟩ := h
  cases ry
  obtain ⟨l, rfl⟩ := hy.leaf
  exact wpAny_notInSet_of (knd := leafKind X.prog X.w) ((hy.isOf rx).mpr rfl) (hy.scan rx) (set_in (set_at I e) hl) ⟨.bl _, H, I.tok _, rfl, q⟩
def rLenSet (X : Cx) : List V → Hp → VK → Prop := fun xs H Q => ∃ a ks, xs = [.ref a] ∧ H a = some (SetOO X.w a ks) ∧ Q (.int ks.length) H
theorem call_lenSetO : CallR X (.builtin "len") (rLenSet X) := by
  intro pins s σ H xs us Q I r h
  obtain ⟨a, ks, rfl, e, q⟩ := h
  obtain ⟨u, rfl, ru⟩ := vals1 r
  cases ru
  obtain ⟨o, es, ep, t, ms, ho, hex, hd, pm, rel, hb, hf, hr, hled⟩ := set_at I e
  have hz : es.size = ks.length := by rw [← Array.length_toList, ← Paired.length rel, pm.length_eq]
  have hbb : scanBound = 4096 := rfl
  refine call_len_set ho hex hd hf (by omega) ⟨.int ks.length, H, I.tok _, ⟨_, by rw [hz]⟩, q⟩
/-! sorted -/
theorem mems_vals : ∀ {w : World} {ms : List (NestedKey × V)} {es : List (Int × Value)}, Mems w ms es → Vals (ms.map (·.2)) (es.map (·.2))
  | _, _, _, .nil => .nil
  | _, _, _, .cons r t => .cons r.2 (mems_vals t)
theorem vals_perm : ∀ {vs : List V} {us us' : List Value}, Vals vs us → us.Perm us' → ∃ vs', vs.Perm vs' ∧ Vals vs' us' := by
  intro vs us us' h p
  induction p generalizing vs with
  | nil => cases h; exact ⟨[], .nil, .nil⟩
  | cons x p ih =>
    cases h with
    | cons r t =>
      obtain ⟨v', h1, h2⟩ := ih t
      exact ⟨_ :: v', h1.cons _, .cons r h2⟩
  | swap x y l =>
    cases h with
    | cons r t =>
      cases t with
      | cons r' t' => exact ⟨_, List.Perm.swap _ _ _, .cons r' (.cons r t')⟩
  | trans p q ih1 ih2 =>
    obtain ⟨m1, h1, h2⟩ := ih1 h
    obtain ⟨m2, h3, h4⟩ := ih2 h2
    exact ⟨m2, h1.trans h3, h4⟩
/-- a perm of a mapped list is a mapped perm -/
theorem perm_map {α β : Type} {f : α → β} : ∀ {l' l : List β}, l.Perm l' → ∀ {xs : List α}, l = xs.map f → ∃ ys, xs.Perm ys ∧ l' = ys.map f := by
  intro l' l p
  induction p with
  | nil =>
    intro xs h
    cases xs with
    | nil => exact ⟨[], .nil, rfl⟩
    | cons _ _ => cases h
  | cons x p ih =>
    intro xs h
    cases xs with
    | nil => cases h
    | cons y ys =>
      rw [List.map_cons] at h
      injection h with h1 h2
      obtain ⟨zs, q1, q2⟩ := ih h2
      exact ⟨y :: zs, q1.cons _, by rw [List.map_cons, ← q2, h1]⟩
  | swap x y l =>
    intro xs h
    cases xs with
    | nil => cases h
    | cons a r =>
      cases r with
      | nil => cases h
      | cons b r =>
        simp only [List.map_cons, List.cons.injEq] at h
        obtain ⟨h1, h2, h3⟩ := h
        exact ⟨b :: a :: r, List.Perm.swap _ _ _, by simp only [List.map_cons, h1, h2, h3]⟩
  | trans p q ih1 ih2 =>
    intro xs h
    obtain ⟨ys, h1, h2⟩ := ih1 h
    obtain ⟨zs, h3, h4⟩ := ih2 h2
    exact ⟨zs, h1.trans h3, h4⟩
def rSortSet (X : Cx) : List V → Hp → VK → Prop := fun xs H Q => ∃ a ks, xs = [.ref a] ∧ H a = some (SetOO X.w a ks) ∧ ks.length < 64 ∧
  ((∃ ns : List Int, ks.map (·.2) = ns.map V.int ∧ ∀ (ms : List Int) (p : Addr), ms.Perm ns → ms.Pairwise (· ≤ ·) → H p = none → Q (.ref p) (upd H p (.lst (ms.map V.int)))) ∨
    ∃ zs : List Str, ks.map (·.2) = zs.map V.str ∧ ∀ (ys : List Str) (p : Addr), ys.Perm zs → sortedS ys = true → H p = none → Q (.ref p) (upd H p (.lst (ys.map V.str))))
theorem cr_sortSet (hc : X.calm = true) : CallR X (.builtin "sorted") (rSortSet X) := by
  intro pins s σ H xs us Q I r h
  obtain ⟨a, ks, rfl, e, h64, hq⟩ := h
  obtain ⟨u, rfl, ru⟩ := vals1 r
  cases ru
  obtain ⟨o, es, ep, t, ms, ho, hex, hd, pm, rel, hb, hf, hr, hled⟩ := set_at I e
  refine Calls.call_function_entry kind_sorted plain_sorted entry_sorted (args_sorted1 _) ?_
  unfold Builtin.«sorted»
  refine wpAny_bind (m := checkCount "sorted" 1 1 _) (wpAny_pure ?_)
  refine wpAny_bind (collect_set (A := X.A.in1) (I.ok.hd hc) ⟨o, ho, hex.1, hd⟩ hf hb hr hled fun s1 vs k1 hz g1 o1 pv => ?_)
  obtain ⟨vv, q1, q2⟩ := vals_perm (mems_vals rel) pv.symm
  have pk : vv.Perm (ks.map (·.2)) := q1.symm.trans (pm.map (·.2))
  have hvl : vs.length = ks.length := by
    rw [← q2.length, pk.length_eq, List.length_map]
  refine wpAny_bind (wpAny_newList ?_ (by rw [hvl, sizeLine_eq]; omega))
  have hoL : (s1.heap.push (seqObj "list" vs.toArray 0)).get? s1.heap.objs.size = some (seqObj "list" vs.toArray 0) := Heap.get?_push_size _ rfl
  have old : ∀ (out : Array Value) (b : Addr) (u : Obj), s.heap.get? b = some u → (sortedHeap (s1.heap.push (seqObj "list" vs.toArray 0)) s1.heap.objs.size vs out).get? b = some u := fun out b u q => by
    have q := k1 b u q
    have hlt := Heap.lt_size q
    rw [sortedHeap_old (Nat.ne_of_lt hlt) (by rw [size_push']; exact Nat.lt_succ_of_lt hlt)]
    exact Heap.get?_push_of_some _ q
  have hn : H s1.heap.objs.size = none := I.hok.fresh hz
  have fin : ∀ (out : Array Value) (c : Nat) (ws : List V) (st : Shared), ws.length ≤ sizeLine → Vals ws out.toList → (sortedHeap (s1.heap.push (seqObj "list" vs.toArray 0)) s1.heap.objs.size vs out).get? s1.heap.objs.size = some (seqObj "list" out c) →
      st.heap = sortedHeap (s1.heap.push (seqObj "list" vs.toArray 0)) s1.heap.objs.size vs out → st.gens = s.gens → st.os = s.os → Q (.ref s1.heap.objs.size) (upd H s1.heap.objs.size (.lst ws)) → EP X pins σ Q (.ref s1.heap.objs.size) st := fun out c ws st hl hv hg hh hgen hos q => by
    have J : Inv X pins σ (upd H s1.heap.objs.size (.lst ws)) { s with heap := st.heap, gens := st.gens, drawn := st.drawn, toks := st.toks } :=
      I.call (ch := []) (Un.laid (by rw [hh]; exact old out) hz hn) (I.hok.laid (by rw [hh]; exact old out) hz ⟨hl, out.toList, c, hv, by rw [hh]; exact hg⟩) (by rw [hgen]; exact I.bare) (fun _ z => nomatch z)
    have e : st = { s with heap := st.heap, gens := st.gens, drawn := st.drawn, toks := st.toks } := by
      cases st
      cases s
      cases hos
      rfl
    rw [e]
    exact ⟨.ref s1.heap.objs.size, _, J, rfl, q⟩
  rcases hq with ⟨ns, en, q⟩ | ⟨zs, en, q⟩
  · rw [en] at pk
    obtain ⟨ns', p1, p2⟩ := perm_map pk.symm rfl
    rw [p2] at q2
    have hI := q2.ints
    refine wpAny_bind (wpAny_holding (wpAny_call_entry slot_list_sort ⟨_, hoL, rfl⟩ entry_list_sort (list_sort_tree hoL hI (by rw [hvl]; exact h64) fun out ns2 a1 a2 a3 => ⟨_, rfl, ?_⟩) (args_list_sort _)))
    obtain ⟨c, hc'⟩ := sortedHeap_at (vs := vs) (out := out) hoL
    refine wpAny_pure ⟨_, rfl, fin out c (ns2.map V.int) _ ?_ (vals_of_ints a1) hc' rfl g1 o1 (q ns2 _ (a2.trans p1.symm) a3 hn)⟩
    rw [List.length_map, a2.length_eq, ← p1.length_eq, ← List.length_map (f := V.int), ← en, List.length_map, sizeLine_eq]
    omega
  · rw [en] at pk
    obtain ⟨zs', p1, p2⟩ := perm_map pk.symm rfl
    rw [p2] at q2
    have hS := q2.strs
    refine wpAny_bind (wpAny_holding (wpAny_call_entry slot_list_sort ⟨_, hoL, rfl⟩ entry_list_sort (list_sort_treeK strKind_oneLt (s := { s1 with heap := s1.heap.push (seqObj "list" vs.toArray 0) }) hoL hS.keysOf (fun v₁ v₂ rest e => keyKind_strs (by rw [← e]; exact hS)) (by rw [hvl]; exact h64) fun st' hp hs => ⟨_, rfl, ?_⟩) (args_list_sort _)))
    obtain ⟨ys, g1', g2', g3'⟩ := sorted_out_str hS hp hs
    obtain ⟨c, hc'⟩ := sortedHeap_at (vs := vs) (out := (arrOf st').map (·.2)) hoL
    have hv := vals_of_strs g1'
    have hlen : (ys.map V.str).length ≤ sizeLine := by
      rw [List.length_map, g2'.length_eq, ← p1.length_eq, ← List.length_map (f := V.str), ← en, List.length_map, sizeLine_eq]
      omega
    generalize (arrOf st').map (·.2) = out at hv hc' ⊢
    exact wpAny_pure ⟨_, rfl, fin out c (ys.map V.str) _ hlen hv hc' rfl g1 o1 (q ys _ (g2'.trans p1.symm) g3' hn)⟩
end
end DL
end
section
namespace DL
open PySem PySem.Spec L2
open PyProof.Rows hiding St

/-! ### sets by their data; the last steps of set and dict comprehensions -/
def sAdd (xs : List D) (y : D) : List D := if xs.any (fun x => keyEq x y) then xs else xs ++ [y]
def emS (elt : M D) : D → M D := fun a ρ => (elt ρ).noX.bind fun y ρ' => match a with
  | .set ys => if y.leaf && decide (ys.length + 1 < 4096) then .ok (.set (sAdd ys y)) ρ' else .stuck
  | _ => .stuck
def emDc (kx vx : M D) : D → M D := fun a ρ => (kx ρ).noX.bind fun k ρ1 => (vx ρ1).noX.bind fun v ρ2 => match a with
  | .dct kvs => if okKey kvs k && lenOk (kvs.length + 1) then .ok (.dct (dput kvs k v)) ρ2 else .stuck
  | _ => .stuck
section
variable {X Y : Cx} {fr : Fx} {W : WX} {K : PySem.W.Frag} {G : Addr → Prop} {w : World} {σ : L2.St} {H H1 H' : Hp} {ρ : DL.Env} {D0 : Addr} {d y : D} {v : V} {k : NestedKey}
theorem leaf_v (h : d.leaf = true) (r : Rp K G H d v) : ∃ k, nk d = some k ∧ LeafV v k ∧ k.depth ≤ 8 := by
  cases d with
  | non => simp only [Rp] at r; subst r; exact ⟨_, rfl, .non, Nat.zero_le _⟩
  | bl b => simp only [Rp] at r; subst r; exact ⟨_, rfl, .bl b, Nat.zero_le _⟩
  | int i => simp only [Rp] at r; subst r; exact ⟨_, rfl, .int i, Nat.zero_le _⟩
  | str x => simp only [Rp] at r; obtain ⟨r, _⟩ := r; subst r; exact ⟨_, rfl, .str x, Nat.zero_le _⟩
  | _ => cases h
theorem ksR_leaves : ∀ {ds : List D} {ks : List (NestedKey × V)}, KsR K G H ds ks → (∀ d ∈ ds, d.leaf = true) → Leaves ks
  | _, _, .nil, _ => fun k h => by cases h
  | d :: ds, k :: ks, .cons r t, hl => fun k' h => by
    rcases List.mem_cons.mp h with rfl | h
    · obtain ⟨k1, e, l, _⟩ := leaf_v (hl d (List.mem_cons_self ..)) r.2.2
      rw [r.1] at e
      cases e
      exact l
    · exact ksR_leaves t (fun d h => hl d (List.mem_cons_of_mem _ h)) k' h
theorem ksR_any (hk : nk y = some k) : ∀ {ds : List D} {ks : List (NestedKey × V)}, KsR K G H ds ks → (ds.any (fun x => keyEq x y) = true ↔ k ∈ ks.map (·.1))
  | _, _, .nil => by simp
  | d :: ds, e :: ks, .cons r t => by
    have ih := ksR_any hk t
    have e1 : keyEq d y = decide (e.1 = k) := by unfold keyEq; rw [r.1, hk]
    simp only [List.any_cons, Bool.or_eq_true, e1, decide_eq_true_eq, List.map_cons, List.mem_cons, ih]
    exact ⟨fun h => h.imp Eq.symm id, fun h => h.imp Eq.symm id⟩
theorem ksR_add (hk : nk y = some k) (hd : k.depth ≤ 8) (ry : Rp K G H y v) {ds : List D} {ks : List (NestedKey × V)} (r : KsR K G H ds ks) : KsR K G H (sAdd ds y) (addKs ks k v) := by
  have ha := ksR_any hk r
  unfold sAdd addKs
  by_cases h : k ∈ ks.map (·.1)
  · rw [if_pos h, if_pos (ha.mpr h)]
    exact r
  · rw [if_neg h, if_neg fun z => h (ha.mp z)]
    clear ha h
    induction r with
    | nil => exact .cons ⟨hk, hd, ry⟩ .nil
    | cons r t ih => exact .cons r ih
theorem addKs_nd {ks : List (NestedKey × V)} (h : (ks.map (·.1)).Nodup) : ((addKs ks k v).map (·.1)).Nodup := by
  unfold addKs
  split
  · exact h
  · rename_i hn
    simp only [List.map_append, List.map_cons, List.map_nil]
    exact nd_snoc h hn
theorem sAdd_len (ds : List D) (y : D) : (sAdd ds y).length ≤ ds.length + 1 := by unfold sAdd; split <;> simp
theorem sAdd_leaf {ds : List D} (h : ∀ d ∈ ds, d.leaf = true) (hy : y.leaf = true) : ∀ d ∈ sAdd ds y, d.leaf = true := by
  intro d hd
  unfold sAdd at hd
  split at hd
  · exact h d hd
  · rcases List.mem_append.mp hd with hd | hd
    · exact h d hd
    · rw [List.mem_singleton.mp hd]; exact hy
/-- the last step of a set -/
def emSet (fr : Fx) (te : M D) (D : Addr) : EM := fun σ H N => eEx fr te σ H fun y H1 => ∃ ks k, H1 D = some (SetOO fr.w D ks) ∧ Leaves ks ∧ LeafV y k ∧ ks.length + 1 < scanBound ∧ N (upd H1 D (SetOO fr.w D (addKs ks k y)))
theorem body_set {elt : Expr} {te : M D} (hw : fr.w = Y.w) (hx : ∀ e z, ¬ Y.xe e z) (pe : PE Y elt (eEx fr te)) : BodyT Y [] (ActE Y.prog Y.w Y.A (emitS elt) (.ref D0) Y.env) (emSet fr te D0) := by
  intro pins σ H s N Post I h hP
  unfold ActE emitS
  refine wpAny_bind (yNo hx (pe.run pins s σ H _ I h) fun v s1 ⟨y, H1, I1, r1, ks, k, hD, hl, hy, hz, n⟩ => ?_)
  rw [hw] at hD n
  exact wpAny_bind (wpAny_standAt (wpAny_bind (set_add I1 hD hl hy r1 hz fun s2 I2 => wpAny_pure (hP σ _ s2 I2 Kp.refl n))))
theorem bd_set {te : M D} (hF : fr.F D0 = none) : BD fr D0 [] (emS te) (emSet fr te D0) := by
  intro σ H N ρ a o E eD ob h
  have h : wpR ((te ρ).noX.bind _) _ _ := h
  refine ⟨Xd fr D0, ρ, E, wpR.mono (noX_wp (Qe' := Ex (fr.xp (Xd fr D0)) W0 σ) (wpR.of_bind h)) (fun y ρ1 q v H1 E1 s1 r1 => ?_) fun _ _ q => q⟩
  have nD : ¬ Owned (fr.xp (Xd fr D0)).toFr σ D0 := (E.xt D0 (.inr rfl)).2
  have eD1 : H1 D0 = some o := s1.k D0 _ eD nD
  have ob1 : Ob fr.w fr.K (Good (fr.xp (Xd fr D0)).toFr σ) H1 a D0 o := ob.move (fun b x gb q => ⟨gb, s1.k b _ q fun z => gb.2.1 z⟩) s1.t s1.f
  cases a with
  | set ys =>
    obtain ⟨z, hlf, ks, rfl, r, nd⟩ := ob1
    dsimp only at q
    by_cases hl : (y.leaf && decide (ys.length + 1 < 4096)) = true
    · rw [if_pos hl] at q
      rw [Bool.and_eq_true, decide_eq_true_eq] at hl
      obtain ⟨k, hk, hlv, hd⟩ := leaf_v hl.1 r1
      have hlen := Paired.length r
      have hb : scanBound = 4096 := rfl
      refine ⟨ks, k, eD1, ksR_leaves r hlf, hlv, by omega, ?_⟩
      have t0 : Trk (SetOO fr.w D0 ks) := trk_set
      have ht : ∀ b xs, H1 b = some (.tup xs) → (upd H1 D0 (SetOO fr.w D0 (addKs ks k v))) b = some (.tup xs) := fun b xs q => by rw [upd_ne (ne_of q eD1 (Ne.symm (t0.2.1 xs)))]; exact q
      have hz : ∀ b ob u, H1 b = some (.frz ob u) → (upd H1 D0 (SetOO fr.w D0 (addKs ks k v))) b = some (.frz ob u) := fun b ob u q => by rw [upd_ne (ne_of q eD1 (Ne.symm (t0.2.2 ob u)))]; exact q
      have hs := sAdd_len ys y
      refine q _ (SetOO fr.w D0 (addKs ks k v)) (E1.moreO eD1 trk_set hF) ((s1.mono fun b z => .inl z).trans ⟨fun b x q n => by rw [upd_ne fun z => n (.inr z)]; exact q, ht, hz⟩) upd_same ?_
      have obn : Ob fr.w fr.K (Good (fr.xp (Xd fr D0)).toFr σ) H1 (.set (sAdd ys y)) D0 (SetOO fr.w D0 (addKs ks k v)) := ⟨by omega, sAdd_leaf hlf hl.1, _, rfl, ksR_add hk hd r1 r, addKs_nd nd⟩
      exact obn.move (fun b x gb q => ⟨gb, by rw [upd_ne fun z => gb.2.2 (.inr z)]; exact q⟩) ht hz
    · rw [if_neg hl] at q
      exact q.elim
  | _ => exact q.elim
/-! dict comprehensions -/
theorem n_dset {pins : List (Addr × Obj)} {s : Shared} {E : Value → Shared → Prop} {Q : Unit → Shared → Prop} {a b : Addr} {es : NEs} {k : NestedKey} {v : V} {r : Value} (hu : X.A.units + 64 < cLine) (I : Inv X pins σ H s) (g : NOr X H a es) (hk : KeyV X.K H (.ref b) k) (hl : es.length < sizeLine) (rv : RelV v r)
    (h : ∀ s', Inv X pins σ (upd H a (DctO X.w a (putN es k (.ref b) v))) s' → Q () s') : wpAny (model X.prog X.w) X.A (dictSet a (.ref b) r) Q E s := by
  obtain ⟨hs, hz, mu, ⟨o0, e0, t0⟩, xs, rel, dd⟩ := nor_at I g
  have hz' : xs.length ≤ sizeLine := by rw [← Paired.length rel]; omega
  refine wpAny_dictSet_heap (hsz := hz') (show X.A.units + 8 < cLine by omega) (hk.at I) dd fun h' dd' hs' => h _ ?_
  have := dd'
  obtain ⟨q, _, _, hq, _⟩ := this
  exact d_write I mu hs' ⟨q, hq⟩ (nd_new hs (rel.put rv) dd')
/-- a dict's entry is laid: as rSetDct, for the object at D -/
def emDct (fr : Fx) (X : Cx) (tk tv : M D) (D : Addr) : EM := fun σ H N => eEx fr tk σ H fun i H1 => eEx fr tv σ H1 fun v H2 => rSetDct X (.ref D) i v H2 N
theorem body_dct {kx vx : Expr} {tk tv : M D} (hu : Y.A.units + 64 < cLine) (hx : ∀ e z, ¬ Y.xe e z) (pk : PE Y kx (eEx fr tk)) (pv : PE Y vx (eEx fr tv)) : BodyT Y [] (ActE Y.prog Y.w Y.A (emitD kx vx) (.ref D0) Y.env) (emDct fr Y tk tv D0) := by
  intro pins σ H s N Post I h hP
  unfold ActE emitD
  refine wpAny_bind (yNo hx (pk.run pins s σ H _ I h) fun kv s1 ⟨i, H1, I1, ri, h1⟩ => wpAny_bind (wpAny_holding (yNo hx (pv.run pins s1 σ H1 _ I1 h1) fun vv s2 ⟨v, H2, I2, rv, a, ea, h2⟩ => ?_)))
  cases ea
  refine wpAny_bind (wpAny_standAt (wpAny_holding ?_))
  rcases h2 with ⟨kvs, k, e, rfl, z, q⟩ | ⟨es, k, b, hn, rfl, hk, z, q⟩
  · exact d_dictSet I2 e z ri rv fun s' I' => hP σ _ s' I' Kp.refl q
  · cases ri
    exact n_dset hu I2 hn hk z rv fun s' I' => hP σ _ s' I' Kp.refl q
theorem bd_dct {tk tv : M D} (hk : fr.K = X.K) (hw : fr.w = X.w) (hF : fr.F D0 = none) : BD fr D0 [] (emDc tk tv) (emDct fr X tk tv D0) := by
  intro σ H N ρ a o E eD ob h
  have h : wpR ((tk ρ).noX.bind _) _ _ := h
  refine ⟨Xd fr D0, ρ, E, wpR.mono (noX_wp (Qe' := Ex (fr.xp (Xd fr D0)) W0 σ) (wpR.of_bind h)) (fun k ρ1 q i H1 E1 s1 r1 => ?_) fun _ _ q => q⟩
  have q : wpR ((tv ρ1).noX.bind _) _ _ := q
  refine ⟨Xd fr D0, ρ1, E1, wpR.mono (noX_wp (Qe' := Ex (fr.xp (Xd fr D0)) W0 σ) (wpR.of_bind q)) (fun dv ρ2 q v H2 E2 s2 r2 => ?_) fun _ _ q => q⟩
  have nD : ¬ Owned (fr.xp (Xd fr D0)).toFr σ D0 := (E.xt D0 (.inr rfl)).2
  have s12 := s1.trans s2
  have eD2 : H2 D0 = some o := s12.k D0 _ eD nD
  have ob2 : Ob fr.w fr.K (Good (fr.xp (Xd fr D0)).toFr σ) H2 a D0 o := ob.move (fun b x gb q => ⟨gb, s12.k b _ q fun z => gb.2.1 z⟩) s12.t s12.f
  have r1' : Rp fr.K (Good (fr.xp (Xd fr D0)).toFr σ) H2 k i := Rp.good (fr := fr.xp (Xd fr D0)) s2 r1
  cases a with
  | dct kvs =>
    dsimp only at q
    by_cases hl : (okKey kvs k && lenOk (kvs.length + 1)) = true
    · rw [if_pos hl] at q
      rw [Bool.and_eq_true] at hl
      have hll := lenOk_iff.mp hl.2
      have hlen := dput_len kvs k dv
      have ow : Ow X.w X.K (Good (fr.xp (Xd fr D0)).toFr σ) H2 (.dct kvs) D0 := ⟨o, eD2, hk ▸ hw ▸ ob2⟩
      have t0 := ob2.trk
      have go : ∀ o', Trk o' → Ob fr.w fr.K (Good (fr.xp (Xd fr D0)).toFr σ) H2 (.dct (dput kvs k dv)) D0 o' → N (upd H2 D0 o') := fun o' t' obn => by
        have ht : ∀ b xs, H2 b = some (.tup xs) → (upd H2 D0 o') b = some (.tup xs) := fun b xs q => by rw [upd_ne (ne_of q eD2 (Ne.symm (t0.2.1 xs)))]; exact q
        have hz : ∀ b ob u, H2 b = some (.frz ob u) → (upd H2 D0 o') b = some (.frz ob u) := fun b ob u q => by rw [upd_ne (ne_of q eD2 (Ne.symm (t0.2.2 ob u)))]; exact q
        exact q _ o' (E2.moreO eD2 t0 hF) ((s12.mono fun b z => .inl z).trans ⟨fun b x q n => by rw [upd_ne fun z => n (.inr z)]; exact q, ht, hz⟩) upd_same (obn.move (fun b x gb q => ⟨gb, by rw [upd_ne fun z => gb.2.2 (.inr z)]; exact q⟩) ht hz)
      have rd : Rp X.K (Good (fr.xp (Xd fr D0)).toFr σ) H2 dv v := hk ▸ r2
      have rk : Rp X.K (Good (fr.xp (Xd fr D0)).toFr σ) H2 k i := hk ▸ r1'
      refine ⟨D0, rfl, ?_⟩
      rcases dct_key ow rk hl.1 with ⟨es, kk, eA, rr, ey, ek⟩ | ⟨es, kk, b, hn, rr, hm, nd, ey, kV', ek, ht⟩
      · refine .inl ⟨es, kk, eA, ey, by rw [← Paired.length rr]; omega, go _ trk_dK ⟨by omega, .inl ⟨_, rfl, hk ▸ kvK_put ek (ey ▸ rk) rd rr⟩⟩⟩
      · subst ey
        obtain ⟨k1, k2⟩ := dkey_some ek
        exact .inr ⟨es, kk, b, hn, rfl, kV', by rw [← Paired.length rr]; omega, go _ trk_dct ⟨by omega, .inr ⟨dput_ne, dput_tup ht hm, _, by rw [hw], hk ▸ kvR_put k1 k2 rk rd rr, putN_nd nd⟩⟩⟩
    · rw [if_neg hl] at q
      exact q.elim
  | _ => exact q.elim
end
end DL
end
section
namespace DL
open PySem PySem.Spec L2
open PyProof.Rows hiding St
section
variable {X : Cx} {fr : Fx} {W : WX} {e tg iter tg1 iter1 elt kx vx : Expr} {ifs ifs1 : List Expr} {emit : Value → PySem.Env → Sem Unit} {scope : Scope} {own : List (Str × Nat)} {pos pos' : Pos} {new : Sem Value} {ob : Obj} {o0 : Addr → HO} {sl sl1 vs1 : List Nat} {f f1 : M (List D)} {g g1 : MG} {tt tt1 : M Bool} {te tk tv : M D} {body : D → M D} {a0 : D} {em : Addr → EM}
theorem pi_iEx {Y : Cx} (h : ∀ xp, DI Y (fr.xp xp) W0 tg iter f) : PI Y tg iter (iEx fr f) := ⟨fun pins s σ H R I ⟨xp, q⟩ => (h xp).run pins s σ H R I q⟩
theorem pe_eEx {Y : Cx} (h : ∀ xp, DE Y (fr.xp xp) W0 elt te) : PE Y elt (eEx fr te) := ⟨fun pins s σ H Q I ⟨xp, q⟩ => (h xp).run pins s σ H Q I q⟩
theorem pg_gEx {Y : Cx} (h : ∀ xp, DG Y (fr.xp xp) sl tg g) : PG Y tg (gEx fr sl g) := ⟨fun pins s σ H v u Q I r ⟨xp, q⟩ => (h xp).run pins s σ H v u Q I r q⟩
theorem pt_tEx {Y : Cx} (h : ∀ xp, DTs Y (fr.xp xp) W0 ifs tt) : PTs Y ifs (tEx fr tt) := ⟨fun pins s σ H Q I ⟨xp, q⟩ => (h xp).run pins s σ H Q I q⟩
/-- in every block of the def -/
abbrev Blk (X : Cx) (scope : Scope) (p : Cx → Prop) : Prop := ∀ (s : Shared) (H : Hp) (C : Addr) (cl : List (Str × Addr)) (fp : List Addr), p (X.blk s H scope (compEnvC scope cl C X.env) fp)
theorem dc_1 (C : Cp e [⟨tg, iter, ifs, 0⟩] emit) (nw : NewOb X new ob o0) (he : eval e X.env = comprehension e scope X.env pos' new false (eval iter X.env)) (he2 : ∀ f, evalThenUse e X.env f = (do let _ ← comprehension e scope X.env pos' new false (eval iter X.env) (some f)))
    (hc : X.calm = true) (hN : X.N.Nodup) (hi : DI X fr W tg iter f) (ok : BlkOk X.N X.env.scope scope own) (hf : Free fr.toFr (own.map (·.2))) (hsl : ∀ i, i ∈ sl → i ∈ own.map (·.2))
    (hg : Blk X scope fun Y => ∀ xp, DG Y (fr.xp xp) sl tg g) (ht : Blk X scope fun Y => ∀ xp, DTs Y (fr.xp xp) W0 ifs tt) (L : Blk X scope fun Y => ∀ D, BodyT Y [] (ActE Y.prog Y.w Y.A emit (.ref D) Y.env) (em D))
    (B : ∀ D, fr.F D = none → BD fr D [] body (em D)) (h0 : ∀ D G H, Ob fr.w fr.K G H a0 D (o0 D)) (hs : ∀ x, foldedSetIterable iter X.env x = pure x) : DC X fr W e (eCp f (own.map (·.2)) g tt body a0) :=
  dc_cp (vs1 := []) C nw he he2 hc hN hi ok hf hsl (fun j h => by cases h) hg ht (fun s H C' cl fp D => clOk_last C rfl rfl (L s H C' cl fp D)) B h0 hs
theorem dc_2 (C : Cp e [⟨tg, iter, ifs, 0⟩, ⟨tg1, iter1, ifs1, 0⟩] emit) (nw : NewOb X new ob o0) (he : eval e X.env = comprehension e scope X.env pos' new false (eval iter X.env)) (he2 : ∀ f, evalThenUse e X.env f = (do let _ ← comprehension e scope X.env pos' new false (eval iter X.env) (some f)))
    (hc : X.calm = true) (hN : X.N.Nodup) (hi : DI X fr W tg iter f) (ok : BlkOk X.N X.env.scope scope own) (hf : Free fr.toFr (own.map (·.2))) (hsl : ∀ i, i ∈ sl → i ∈ own.map (·.2)) (hf1 : Free fr.toFr vs1) (hsl1 : ∀ i, i ∈ sl1 → i ∈ vs1) (hv : ∀ j, j ∈ vs1 → j ∈ own.map (·.2))
    (hg : Blk X scope fun Y => ∀ xp, DG Y (fr.xp xp) sl tg g) (ht : Blk X scope fun Y => ∀ xp, DTs Y (fr.xp xp) W0 ifs tt) (hi1 : Blk X scope fun Y => ∀ xp, DI Y (fr.xp xp) W0 tg1 iter1 f1) (hg1 : Blk X scope fun Y => ∀ xp, DG Y (fr.xp xp) sl1 tg1 g1)
    (ht1 : Blk X scope fun Y => ∀ xp, DTs Y (fr.xp xp) W0 ifs1 tt1) (L : Blk X scope fun Y => ∀ D, BodyT Y [] (ActE Y.prog Y.w Y.A emit (.ref D) Y.env) (em D)) (B : ∀ D, fr.F D = none → BD fr D [] body (em D)) (h0 : ∀ D G H, Ob fr.w fr.K G H a0 D (o0 D))
    (hs : ∀ x, foldedSetIterable iter X.env x = pure x) (hs1 : ∀ env x, foldedSetIterable iter1 env x = pure x) : DC X fr W e (eCp f (own.map (·.2)) g tt (clB f1 vs1 g1 tt1 body) a0) :=
  dc_cp (vs1 := vs1) (em := fun D => tCl (iEx fr f1) vs1 (gEx fr sl1 g1) (tEx fr tt1) (em D)) C nw he he2 hc hN hi ok hf hsl hv hg ht
    (fun s H C' cl fp D => clOk_mid (fun e z h => h) hc C rfl rfl (hs1 _) hv (pi_iEx (hi1 s H C' cl fp)) (pg_gEx (hg1 s H C' cl fp)) (pt_tEx (ht1 s H C' cl fp)) (clOk_last C rfl rfl (L s H C' cl fp D)))
    (fun D hF => bd_mid hf1 hsl1 (fun j h => by cases h) hF (B D hF)) h0 hs
theorem ob_lst0 {D : Addr} {G : Addr → Prop} {H : Hp} : Ob fr.w fr.K G H (.lst []) D (.lst []) := ⟨Nat.zero_le _, [], rfl, RpL.nil⟩
theorem ob_set0 {D : Addr} {G : Addr → Prop} {H : Hp} {w : World} (hw : fr.w = w) : Ob fr.w fr.K G H (.set []) D (SetOO w D []) := ⟨Nat.zero_le _, (fun d h => by cases h), [], by rw [hw], .nil, List.nodup_nil⟩
theorem ob_dct0 {D : Addr} {G : Addr → Prop} {H : Hp} : Ob fr.w fr.K G H (.dct []) D (.dK []) := ⟨Nat.zero_le _, .inl ⟨[], rfl, .nil⟩⟩
section
variable (hc : X.calm = true) (hN : X.N.Nodup) (hi : DI X fr W tg iter f) (ok : BlkOk X.N X.env.scope scope own) (hf : Free fr.toFr (own.map (·.2))) (hsl : ∀ i, i ∈ sl → i ∈ own.map (·.2))
    (hg : Blk X scope fun Y => ∀ xp, DG Y (fr.xp xp) sl tg g) (ht : Blk X scope fun Y => ∀ xp, DTs Y (fr.xp xp) W0 ifs tt)
include hc hN hi ok hf hsl hg ht
theorem dc_l1 (h : Blk X scope fun Y => ∀ xp, DE Y (fr.xp xp) W0 elt te) (hs : ∀ x, foldedSetIterable iter X.env x = pure x := by intro _; rfl) : DC X fr W (.ListComp elt [⟨tg, iter, ifs, 0⟩] scope pos) (eCp f (own.map (·.2)) g tt (emL te) (.lst [])) :=
  dc_1 (cp_list _ _ _ _) new_list rfl (fun _ => rfl) hc hN hi ok hf hsl hg ht (fun s H C cl fp D => body_list (fun e z h => h) (pe_eEx (h s H C cl fp))) (fun D hF => bd_list hF) (fun D G H => ob_lst0) hs
theorem dc_s1 (hw : fr.w = X.w) (h : Blk X scope fun Y => ∀ xp, DE Y (fr.xp xp) W0 elt te) (hs : ∀ x, foldedSetIterable iter X.env x = pure x := by intro _; rfl) : DC X fr W (.SetComp elt [⟨tg, iter, ifs, 0⟩] scope pos) (eCp f (own.map (·.2)) g tt (emS te) (.set [])) :=
  dc_1 (cp_set _ _ _ _) new_set rfl (fun _ => rfl) hc hN hi ok hf hsl hg ht (fun s H C cl fp D => body_set hw (fun e z h => h) (pe_eEx (h s H C cl fp))) (fun D hF => bd_set hF) (fun D G H => ob_set0 hw) hs
theorem dc_d1 (hu : X.A.units + 64 < cLine) (hk : fr.K = X.K) (hw : fr.w = X.w) (h : Blk X scope fun Y => ∀ xp, DE Y (fr.xp xp) W0 kx tk) (h' : Blk X scope fun Y => ∀ xp, DE Y (fr.xp xp) W0 vx tv) (hs : ∀ x, foldedSetIterable iter X.env x = pure x := by intro _; rfl) :
    DC X fr W (.DictComp kx vx [⟨tg, iter, ifs, 0⟩] scope pos) (eCp f (own.map (·.2)) g tt (emDc tk tv) (.dct [])) :=
  dc_1 (em := emDct fr X tk tv) (cp_dict _ _ _ _ _) new_dict rfl (fun _ => rfl) hc hN hi ok hf hsl hg ht (fun s H C cl fp D => body_dct (Y := X.blk s H scope (compEnvC scope cl C X.env) fp) hu (fun e z h => h) (pe_eEx (h s H C cl fp)) (pe_eEx (h' s H C cl fp))) (fun D hF => bd_dct hk hw hF) (fun D G H => ob_dct0) hs
section
variable (hf1 : Free fr.toFr vs1) (hsl1 : ∀ i, i ∈ sl1 → i ∈ vs1) (hv : ∀ j, j ∈ vs1 → j ∈ own.map (·.2)) (hi1 : Blk X scope fun Y => ∀ xp, DI Y (fr.xp xp) W0 tg1 iter1 f1) (hg1 : Blk X scope fun Y => ∀ xp, DG Y (fr.xp xp) sl1 tg1 g1)
    (ht1 : Blk X scope fun Y => ∀ xp, DTs Y (fr.xp xp) W0 ifs1 tt1)
include hf1 hsl1 hv hi1 hg1 ht1
theorem dc_l2 (h : Blk X scope fun Y => ∀ xp, DE Y (fr.xp xp) W0 elt te) (hs : ∀ x, foldedSetIterable iter X.env x = pure x := by intro _; rfl) (hs1 : ∀ env x, foldedSetIterable iter1 env x = pure x := by intro _ _; rfl) :
    DC X fr W (.ListComp elt [⟨tg, iter, ifs, 0⟩, ⟨tg1, iter1, ifs1, 0⟩] scope pos) (eCp f (own.map (·.2)) g tt (clB f1 vs1 g1 tt1 (emL te)) (.lst [])) :=
  dc_2 (cp_list _ _ _ _) new_list rfl (fun _ => rfl) hc hN hi ok hf hsl hf1 hsl1 hv hg ht hi1 hg1 ht1 (fun s H C cl fp D => body_list (fun e z h => h) (pe_eEx (h s H C cl fp))) (fun D hF => bd_list hF) (fun D G H => ob_lst0) hs hs1
theorem dc_s2 (hw : fr.w = X.w) (h : Blk X scope fun Y => ∀ xp, DE Y (fr.xp xp) W0 elt te) (hs : ∀ x, foldedSetIterable iter X.env x = pure x := by intro _; rfl) (hs1 : ∀ env x, foldedSetIterable iter1 env x = pure x := by intro _ _; rfl) :
    DC X fr W (.SetComp elt [⟨tg, iter, ifs, 0⟩, ⟨tg1, iter1, ifs1, 0⟩] scope pos) (eCp f (own.map (·.2)) g tt (clB f1 vs1 g1 tt1 (emS te)) (.set [])) :=
  dc_2 (cp_set _ _ _ _) new_set rfl (fun _ => rfl) hc hN hi ok hf hsl hf1 hsl1 hv hg ht hi1 hg1 ht1 (fun s H C cl fp D => body_set hw (fun e z h => h) (pe_eEx (h s H C cl fp))) (fun D hF => bd_set hF) (fun D G H => ob_set0 hw) hs hs1
theorem dc_d2 (hu : X.A.units + 64 < cLine) (hk : fr.K = X.K) (hw : fr.w = X.w) (h : Blk X scope fun Y => ∀ xp, DE Y (fr.xp xp) W0 kx tk) (h' : Blk X scope fun Y => ∀ xp, DE Y (fr.xp xp) W0 vx tv) (hs : ∀ x, foldedSetIterable iter X.env x = pure x := by intro _; rfl) (hs1 : ∀ env x, foldedSetIterable iter1 env x = pure x := by intro _ _; rfl) :
    DC X fr W (.DictComp kx vx [⟨tg, iter, ifs, 0⟩, ⟨tg1, iter1, ifs1, 0⟩] scope pos) (eCp f (own.map (·.2)) g tt (clB f1 vs1 g1 tt1 (emDc tk tv)) (.dct [])) :=
  dc_2 (em := emDct fr X tk tv) (cp_dict _ _ _ _ _) new_dict rfl (fun _ => rfl) hc hN hi ok hf hsl hf1 hsl1 hv hg ht hi1 hg1 ht1 (fun s H C cl fp D => body_dct (Y := X.blk s H scope (compEnvC scope cl C X.env) fp) hu (fun e z h => h) (pe_eEx (h s H C cl fp)) (pe_eEx (h' s H C cl fp))) (fun D hF => bd_dct hk hw hF) (fun D G H => ob_dct0) hs hs1
end
end
/-! stored by themselves -/
theorem ds_asgC {i : Nat} {x : Str} {p : Pos} {te : M D} (hO : fr.O i = true) (hP : fr.P i = false) (h : DC X fr W e te) (hi : X.N[i]? = some x) (hl : X.env.scope.names.lookup x = some .local) (hs : swapsWith e (some (.Name x p)) pos.line X.env = pure true) : DS X fr W (.Assign [.Name x p] e pos) (sAsgO i te) :=
  ps_mono (h.sw.run hi hl hs) fun Dn σ H ⟨ρ, E, h⟩ => ⟨ρ, E, wp_head h fun d ρ1 q a H1 H' o E1 s1 n sm l r =>
    q _ H' (E1.setO hO hP n sm l r) ⟨fun b o hb nb => ⟨sm b o (s1.k b o hb nb), fun z => (own_setO z).elim nb (ne_of_none (s1.k b o hb nb) n)⟩, fun b xs hb => sm b _ (s1.t b xs hb), fun b o u hb => sm b _ (s1.f b o u hb)⟩⟩
/-- the name does not own: a list -/
theorem ds_asgCv {i : Nat} {x : Str} {p : Pos} {te : M D} (hO : fr.O i = false) (h : DC X fr W e te) (hi : X.N[i]? = some x) (hl : X.env.scope.names.lookup x = some .local) (hs : swapsWith e (some (.Name x p)) pos.line X.env = pure true) : DS X fr W (.Assign [.Name x p] e pos) (sAsg (eNew te) (gV i)) :=
  ps_mono (h.sw.run hi hl hs) fun Dn σ H ⟨ρ, E, h⟩ => by
    have h : wpR (((te ρ).bind _).bind _) _ _ := h
    have h' := wpR.of_bind (wpR.of_bind h)
    refine ⟨ρ, E, wpR.mono h' (fun d ρ1 q a H1 H' o E1 s1 n sm l r => ?_) fun _ _ q => q.ex⟩
    cases d with
    | lst ds =>
      obtain ⟨z, vs, rfl, r⟩ := r
      have rv : Rp fr.K (Good fr.toFr σ) H' (.lst ds) (.ref a) := Rp.lst z (.inl ⟨E1.free n, .inl l⟩) (r.same sm)
      exact q _ H' ((E1.same sm).set hO rv) ((StS.of (s1.trans (Stp.same sm))).trans (StS.set hO))
    | _ => exact q.elim
/-! a built-in over a new object -/
theorem de_callN {x : Str} {id : String} {p : Pos} {r : List V → Hp → VK → Prop} {gg : List D → Option D} {te : M D} (hc : CallR X (.builtin id) r) (hg : AppD X.w X.K gg r) (hx : Gl X x) (hm : X.mg x = none) (hv : bootBuiltins x = some (.builtin id)) (h : DF X fr W e te) (hn : x ≠ "__name__" := by decide) (hdb : (x == ("__debug__" : Str)) = false := by decide)
    (he : starEach [e] X.env = (false, eval e X.env) :: starEach [] X.env := by rfl) (hpl : (backTo pos (starEach [] X.env)).any (·.1) = false := by rfl) (hk : fr.K = X.K := by rfl) (hw : fr.w = X.w := by rfl) : DE X fr W (.Call (.Name x p) [e] [] pos) (te.bind fun d => M.opt (gg [d])) :=
  pe_mono (pe_callB hc hx hm hv (pa_cons h pa_nil he) hn hdb he hpl) fun σ H Q ⟨ρ, E, h⟩ => ⟨ρ, E, wpR.mono (wpR.of_bind (r := te ρ) h) (fun d ρ1 q a H1 H' o E1 s1 n sm l ob => by
    cases hgd : gg [d] with
    | none => rw [hgd] at q; exact q.elim
    | some d' =>
      rw [hgd] at q
      have E2 := E1.same sm
      have ow : Ow fr.w fr.K (Good fr.toFr σ) H' d a := ⟨o, l, ob.move (fun b x g q => ⟨g, sm b x q⟩) (fun b xs q => sm b _ q) fun b ob u q => sm b _ q⟩
      have hg' : AppD fr.w fr.K gg r := hk ▸ hw ▸ hg
      exact hg' (Good fr.toFr σ) [d] [.ref a] d' H' Q (fun b hb => E2.free hb) hgd ⟨_, _, rfl, ow.rs, rfl⟩ fun v H'' s2 r2 => q v H'' (E2.same s2) ((s1.trans (Stp.same sm)).trans (Stp.same s2)) r2) fun _ _ q => q⟩
end
end DL
end
section
namespace DL
open PySem PySem.Spec L2
open PyProof.Rows hiding St
section
variable {X : Cx} {K : PySem.W.Frag} {G : Addr → Prop} {w : World} {H : Hp}
theorem Rs.setv {ds : List D} {v : V} (h : Rs w K G H (.set ds) v) : ∃ a, v = .ref a ∧ Ow w K G H (.set ds) a := h
/-! len, in, sorted of sets -/
def len3D : List D → Option D
  | [.set xs] => some (.int xs.length)
  | ds => len2D ds
theorem len3_ok : AppD X.w X.K len3D (fun xs H Q => (rLen X.K xs H Q ∨ rLenDct X xs H Q) ∨ rLenSet X xs H Q) := by
  intro G ds vs d H Q hG hg hr q
  unfold len3D at hg
  split at hg
  · obtain ⟨x, rfl, h1⟩ := rsl1 hr
    obtain ⟨a, rfl, o, e, z, hl, ks, rfl, r, nd⟩ := h1.setv
    cases hg
    have hlen := Paired.length r
    exact .inr ⟨a, ks, rfl, e, by rw [← hlen]; exact q _ H (Same.refl H) rp_int⟩
  · exact .inl (len2_ok G ds vs d H Q hG hg hr q)
theorem call_len3 : CallR X (.builtin "len") (fun xs H Q => (rLen X.K xs H Q ∨ rLenDct X xs H Q) ∨ rLenSet X xs H Q) := CallR.or call_len2 call_lenSetO
def in3D : List D → Option D
  | [y, .set xs] => if y.leaf then some (.bl (xs.any fun x => keyEq x y)) else none
  | ds => in2D ds
def notIn3D (l : List D) : Option D := notD1 (in3D l)
theorem Rs.leafRp {y : D} {v : V} (h : Rs w K G H y v) (hl : y.leaf = true) : Rp K G H y v := by
  cases y <;> first | exact h | cases hl
theorem set_inn {xs : List D} {y : D} {x v : V} {Q : VK} {n : Bool} (hl : y.leaf = true) (h1 : Rs X.w X.K G H y x) (h2 : Rs X.w X.K G H (.set xs) v) (q : Q (.bl (if n then !(xs.any fun z => keyEq z y) else xs.any fun z => keyEq z y)) H) : rInSet X n x v H Q := by
  obtain ⟨a, rfl, o, e, z, hlf, ks, rfl, r, nd⟩ := h2.setv
  obtain ⟨k, hk, hv, hd⟩ := leaf_v hl (h1.leafRp hl)
  have ha := ksR_any hk r
  have e2 : decide (k ∈ ks.map (·.1)) = xs.any fun z => keyEq z y := by
    cases hh : xs.any fun z => keyEq z y with
    | true => exact decide_eq_true (ha.mp hh)
    | false => exact decide_eq_false fun z => by rw [ha.mpr z] at hh; cases hh
  exact ⟨a, ks, k, rfl, e, ksR_leaves r hlf, hv, by rw [e2]; exact q⟩
theorem in3_ok : AppD X.w X.K in3D (r2 (fun x y H Q => (rInX X.K false x y H Q ∨ rInDct X false x y H Q) ∨ rInSet X false x y H Q)) := by
  intro G ds vs d H Q hG hg hr q
  unfold in3D at hg
  split at hg
  · split at hg
    · rename_i hl
      obtain ⟨x, y, rfl, h1, h2⟩ := rsl2 hr
      cases hg
      exact .inr (set_inn (n := false) hl h1 h2 (q _ H (Same.refl H) rp_bl))
    · cases hg
  · have := in2_ok (X := X) G ds vs d H Q hG hg hr q
    match vs, this with
    | [x, y], this => exact .inl this
theorem notIn3_ok : AppD X.w X.K notIn3D (r2 (fun x y H Q => (rInX X.K true x y H Q ∨ rInDct X true x y H Q) ∨ rInSet X true x y H Q)) := by
  intro G ds vs d H Q hG hg hr q
  unfold notIn3D in3D at hg
  split at hg
  · split at hg
    · rename_i hl
      obtain ⟨x, y, rfl, h1, h2⟩ := rsl2 hr
      cases hg
      exact .inr (set_inn (n := true) hl h1 h2 (q _ H (Same.refl H) rp_bl))
    · cases hg
  · have := notIn2_ok (X := X) G ds vs d H Q hG hg hr q
    match vs, this with
    | [x, y], this => exact .inl this
theorem op_in3 (hu : X.A.units + 65 < cLine) : OpR X (compareOp .In) (fun x y H Q => (rInX X.K false x y H Q ∨ rInDct X false x y H Q) ∨ rInSet X false x y H Q) := OpR.or (op_in2 hu) or_inSet
theorem op_notIn3 (hu : X.A.units + 65 < cLine) : OpR X (compareOp .NotIn) (fun x y H Q => (rInX X.K true x y H Q ∨ rInDct X true x y H Q) ∨ rInSet X true x y H Q) := OpR.or (op_notIn2 hu) or_notInSet
def sorted2D : List D → Option D
  | [.set xs] => if xs.length < 64 then (match intsL xs with
    | some ns => some (.lst ((ns.mergeSort fun a b => decide (a ≤ b)).map .int))
    | none => match strsL xs with
      | some zs => some (.lst ((zs.mergeSort leS).map .str))
      | none => none) else none
  | ds => sortedD ds
theorem ksR_vals : ∀ {ds : List D} {ks : List (NestedKey × V)}, KsR K G H ds ks → RpL K G H ds (ks.map (·.2))
  | _, _, .nil => RpL.nil
  | _, _, .cons r t => RpL.cons r.2.2 (ksR_vals t)
theorem sorted2_ok : AppD X.w X.K sorted2D (fun xs H Q => rSortX X.K xs H Q ∨ rSortSet X xs H Q) := by
  intro G ds vs d H Q hG hg hr q
  unfold sorted2D at hg
  split at hg
  · obtain ⟨x, rfl, h1⟩ := rsl1 hr
    obtain ⟨a, rfl, o, e, z, hl, ks, rfl, r, nd⟩ := h1.setv
    have hlen := Paired.length r
    have rl := ksR_vals r
    split at hg
    · rename_i h64
      refine .inr ⟨a, ks, rfl, e, by omega, ?_⟩
      split at hg
      · rename_i ns en
        cases hg
        rw [ints_eq en] at rl hlen
        refine .inl ⟨ns, RpL.«ints» rl, fun ns' p hp hs hn => ?_⟩
        have he : ns' = ns.mergeSort fun a b => decide (a ≤ b) := by
          refine List.Perm.eq_of_pairwise (le := fun a b => a ≤ b) (fun a b _ _ h1 h2 => Int.le_antisymm h1 h2) hs ?_ (hp.trans (List.mergeSort_perm _ _).symm)
          have := List.pairwise_mergeSort (le := fun a b : Int => decide (a ≤ b)) (fun a b c h1 h2 => by simp only [decide_eq_true_eq] at *; omega) (fun a b => by simp only [Bool.or_eq_true, decide_eq_true_eq]; omega) ns
          exact this.imp fun h => of_decide_eq_true h
        rw [he]
        refine q _ _ (same_upd hn) (newL hG ?_ rpl_ints hn)
        rw [List.length_map, List.length_mergeSort, sizeLine_eq]
        rw [ints_eq en, List.length_map] at h64
        omega
      · split at hg
        · rename_i zs en
          cases hg
          rw [strs_eq en] at rl hlen
          have hsl := RpL.strLen rl
          refine .inr ⟨zs, RpL.«strs» rl, fun ys p hp hs hn => ?_⟩
          have he : ys = zs.mergeSort leS := List.Perm.eq_of_pairwise (le := fun a b => leS a b = true) (fun a b _ _ h1 h2 => leS_antisymm h1 h2) (sortedS_all hs) (List.pairwise_mergeSort leS_trans leS_total zs) (hp.trans (List.mergeSort_perm _ _).symm)
          rw [he]
          refine q _ _ (same_upd hn) (newL hG ?_ (rpl_strs fun z hz' => hsl z ((List.mergeSort_perm _ _).mem_iff.mp hz')) hn)
          rw [List.length_map, List.length_mergeSort, sizeLine_eq]
          rw [strs_eq en, List.length_map] at h64
          omega
        · cases hg
    · cases hg
  · exact .inl (sorted_ok (w := X.w) (K := X.K) G ds vs d H Q hG hg hr q)
theorem cr_sort2 (hc : X.calm = true) : CallR X (.builtin "sorted") (fun xs H Q => rSortX X.K xs H Q ∨ rSortSet X xs H Q) := CallR.or cr_sortX (cr_sortSet hc)
/-! truth of dicts -/
end
end DL
end
section
namespace DL
open PySem PySem.Spec L2
open PyProof.Rows hiding St
/-! a list's comprehension, in its short form -/
theorem lpL_list (vs : List Nat) (g : MG) (tt : M Bool) (te : M D) : ∀ (ds acc : List D) (ρ : DL.Env), acc.length + ds.length ≤ 16777216 → lpL vs g tt (emL te) ds (.lst acc) ρ = (lcL vs g tt te ds ρ).bind fun ys ρ' => .ok (.lst (acc ++ ys)) ρ'
  | [], acc, ρ, h => by simp only [lpL, lcL, Res.bind, List.append_nil]
  | d :: ds, acc, ρ, h => by
    simp only [List.length_cons] at h
    simp only [lpL, lcL]
    cases g d ρ with
    | none => rfl
    | some ρ1 =>
      dsimp only
      cases (tt ρ1).noX with
      | exn e r => rfl
      | stuck => rfl
      | ok b ρ2 =>
        simp only [Res.bind]
        cases b with
        | false =>
          simp only [Bool.false_eq_true, if_false]
          exact lpL_list vs g tt te ds acc _ (by omega)
        | true =>
          simp only [if_true, emL]
          cases (te ρ2).noX with
          | exn e r => rfl
          | stuck => rfl
          | ok y ρ3 =>
            simp only [Res.bind]
            have hl : lenOk (acc.length + 1) = true := decide_eq_true (by omega)
            rw [if_pos hl]
            dsimp only
            rw [lpL_list vs g tt te ds (acc ++ [y]) _ (by simp; omega)]
            cases lcL vs g tt te ds (wipeE ρ3 vs) with
            | ok ys r => simp only [Res.bind, List.append_assoc, List.cons_append, List.nil_append]
            | exn e r => rfl
            | stuck => rfl
theorem eCp_list (f : M (List D)) (vs : List Nat) (g : MG) (tt : M Bool) (te : M D) : eCp f vs g tt (emL te) (.lst []) = eLc f vs g tt te := by
  funext ρ
  unfold eCp eLc
  show Res.bind _ _ = Res.bind _ _
  cases f ρ with
  | exn e r => rfl
  | stuck => rfl
  | ok ds ρ1 =>
    simp only [Res.bind]
    by_cases h : lenOk ds.length = true
    · rw [if_pos h, if_pos h, lpL_list vs g tt te ds [] _ (by simpa using of_decide_eq_true h)]
      have hn := lcL_noX vs g tt te ds (wipeE ρ1 vs)
      cases e : lcL vs g tt te ds (wipeE ρ1 vs) with
      | ok ys r => rfl
      | exn e' r => rw [e] at hn; cases hn
      | stuck => rfl
    · rw [if_neg h, if_neg h]
section
variable {X : Cx} {fr : Fx} {W : WX} {tg iter elt : Expr} {ifs : List Expr} {scope : Scope} {own : List (Str × Nat)} {pos : Pos} {sl : List Nat} {f : M (List D)} {g : MG} {tt : M Bool} {te : M D}
theorem dc_lc (hc : X.calm = true) (hN : X.N.Nodup) (hi : DI X fr W tg iter f) (ok : BlkOk X.N X.env.scope scope own) (hf : Free fr.toFr (own.map (·.2))) (hsl : ∀ i, i ∈ sl → i ∈ own.map (·.2))
    (hg : Blk X scope fun Y => ∀ xp, DG Y (fr.xp xp) sl tg g) (ht : Blk X scope fun Y => ∀ xp, DTs Y (fr.xp xp) W0 ifs tt) (h : Blk X scope fun Y => ∀ xp, DE Y (fr.xp xp) W0 elt te) (hs : ∀ x, foldedSetIterable iter X.env x = pure x := by intro _; rfl) :
    DC X fr W (.ListComp elt [⟨tg, iter, ifs, 0⟩] scope pos) (eLc f (own.map (·.2)) g tt te) := by
  have := dc_l1 (pos := pos) hc hN hi ok hf hsl hg ht h hs
  rwa [eCp_list] at this
end
end DL
end
section
namespace DL
open PySem PySem.Spec L2
open PyProof.Rows hiding St
/-! ### the law's own end -/
theorem funD_eq {K : PySem.W.Frag} {x q : Str} {ps : Arguments} {b : List Stmt} {sc : Scope} {dvs dvs' : List V} {kws kws' : List (Str × V)} {f : Addr} {fd fd' : FuncData} (F : FunD K x q ps b sc dvs kws f fd) (F' : FunD K x q ps b sc dvs' kws' f fd') : fd' = fd := by
  obtain ⟨oc, od, dV, kV, doc, pm, an, cdv, ct, osl, e1, l, _⟩ := F.ex
  obtain ⟨oc', od', dV', kV', doc', pm', an', cdv', ct', osl', e1', l', _⟩ := F'.ex
  rw [l] at l'
  injection l' with l'
  injection l' with _ _ l' _
  injection l' with l'
  exact l'.symm
theorem walk_D {l : PySem.W.OpenLaw} {n k : Nat} {q : Program} {loose : List Str} {XP : (Str → Option Value) → Heap → Prop} {YP : World → Heap → Prop} {d : DefRec} {x lw : Str} {st : Stmt} {m : Fn} (xr : World → PySem.W.Frag → XR)
    (hn : l.most = some n) (hn2 : n ≤ sizeLine) (hdf : d.params.defaults = []) (hr : Room k callerA) (hnm : d.name = lw)
    (hb : ∀ (kV doc pm : Value) (an : Option Addr) (cdv ct : Value) (us : List Value), us.length = [x].length → bindArgs (PySem.W.fnOf lw lw (defArgs st) (defBody st) (defScope st) .none kV doc pm an cdv ct) ⟨us, []⟩ = pure ([x].zip us))
    (F : ∀ (w : World) (mg : Str → Option Value) (h : Heap), YP w h → h.Ns mainGlobals mg → ∃ K : PySem.W.Frag, K.In h ∧ Fd K mg lw st [] ∧ ∀ base : Heap, K.In base → base.Ns mainGlobals mg → Okf l.prog w K mg base (xr w K) lw st [] k false [x] [] m)
    (hm : ∀ ns : List Int, ns.length ≤ n → m [.lst (ns.map .int)] = .ok (.bl true) []) :
    PySem.W.WalkO q loose XP YP l.row.toRowW d [] (fun f vs => PySem.call f vs) := by
  refine Att.attach_call hn hdf fun w s₀ s₁ mg mb fa o pm cd doc a vs ns G Y ho hd hcd hmg hobj hints hlen hg => ?_
  obtain ⟨K, KX, ⟨f, fd, hmf, FD⟩, hF⟩ := F w mg _ Y G.T.g
  have e : fa = f := by
    rw [hnm, hmf] at hmg
    cases hmg
    rfl
  subst e
  refine law_call (K := K) (CX := L2N.CX l.prog w) (sp := spD w K (xr w K) false 1 [] m) KX G.T.g G.T.b G.T.builtins G.T.nolimit hg hobj hints (Nat.le_trans hlen hn2) hr (fun base h1 h2 => ?_) (fun s u => FD.bindsA hb s [u] rfl) (fun H hO hS => law_sp hm hn2 H a ns hlen hS) fun H e s' c => ?_
  · obtain ⟨f', fd', h3, h4, h5⟩ := hF base h1 h2
    rw [hmf] at h4
    cases h4
    rw [funD_eq FD h5] at h3
    exact h3
  · obtain ⟨_, _, _, _, _, _, _, _, _, _, _, _, z⟩ := c
    exact z
end DL
end
section
namespace DL
open PySem PySem.Spec L2
open PyProof.Rows hiding St
/-! ### walks over texts too -/
def signs (x : Str) : List D := x.cps.toList.map fun c => .str ⟨#[c]⟩
def iSeq2 (f : M D) : M (List D) := f.bind fun d => match d with
  | .tup ds => M.pure ds
  | .lst ds => M.pure ds
  | .str x => M.pure (signs x)
  | _ => fun _ => .stuck
section
variable {X : Cx} {fr : Fx} {W : WX} {tg e : Expr} {f : M D}
theorem it_str {K : PySem.W.Frag} {G0 : Addr → Prop} {H : Hp} {x : Str} : ItOk K (Its x) (signs x) G0 H where
  go := fun i H1 s hi => by
    show i < x.cps.size
    simpa [signs] using hi
  yld := fun i H1 v H' d s hd y => by
    obtain ⟨rfl, c, hc, rfl⟩ := y
    refine ⟨Same.refl _, fun G _ _ => ?_⟩
    simp only [signs, List.getElem?_map, Option.map_eq_some_iff] at hd
    obtain ⟨c', h1, rfl⟩ := hd
    rw [Array.getElem?_toList, hc] at h1
    cases h1
    exact rp_str (by show 1 ≤ _; rw [sizeLine_eq]; decide)
  stop := fun i H1 s hi => by
    show x.cps.size ≤ i
    simpa [signs] using hi
theorem di_seq2 (h : DE X fr W e f) (hk : fr.K = X.K) : DI X fr W tg e (iSeq2 f) :=
  pi_mono (pi_or (pi_LT h) (pi_str h)) fun σ H R ⟨ρ, E, hw⟩ => by
    have hw' := wpR.of_bind (r := f ρ) hw
    cases ef : f ρ with
    | ok d ρ1 =>
      rw [ef] at hw'
      cases d with
      | str x =>
        refine .inr ⟨ρ, E, ?_⟩
        rw [ef]
        exact fun v H1 E1 s1 r1 => ⟨x, (r1.rs (w := fr.w)).str, hw' _ H1 E1 s1 it_str⟩
      | tup ds =>
        refine .inl ⟨ρ, E, ?_⟩
        rw [ef]
        intro v H1 E1 s1 r1
        obtain ⟨a, vs, rfl, z, l, r⟩ := r1.un_tup
        exact ⟨a, rfl, .inr ⟨⟨vs, hk ▸ l⟩, hw' _ H1 E1 s1 (hk ▸ it_tup l r)⟩⟩
      | lst ds =>
        refine .inl ⟨ρ, E, ?_⟩
        rw [ef]
        intro v H1 E1 s1 r1
        obtain ⟨a, vs, rfl, z, l, r⟩ := r1.un_lst
        exact ⟨a, rfl, .inl ⟨⟨vs, hk ▸ l.seq⟩, hw' _ H1 E1 s1 (hk ▸ it_list l r)⟩⟩
      | _ => exact hw'.elim
    | exn x ρ1 =>
      rw [ef] at hw'
      refine .inl ⟨ρ, E, ?_⟩
      rw [ef]
      exact hw'
    | stuck => rw [ef] at hw'; exact hw'.elim
end
end DL
end
section
namespace DL
open PySem
/-! ### evaluation, by simp -/
def cnd {α : Type} (b : Bool) (x y : α) : α := match b with
  | true => x
  | false => y
section
variable {α β : Type} (b c : Bool) (p q : α) (ρ : DL.Env)
@[simp] theorem cnd_t : cnd true p q = p := rfl
@[simp] theorem cnd_f : cnd false p q = q := rfl
@[simp] theorem cnd_same : cnd b p p = p := by cases b <;> rfl
@[simp] theorem cnd_not : cnd (!b) p q = cnd b q p := by cases b <;> rfl
theorem cnd_ite : (if b = true then p else q) = cnd b p q := by cases b <;> rfl
@[simp] theorem bind_cnd (r s : Res α) (f : α → M β) : (cnd b r s).bind f = cnd b (r.bind f) (s.bind f) := by cases b <;> rfl
@[simp] theorem ok_and : cnd b (Res.ok (D.bl c) ρ) (Res.ok (D.bl false) ρ) = .ok (.bl (b && c)) ρ := by cases b <;> rfl
@[simp] theorem ok_and2 : cnd b (Res.ok (D.bl c) ρ) (Res.ok (D.bl b) ρ) = .ok (.bl (b && c)) ρ := by cases b <;> rfl
@[simp] theorem ok_or2 : cnd b (Res.ok (D.bl b) ρ) (Res.ok (D.bl c) ρ) = .ok (.bl (b || c)) ρ := by cases b <;> rfl
@[simp] theorem ok_or3 : cnd b (Res.ok (D.bl true) ρ) (Res.ok (D.bl c) ρ) = .ok (.bl (b || c)) ρ := by cases b <;> rfl
@[simp] theorem ok_ift : cnd b (Res.ok (D.bl false) ρ) (Res.ok (D.bl c) ρ) = .ok (.bl (!b && c)) ρ := by cases b <;> rfl
@[simp] theorem okb_and : cnd b (Res.ok c ρ) (Res.ok false ρ) = .ok (b && c) ρ := by cases b <;> rfl
@[simp] theorem okb_or : cnd b (Res.ok true ρ) (Res.ok c ρ) = .ok (b || c) ρ := by cases b <;> rfl
end
def tK {α : Type} (o : Option Bool) (x y : Res α) : Res α := match o with
  | some true => x
  | some false => y
  | none => .stuck
@[simp] theorem tK_some {α : Type} (b : Bool) (x y : Res α) : tK (some b) x y = cnd b x y := by cases b <;> rfl
def bK {α : Type} (o : Option D) (x y : Res α) : Res α := match o with
  | some (.bl true) => x
  | some (.bl false) => y
  | _ => .stuck
@[simp] theorem bK_some {α : Type} (b : Bool) (x y : Res α) : bK (some (.bl b)) x y = cnd b x y := by cases b <;> rfl
@[simp] theorem tr_bl (b : Bool) : truthD (.bl b) = some b := rfl
@[simp] theorem tr_int (i : Int) : truthD (.int i) = some (i != 0) := rfl
@[simp] theorem tr_str (z : Str) : truthD (.str z) = some (z.length != 0) := rfl
@[simp] theorem tr_tup (xs : List D) : truthD (.tup xs) = some (!xs.isEmpty) := rfl
@[simp] theorem tr_lst (xs : List D) : truthD (.lst xs) = some (!xs.isEmpty) := rfl
@[simp] theorem tr_non : truthD .non = some false := rfl
@[simp] theorem notD_bl (b : Bool) : notD [.bl b] = some (.bl (!b)) := rfl
@[simp] theorem leD_int (i j : Int) : leD [.int i, .int j] = some (.bl (decide (i ≤ j))) := rfl
@[simp] theorem ltD_int (i j : Int) : ltD [.int i, .int j] = some (.bl (decide (i < j))) := rfl
@[simp] theorem gtD_int (i j : Int) : gtD [.int i, .int j] = some (.bl (decide (j < i))) := rfl
@[simp] theorem geD_int (i j : Int) : geD [.int i, .int j] = some (.bl (decide (j ≤ i))) := rfl
@[simp] theorem ltD_str (x y : Str) : ltD [.str x, .str y] = some (.bl (ltS x y)) := rfl
@[simp] theorem addD_int (i j : Int) : addD [.int i, .int j] = some (.int (i + j)) := rfl
@[simp] theorem subD_int (i j : Int) : subD [.int i, .int j] = some (.int (i - j)) := rfl
@[simp] theorem negD_int (i : Int) : negD [.int i] = some (.int (-i)) := rfl
@[simp] theorem len_str (z : Str) : len3D [.str z] = some (.int z.length) := rfl
@[simp] theorem len_tup (z : List D) : len3D [.tup z] = some (.int z.length) := rfl
@[simp] theorem len_lst (z : List D) : len3D [.lst z] = some (.int z.length) := rfl
@[simp] theorem is_bl (a b : Bool) : isD [.bl a, .bl b] = some (.bl (decide (a = b))) := rfl
@[simp] theorem list_tup (z : List D) : list2D [.tup z] = some (.lst z) := rfl
@[simp] theorem list_lst (z : List D) : list2D [.lst z] = some (.lst z) := rfl
@[simp] theorem tuple_tup (z : List D) : tupleD [.tup z] = some (.tup z) := rfl
@[simp] theorem tuple_lst (z : List D) : tupleD [.lst z] = some (.tup z) := rfl
section
variable {α β : Type} (ρ ρ' : DL.Env) (f h : M D) (fa fb fc : ArgM) (g : List D → Option D) (d : D) (i j : Nat)
@[simp] theorem ev_eV : eV i ρ = match ρ[i]? with | some (some d) => .ok d ρ | _ => .stuck := rfl
@[simp] theorem ev_app1v : appM [.v f] g ρ = (f ρ).bind fun a => M.opt (g [a]) := by
  cases e : f ρ <;> simp [appM, evalA, fillA, e]
@[simp] theorem ev_app2v : appM [.v f, .v h] g ρ = (f ρ).bind fun a ρ1 => (h ρ1).bind fun b => M.opt (g [a, b]) := by
  cases e : f ρ with
  | ok a ρ1 => cases e1 : h ρ1 <;> simp [appM, evalA, fillA, e, e1]
  | _ => simp [appM, evalA, fillA, e]
@[simp] theorem ev_app3v (k : M D) : appM [.v f, .v h, .v k] g ρ = (f ρ).bind fun a ρ1 => (h ρ1).bind fun b ρ2 => (k ρ2).bind fun c => M.opt (g [a, b, c]) := by
  cases e : f ρ with
  | ok a ρ1 =>
    cases e1 : h ρ1 with
    | ok b ρ2 => cases e2 : k ρ2 <;> simp [appM, evalA, fillA, e, e1, e2]
    | _ => simp [appM, evalA, fillA, e, e1]
  | _ => simp [appM, evalA, fillA, e]
@[simp] theorem ev_app1p : appM [.p j] g ρ = match ρ[j]? with | some (some d) => M.opt (g [d]) ρ | _ => .stuck := by
  rcases e : ρ[j]? with _ | _ | d <;> simp [appM, evalA, fillA, e]
@[simp] theorem ev_app2pv : appM [.p j, .v f] g ρ = match ρ[j]? with
    | some (some _) => (f ρ).bind fun b ρ1 => match ρ1[j]? with | some (some d) => M.opt (g [d, b]) ρ1 | _ => .stuck
    | _ => .stuck := by
  rcases e : ρ[j]? with _ | _ | d
  · simp [appM, evalA, fillA, e]
  · simp [appM, evalA, fillA, e]
  · cases e1 : f ρ with
    | ok a ρ1 => rcases e2 : ρ1[j]? with _ | _ | d' <;> simp [appM, evalA, fillA, e, e1, e2]
    | _ => simp [appM, evalA, fillA, e, e1]
@[simp] theorem ev_app2vp : appM [.v f, .p j] g ρ = (f ρ).bind fun b ρ1 => match ρ1[j]? with | some (some d) => M.opt (g [b, d]) ρ1 | _ => .stuck := by
  cases e : f ρ with
  | ok a ρ1 => rcases e2 : ρ1[j]? with _ | _ | d' <;> simp [appM, evalA, fillA, e, e2]
  | _ => simp [appM, evalA, fillA, e]
@[simp] theorem ev_and : eAnd f h ρ = (f ρ).bind fun d ρ => tK (truthD d) (h ρ) (.ok d ρ) := rfl
@[simp] theorem ev_or : eOr f h ρ = (f ρ).bind fun d ρ => tK (truthD d) (.ok d ρ) (h ρ) := by
  show Res.bind _ _ = Res.bind _ _
  congr 1
  funext d ρ
  cases truthD d with
  | none => rfl
  | some b => cases b <;> rfl
@[simp] theorem ev_tru : eTru f ρ = (f ρ).bind fun d => M.opt (truthD d) := rfl
@[simp] theorem ev_tst : eTst f ρ = (f ρ).bind fun d => match d with | .bl b => M.pure b | _ => fun _ => .stuck := rfl
@[simp] theorem ev_if (t : M Bool) : eIf t f h ρ = (t ρ).bind fun c ρ => cnd c (f ρ) (h ρ) := by
  show Res.bind _ _ = Res.bind _ _
  congr 1
  funext c ρ
  cases c <;> rfl
@[simp] theorem ev_tand (t u : M Bool) : tAndM t u ρ = (t ρ).bind fun c ρ => cnd c (u ρ) (.ok false ρ) := by
  show Res.bind _ _ = Res.bind _ _
  congr 1
  funext c ρ
  cases c <;> rfl
@[simp] theorem ev_tor (t u : M Bool) : tOrM t u ρ = (t ρ).bind fun c ρ => cnd c (.ok true ρ) (u ρ) := by
  show Res.bind _ _ = Res.bind _ _
  congr 1
  funext c ρ
  cases c <;> rfl
@[simp] theorem ev_tnot (t : M Bool) : tNotM t ρ = (t ρ).bind fun c => M.pure (!c) := rfl
@[simp] theorem ev_seq (s t : M Fl) : sSeq s t ρ = (s ρ).bind fun fl ρ => match fl with | .nx => t ρ | fl => .ok fl ρ := rfl
@[simp] theorem ev_nx : sNx ρ = .ok .nx ρ := rfl
@[simp] theorem ev_bk : sBk ρ = .ok .bk ρ := rfl
@[simp] theorem ev_ct : sCt ρ = .ok .ct ρ := rfl
@[simp] theorem ev_sif (t : M Bool) (s u : M Fl) : sIf t s u ρ = (t ρ).bind fun c ρ => cnd c (s ρ) (u ρ) := by
  show Res.bind _ _ = Res.bind _ _
  congr 1
  funext c ρ
  cases c <;> rfl
@[simp] theorem ev_ret : sRet f ρ = (f ρ).bind fun d => M.pure (.rt d) := rfl
@[simp] theorem ev_retF : sRetF f ρ = (f ρ).bind fun d => M.pure (.rf d) := rfl
@[simp] theorem ev_retN : sRetN ρ = .ok (.rt .non) ρ := rfl
@[simp] theorem ev_asg (g : MG) : sAsg f g ρ = (f ρ).bind fun d ρ => match g d ρ with | some ρ' => .ok .nx ρ' | none => .stuck := rfl
@[simp] theorem ev_asgO : sAsgO i f ρ = (f ρ).bind fun d ρ => .ok .nx (ρ.set i (some d)) := rfl
@[simp] theorem ev_gV : gV i d ρ = some (ρ.set i (some d)) := rfl
@[simp] theorem ev_new : eNew f ρ = (f ρ).bind fun d => match d with | .lst ds => M.pure (.lst ds) | _ => fun _ => .stuck := rfl
@[simp] theorem ev_tup (fs : List (M D)) : eTup fs ρ = (evalV fs ρ).bind fun ds => M.opt (if lenOk ds.length then some (.tup ds) else none) := rfl
@[simp] theorem ev_lst (fs : List (M D)) : eLst fs ρ = (evalV fs ρ).bind fun ds => M.opt (if lenOk ds.length then some (.lst ds) else none) := rfl
@[simp] theorem ev_V0 : evalV [] ρ = .ok [] ρ := rfl
@[simp] theorem ev_V1 (fs : List (M D)) : evalV (f :: fs) ρ = (f ρ).bind fun d ρ1 => (evalV fs ρ1).bind fun ds => M.pure (d :: ds) := rfl
@[simp] theorem ev_chain (k : M D) (g g' : List D → Option D) : eChain f h k g g' ρ = (f ρ).bind fun x ρ => (h ρ).bind fun y ρ => bK (g [x, y]) ((k ρ).bind fun z => M.opt (g' [y, z])) (.ok (.bl false) ρ) := rfl
@[simp] theorem ev_asInt : asInt f ρ = (f ρ).bind fun d => match d with | .int i => M.pure (.int i) | _ => fun _ => .stuck := by
  rfl
@[simp] theorem ev_asStr : asStr f ρ = (f ρ).bind fun d => match d with | .str i => M.pure (.str i) | _ => fun _ => .stuck := by
  rfl
@[simp] theorem ev_iSeq2 : iSeq2 f ρ = (f ρ).bind fun d => match d with | .tup ds => M.pure ds | .lst ds => M.pure ds | .str x => M.pure (signs x) | _ => fun _ => .stuck := rfl
@[simp] theorem ev_rf (fl : M (List D)) (g : MG) (b : M Fl) : sFor fl g b ρ = (fl ρ).bind fun ds => forL g b ds := rfl
theorem lenOk_lit {n : Nat} (h : n ≤ 16777216) : lenOk n = true := decide_eq_true h
end
end DL
end
section
namespace DL
open PySem
/-- a def's end: nothing is handed back in its parameters -/
def fnE : Res Fl → FRes
  | .ok (.rt d) _ => .ok d []
  | .ok (.rf (.lst ds)) _ => .ok (.lst ds) []
  | .ok .nx _ => .ok .non []
  | .exn e _ => .exn e []
  | _ => .stuck
@[simp] theorem fnE_rt (d : D) (ρ : DL.Env) : fnE (.ok (.rt d) ρ) = .ok d [] := rfl
@[simp] theorem fnE_rf (d : List D) (ρ : DL.Env) : fnE (.ok (.rf (.lst d)) ρ) = .ok (.lst d) [] := rfl
@[simp] theorem fnE_nx (ρ : DL.Env) : fnE (.ok .nx ρ) = .ok .non [] := rfl
@[simp] theorem fnE_cnd (b : Bool) (r s : Res Fl) : fnE (cnd b r s) = cnd b (fnE r) (fnE s) := by cases b <;> rfl
section
variable (b c : Bool)
@[simp] theorem fr_and : cnd b (FRes.ok (D.bl c) []) (FRes.ok (D.bl false) []) = .ok (.bl (b && c)) [] := by cases b <;> rfl
@[simp] theorem fr_and2 : cnd b (FRes.ok (D.bl c) []) (FRes.ok (D.bl b) []) = .ok (.bl (b && c)) [] := by cases b <;> rfl
@[simp] theorem fr_or2 : cnd b (FRes.ok (D.bl b) []) (FRes.ok (D.bl c) []) = .ok (.bl (b || c)) [] := by cases b <;> rfl
@[simp] theorem fr_or3 : cnd b (FRes.ok (D.bl true) []) (FRes.ok (D.bl c) []) = .ok (.bl (b || c)) [] := by cases b <;> rfl
@[simp] theorem fr_ift : cnd b (FRes.ok (D.bl false) []) (FRes.ok (D.bl c) []) = .ok (.bl (!b && c)) [] := by cases b <;> rfl
end
@[simp] theorem fn_nw0 (n : Nat) (g : M Fl) (ds : List D) : mkFn false n [] g ds = fnE (g (ds.map some ++ List.replicate (n - ds.length) none)) := by
  unfold mkFn
  cases g (ds.map some ++ List.replicate (n - ds.length) none) with
  | ok a ρ => cases a with
    | rf d => cases d <;> rfl
    | _ => rfl
  | _ => rfl
@[simp] theorem ev_call0 (m : Fn) (as : List ArgM) (dvs : List D) (ρ : DL.Env) : eCall m [] as dvs ρ = (evalA as ρ).bind fun ods ρ => match fillA as ods ρ with
    | none => .stuck
    | some ds => match m (ds ++ dvs) with
      | .ok d [] => .ok d ρ
      | .exn e [] => .exn e ρ
      | _ => .stuck := by
  unfold eCall
  show Res.bind _ _ = Res.bind _ _
  congr 1
  funext ods ρ
  cases fillA as ods ρ with
  | none => rfl
  | some ds =>
    dsimp only
    cases m (ds ++ dvs) with
    | ok d o => cases o <;> rfl
    | exn d o => cases o <;> rfl
    | stuck => rfl
theorem isi_py (d : D) (n : String) (h : d.isPy = true) (hn : tyAsk.contains n = true) : isiD [d, .ty n] = some (.bl (isTy (tyNm d) n)) := by
  have : tyHas.contains (tyNm d) = true := by cases d <;> first | rfl | cases h
  simp only [isiD, hn, this, Bool.and_self, if_true]
/-! comprehensions with one name -/
theorem lc_one {i : Nat} {ρ : DL.Env} {tt : M Bool} {te : M D} {T : D → Bool} {F : D → D} : ∀ {ds : List D}, (∀ d ∈ ds, tt (ρ.set i (some d)) = .ok (T d) (ρ.set i (some d))) → (∀ d ∈ ds, T d = true → te (ρ.set i (some d)) = .ok (F d) (ρ.set i (some d))) →
    lcL [i] (gV i) tt te ds (ρ.set i none) = .ok ((ds.filter T).map F) (ρ.set i none)
  | [], _, _ => rfl
  | d :: ds, hT, hF => by
    have ih := lc_one (i := i) (ρ := ρ) (tt := tt) (te := te) (T := T) (F := F) (ds := ds) (fun d h => hT d (List.mem_cons_of_mem _ h)) fun d h => hF d (List.mem_cons_of_mem _ h)
    have e1 := hT d (List.mem_cons_self ..)
    have e2 := hF d (List.mem_cons_self ..)
    unfold lcL
    simp only [ev_gV, List.set_set, e1, Res.noX_ok, Res.bind_ok]
    cases ht : T d with
    | false =>
      simp only [Bool.false_eq_true, if_false, wipeE, List.set_set, ih, List.filter_cons, ht]
    | true =>
      simp only [if_true, e2 ht, Res.noX_ok, Res.bind_ok, wipeE, List.set_set, ih, List.filter_cons, ht, List.map_cons]
theorem set_back {i : Nat} {ρ : DL.Env} (hi : i < ρ.length) : restE ρ (ρ.set i none) [i] = ρ := by
  unfold restE restE
  rw [List.set_set]
  apply List.ext_getElem?
  intro j
  by_cases h : i = j
  · subst h
    rw [List.getElem?_set_self hi, List.getElem?_eq_getElem hi]
    rfl
  · rw [List.getElem?_set_ne h]
theorem eLc_one {i : Nat} {ρ : DL.Env} {f : M (List D)} {tt : M Bool} {te : M D} {T : D → Bool} {F : D → D} {ds : List D} (hf : f ρ = .ok ds ρ) (hl : ds.length ≤ 16777216) (hi : i < ρ.length) (hT : ∀ d ∈ ds, tt (ρ.set i (some d)) = .ok (T d) (ρ.set i (some d)))
    (hF : ∀ d ∈ ds, T d = true → te (ρ.set i (some d)) = .ok (F d) (ρ.set i (some d))) : eLc f [i] (gV i) tt te ρ = .ok (.lst ((ds.filter T).map F)) ρ := by
  unfold eLc
  simp only [M.bind_app, hf, Res.bind_ok, lenOk_lit hl, if_true]
  have : wipeE ρ [i] = ρ.set i none := rfl
  rw [this, lc_one hT hF]
  simp only [Res.bind_ok, set_back hi]
/-- without a test -/
theorem eLc_all {i : Nat} {ρ : DL.Env} {f : M (List D)} {te : M D} {F : D → D} {ds : List D} (hf : f ρ = .ok ds ρ) (hl : ds.length ≤ 16777216) (hi : i < ρ.length) (hF : ∀ d ∈ ds, te (ρ.set i (some d)) = .ok (F d) (ρ.set i (some d))) :
    eLc f [i] (gV i) tTrue te ρ = .ok (.lst (ds.map F)) ρ := by
  have := eLc_one (T := fun _ => true) (tt := tTrue) hf hl hi (fun d _ => rfl) fun d h _ => hF d h
  have hft : ds.filter (fun _ => true) = ds := List.filter_eq_self.mpr fun _ _ => rfl
  rwa [hft] at this
/-! texts of one sign -/
theorem ltS_sign (c d : Nat) : ltS ⟨#[c]⟩ ⟨#[d]⟩ = decide (c < d) := by
  simp only [ltS]
  congr 1
  apply propext
  show ([c] : List Nat) < [d] ↔ c < d
  rw [List.cons_lt_cons_iff]
  simp
theorem le_sign (c d : Nat) : leD [.str ⟨#[c]⟩, .str ⟨#[d]⟩] = some (.bl (decide (c ≤ d))) := by
  simp only [leD, ltS_sign]
  by_cases h : c ≤ d
  · simp [h]
  · simp [h, Nat.lt_of_not_le h]
theorem all_bl {α : Type} (xs : List α) (p : α → Bool) : allD [.lst (xs.map fun x => .bl (p x))] = some (.bl (xs.all p)) := by
  have : ∀ xs : List α, boolsL (xs.map fun x => .bl (p x)) = some (xs.map p) := by
    intro xs
    induction xs with
    | nil => rfl
    | cons x xs ih => simp only [List.map_cons, boolsL, ih, Option.map_some]
  simp only [allD, this, Option.map_some, List.all_map]
  rfl
theorem any_bl {α : Type} (xs : List α) (p : α → Bool) : anyD [.lst (xs.map fun x => .bl (p x))] = some (.bl (xs.any p)) := by
  have : ∀ xs : List α, boolsL (xs.map fun x => .bl (p x)) = some (xs.map p) := by
    intro xs
    induction xs with
    | nil => rfl
    | cons x xs ih => simp only [List.map_cons, boolsL, ih, Option.map_some]
  simp only [anyD, this, Option.map_some, List.any_map]
  rfl
end DL
end
section
namespace DL
open PySem PySem.Spec L2
open PyProof.Rows hiding St
/-! ### own exceptions: what the module's classes say -/
def oexB (K : PySem.W.Frag) (C : Addr) : Bool := (match K.lookup C with
  | some ⟨.type "type", _, .cls cd, sl⟩ => (match cd.mro, sl.toList with
    | .ref C' :: bm, [_, _, _, _, some (.builtin n), _] => C' == C && (n == "ValueError.__new__" && (!cd.hasDel && (cd.hasDict && PySem.HandSPX.refsVE bm)))
    | _, _ => false)
  | _ => false) && (He.eqO (PySem.W.findIn K (.ref C) "__setattr__") (some (some (.builtin "object.__setattr__"))) && (decide (PySem.W.subIn K (.ref C) (.type "BaseException") = some true) && (decide (PySem.W.typeIn K (.ref C) = some (.type "type")) && PySem.W.keepIn K (.ref C))))
theorem oexB_ok {K : PySem.W.Frag} {C : Addr} (h : oexB K C = true) : OexC K C := by
  obtain ⟨h1, h⟩ := He.ba h
  obtain ⟨h2, h⟩ := He.ba h
  obtain ⟨h3, h⟩ := He.ba h
  obtain ⟨h4, h5⟩ := He.ba h
  refine ⟨?_, He.eqO_ok h2, of_decide_eq_true h3, of_decide_eq_true h4, h5⟩
  split at h1
  · rename_i dd cd sl ho
    split at h1
    · rename_i C' bm k0 k1 k2 k3 n k5 hm hs
      simp only [Bool.and_eq_true, beq_iff_eq, Bool.not_eq_true'] at h1
      obtain ⟨rfl, rfl, hdel, hd1, hbm⟩ := h1
      obtain ⟨nm, bs, mro, ns, qn, hd, sn, sub, ab, col, del⟩ := cd
      dsimp only at hm hdel hd1
      subst hm hdel hd1
      have hsl : sl = #[k0, k1, k2, k3, some (.builtin "ValueError.__new__"), k5] := by
        obtain ⟨l⟩ := sl
        simp only at hs
        rw [hs]
      subst hsl
      exact ⟨nm, qn, ns, bs, bm, sn, sub, ab, col, dd, k0, k1, k2, k3, k5, ho, hbm⟩
    · cases h1
  · cases h1
/-- the class x, its __init__ storing its one argument as f -/
def clxB (x f : Str) (K : PySem.W.Frag) : Bool := oexB K (He.ga K x) && (He.eqO (PySem.W.nsIn K mainGlobals x) (some (some (.ref (He.ga K x)))) && (He.eqO (PySem.W.findIn K (.ref (He.ga K x)) "__init__") (some (some (.ref (He.ma K (He.ga K x) "__init__")))) &&
  (decide (PySem.W.typeIn K (.ref (He.ma K (He.ga K x) "__init__")) = some (.type "function")) && He.eqO (PySem.W.findIn K (.ref (He.ga K x)) f) (some none))))
structure ClsX (K : PySem.W.Frag) (mg : Str → Option Value) (x f q : Str) (st : Stmt) : Prop where
  hm : mg x = some (.ref (He.ga K x))
  T : OexC K (He.ga K x)
  iC : PySem.W.findIn K (.ref (He.ga K x)) "__init__" = some (some (.ref (He.ma K (He.ga K x) "__init__")))
  tI : PySem.W.typeIn K (.ref (He.ma K (He.ga K x) "__init__")) = some (.type "function")
  F : ∃ fd, FunD K "__init__" q (defArgs st) (defBody st) (defScope st) [] [] (He.ma K (He.ga K x) "__init__") fd
  no : PySem.W.findIn K (.ref (He.ga K x)) f = some none
theorem SaysG.clx {fa : List He.Fa} {fn : List He.DefD} {cs : List (Str × D)} {ks : List (PySem.W.Frag → Bool)} {K : PySem.W.Frag} {h : Heap} {mg : Str → Option Value} (c : SaysG fa fn cs ks K) (X : K.In h) (G : h.Ns mainGlobals mg) (i j : Nat) {x f q : Str} {st : Stmt}
    (e : fn[i]? = some ⟨(x, some "__init__"), "__init__", q, defArgs st, defBody st, defScope st, [], []⟩ := by rfl) (e2 : ks[j]? = some (clxB x f) := by rfl) : ClsX K mg x f q st := by
  obtain ⟨fd, F⟩ := c.d.def_ i e
  have k := c.k j e2
  obtain ⟨k1, k⟩ := He.ba k
  obtain ⟨k2, k⟩ := He.ba k
  obtain ⟨k3, k⟩ := He.ba k
  obtain ⟨k4, k5⟩ := He.ba k
  exact ⟨PySem.W.mg_of X G (He.eqO_ok k2), oexB_ok k1, He.eqO_ok k3, of_decide_eq_true k4, ⟨fd, F⟩, He.eqO_ok k5⟩

/-! ### C(e) -/
section
variable {X : Cx} {e : Expr} {es : List Expr} {ta : TA} {p pos : Pos}
theorem pmk_oexN {CX : CXT} {x : Str} {C fI : Addr} {k : Nat} {fd : FuncData} {ps : List Str} {sp : Sp} {ds : List Value} {dvs : List V} (T : OexC X.K C) (iC : PySem.W.findIn X.K (.ref C) "__init__" = some (some (.ref fI))) (tI : PySem.W.typeIn X.K (.ref fI) = some (.type "function"))
    (F1 : FnOk X.prog X.w X.K X.mg X.base CX k fI fd ps sp) (hr : Room (k + 1) X.A) (hb : Binds X.K fd ps ds) (hd : Vals dvs ds) (hx : Passes CX X (fun _ _ _ => False)) (hg : Gl X x) (hm : X.mg x = some (.ref C)) (ha : PA X (e :: es) ta)
    (hdb : (x == ("__debug__" : Str)) = false := by decide) (he : starEach (e :: es) X.env = (false, eval e X.env) :: starEach es X.env := by rfl) (hpl : (backTo pos (starEach es X.env)).any (·.1) = false := by rfl) :
    L2N.PMk X (.Call (.Name x p) (e :: es) [] pos) (tMkO C sp dvs ta) := by
  intro pins s σ H Q I h
  obtain ⟨nm, q, N, bs, bm, sn, sub, ab, col, dd, k0, k1, k2, k3, k5, hC, hbm⟩ := T.cls
  refine wpAny_Call_Name_kw (ld_glob I hg hm ?_ hdb)
  refine PySem.W.callWith_K (h₀ := X.base) I.ok.mod.kin T.kC (thn (ha.run pos pins s σ H _ I h) fun us s1 ⟨vs, H1, I1, r1, hz, q1⟩ => ⟨I1.kIn, ?_⟩) he hpl
  show wpAny _ _ (call (.ref C) us) _ _ _
  obtain ⟨hp, g, dr, tk, os⟩ := s1
  have hsz : hp.objs.size ≤ hp.objs.size + 1 := Nat.le_succ _
  have hn : H1 (hp.objs.size + 1) = none := I1.hok.fresh hsz
  have hq := q1 (hp.objs.size + 1) hn
  have kk : ∀ b o, hp.get? b = some o → ((hp.push (PySem.W.kdv_tup us)).push (PySem.HandSPX.excO C hp.objs.size)).get? b = some o := fun b o e => Heap.get?_push_of_some _ (Heap.get?_push_of_some _ e)
  have hget : ((hp.push (PySem.W.kdv_tup us)).push (PySem.HandSPX.excO C hp.objs.size)).get? (hp.objs.size + 1) = some (PySem.HandSPX.excO C hp.objs.size) := by heap_get
  have I2 : Inv X pins σ (upd H1 (hp.objs.size + 1) (exo (hp.objs.size + 1) C none)) ⟨(hp.push (PySem.W.kdv_tup us)).push (PySem.HandSPX.excO C hp.objs.size), g, dr, tk, os⟩ :=
    I1.laid (t' := tk) (a := hp.objs.size + 1) (o := exo (hp.objs.size + 1) C none) (h' := (hp.push (PySem.W.kdv_tup us)).push (PySem.HandSPX.excO C hp.objs.size)) kk hsz (exo_ok hget)
  have r2 : Vals (V.ref (hp.objs.size + 1) :: (vs ++ dvs)) (Value.ref (hp.objs.size + 1) :: (us ++ ds)) := .cons rfl (r1.append hd)
  have hl : (Value.ref (hp.objs.size + 1) :: us ++ ds).length = ps.length := by
    have e := r2.length
    rw [F1.len _ _ _ _ hq] at e
    exact e.symm
  have hus : us.length ≤ sizeLine := by
    rw [← r1.length, sizeLine_eq]
    omega
  refine wpAny_call (PySem.HandSPX.call_own F.excBase_ValueError (fun Y => PySem.HandSPX.refsVE_contains Y bm hbm) (I1.kIn _ _ hC) (PySem.W.looks_findIn I1.kIn iC) (fun self => PySem.W.bind_fn I1.kIn self tI) hus
    (codeAny_mono (F1.run _ X.stack _ _ ⟨Value.ref (hp.objs.size + 1) :: us, []⟩ (Value.ref (hp.objs.size + 1) :: (us ++ ds)) _ _ (fun _ _ _ => False) (hr.make C us []) (I2.env0.make C us []) (hb _ (Value.ref (hp.objs.size + 1) :: us) I2.kIn hl) r2 hq) fun r s' hq' => ?_))
  cases r with
  | error er => exact hx pins σ _ _ er s' I2 hq'
  | ok fl =>
    cases fl with
    | ret u =>
      obtain ⟨v, H2, os2, bare2, un2, hok2, rv, ev, d, fs, ea, ed, hd1, q2⟩ := hq'
      subst ev
      obtain ⟨h2, g2, d2, t2, os'⟩ := s'
      obtain ⟨t0, G, J, kG, ge, hoe, na⟩ := mk_end0 (d2 := d2) (t2 := t2) I1 hsz kk un2 hok2 os2 bare2 ea ed hd1
      refine ⟨rv, ⟨hp.objs.size + 1, _, _, ⟨G, g2, d2, t2, os'⟩, _, .ref C, some d, rfl, J, kG, ge, hoe, ⟨rfl, rfl, fun vs hv => ?_⟩, rfl, rfl, na, rfl, bare2, raises_own T.exC T.tyC, q2⟩⟩
      cases hv
      rfl
    | next => exact False.elim hq'
    | brk => exact False.elim hq'
    | cont => exact False.elim hq'
end

/-! ### __init__ -/
def sp1 (K : PySem.W.Frag) (f : Str) : Sp := fun vs H Q _ => ∃ (a C : Addr) (y : V), vs = [.ref a, y] ∧ OexC K C ∧ PySem.W.findIn K (.ref C) f = some none ∧ H a = some (exo a C none) ∧ ∀ dx, H dx = none → dx ≠ a → Q .non (upd (upd H dx (exd dx [(f, y)])) a (exo a C (some dx)))
/-- the text of an __init__ that stores its one argument -/
structure Ini (st : Stmt) (f y : Str) : Prop where
  body : ∃ p1 p2 p3 p4, defBody st = [.Assign [.Attribute (.Name "self" p1) f p2] (.Name y p3) p4] ∧ (∀ env : PySem.Env, swapsWith (.Name y p3) (some (.Attribute (.Name "self" p1) f p2)) p4.line env = pure false)
  sc : FnScope [(Str.ofString "self"), y] [(Str.ofString "self"), y] (defScope st)
  vs : Vis (defScope st) "self"
  vy : Vis (defScope st) y
  dbg : (y == ("__debug__" : Str)) = false
  cd : (y == ("__classdict__" : Str)) = false
  bnd : ∀ (q : Str) (kV doc pm : Value) (an : Option Addr) (cdv ct : Value) (us : List Value), us.length = [(Str.ofString "self"), y].length → bindArgs (PySem.W.fnOf "__init__" q (defArgs st) (defBody st) (defScope st) .none kV doc pm an cdv ct) ⟨us, []⟩ = pure ([(Str.ofString "self"), y].zip us)
theorem ini_ok {P : Program} {w : World} {K : PySem.W.Frag} {mg : Str → Option Value} {base : Heap} {CX : CXT} {q : Str} {st : Stmt} {f y : Str} {fI : Addr} {fd : FuncData} (F : FunD K "__init__" q (defArgs st) (defBody st) (defScope st) [] [] fI fd) (S : Ini st f y) : FnOk P w K mg base CX 1 fI fd [(Str.ofString "self"), y] (sp1 K f) := by
  obtain ⟨p1, p2, p3, p4, hb, hsw⟩ := S.body
  refine F.ok (k := 0) S.sc (fun vs H Q E h => ?_) (fun cdv A outer s H vs Q E hr h => ?_)
  · obtain ⟨a, C, y, rfl, _⟩ := h
    rfl
  · obtain ⟨a, C, v, rfl, T, no, ha, hq⟩ := h
    rw [hb]
    refine ⟨_, pss_one (ps_ost (pe_var (i := 0) rfl S.vs) (pe_var (i := 1) rfl S.vy S.dbg S.cd) (hsw _)), ?_⟩
    exact ⟨v, rfl, .ref a, rfl, a, C, rfl, T, no, .inl ⟨ha, fun dx h1 h2 => hq dx h1 h2⟩⟩

/-! ### raise C(e) -/
def flatOk (d : D) : Bool := d.flat
def xrD (K : PySem.W.Frag) : XR := fun e c dd H => match e with
  | .mk cls fs => c = .ref (He.ga K cls) ∧ (∀ p ∈ fs, p.2.flat = true ∧ ∀ x, p.2 = .str x → x.length ≤ sizeLine) ∧ ∃ d, dd = some d ∧ H d = some (.xd (fs.map fun p => (p.1, p.2.fv)))
def sRaise (cls f : Str) (m : M D) : M Fl := m.bind fun d ρ => if d.flat then .exn (.mk cls [(f, d)]) ρ else .stuck
section
variable {X : Cx} {fr : Fx} {W : WX} {e : Expr} {m : M D} {p pos pos' : Pos} {k : Nat}
theorem ds_raise {x f q y : Str} {st : Stmt} (c : ClsX X.K X.mg x f q st) (S : Ini st f y) (hr : Room (k + 2) X.A) (hc : X.calm = true) (tk : L2N.Takes X W) (he : DE X fr W e m) (hex : fr.ex = xrD X.K) (hg : Gl X x := by rfl) (hdb : (x == ("__debug__" : Str)) = false := by decide)
    (hs : starEach [e] X.env = (false, eval e X.env) :: starEach [] X.env := by rfl) : DS X fr W (.Raise (some (.Call (.Name x p) [e] [] pos)) none pos') (sRaise x f m) := by
  obtain ⟨fd, F⟩ := c.F
  have hpas : Passes (L2N.CX X.prog X.w) X (fun _ _ _ => False) := fun _ _ _ _ _ _ _ c => by
    obtain ⟨_, _, _, _, _, _, _, _, _, _, _, _, z⟩ := c
    exact z.elim
  have F1 : FnOk X.prog X.w X.K X.mg X.base (L2N.CX X.prog X.w) 1 _ fd [(Str.ofString "self"), y] (sp1 X.K f) := ini_ok F S
  refine ps_mono (L2N.ps_raise hc tk (pmk_oexN (dvs := []) c.T c.iC c.tI F1 (hr.mono (by omega)) (F.bindsN (S.bnd q)) .nil hpas hg c.hm (pa_cons he pa_nil hs) hdb hs rfl)) fun Dn σ H ⟨ρ, E, h⟩ => ?_
  refine ⟨ρ, E, wpR.mono (wpR.of_bind (r := m ρ) h) (fun d ρ1 q v H1 E1 s1 r1 => ?_) fun _ _ q => ExS.ex q⟩
  by_cases hf : d.flat = true
  · rw [if_pos hf] at q
    refine ⟨by simp, fun a ha => ⟨a, He.ga X.K x, v, rfl, c.T, c.no, upd_same, fun dx hdx hne => ⟨rfl, dx, [(f, v)], upd_same, ?_, ?_, ?_⟩⟩⟩
    · rw [upd_ne hne, upd_same]
    · rw [upd_ne hne] at hdx
      exact hdx
    · rw [upd_ne hne] at hdx
      have eH : upd (del (upd (upd (upd H1 a (exo a (He.ga X.K x) none)) dx (exd dx [(f, v)])) a (exo a (He.ga X.K x) (some dx))) a) dx (.xd [(f, v)]) = upd H1 dx (.xd [(f, v)]) := by
        funext b
        by_cases hb : b = dx
        · rw [hb, upd_same, upd_same]
        · rw [upd_ne hb, upd_ne hb]
          by_cases hba : b = a
          · rw [hba, del_same, ha]
          · rw [del_ne hba, upd_ne hba, upd_ne hb, upd_ne hba]
      rw [eH]
      have hfv := r1.fv hf
      refine q σ (.ref (He.ga X.K x)) (some dx) _ (E1.same (same_upd hdx)) (fun d' e => by cases e; exact E1.free0 hdx) ?_
      rw [hex]
      refine ⟨rfl, fun p hp => ?_, dx, rfl, by rw [hfv]; exact upd_same⟩
      rcases List.mem_cons.mp hp with rfl | hp
      · refine ⟨hf, fun z hz => ?_⟩
        have hz : d = .str z := hz
        subst hz
        exact (r1.rs (w := fr.w)).strL.2
      · cases hp
  · rw [if_neg hf] at q
    exact q.elim
end
end DL
end
section
namespace DL
open PySem PySem.Spec L2
open PyProof.Rows hiding St
section
variable {X : Cx} {fr : Fx} {W : WX} {σ σ' σ1 : L2.St} {H H1 H' : Hp} {ρ ρ' : DL.Env} {c : Expr} {st : Stmt} {rest : List Stmt} {g g' : M Fl} {ft : M Bool} {pos : Pos} {Dn : Ends} {i : Nat}
theorem takesN {X : Cx} : L2N.Takes X (fun _ _ _ _ => False) := fun u s' x => by
  obtain ⟨_, _, _, _, _, _, _, _, _, _, _, _, _, _, _, _, z⟩ := x
  exact z.elim
theorem tS0_seq (h : tS0 fr W (sSeq g g') Dn σ H) : tSeq (tS0 fr W g) (tS0 fr W g') Dn σ H := by
  obtain ⟨ρ, E, h⟩ := h
  refine ⟨ρ, E, wpR.mono (wpR.of_bind (r := g ρ) h) (fun fl ρ1 q => ?_) fun _ _ q => q⟩
  cases fl with
  | nx => exact fun σ' H' E' => ⟨ρ1, E', q⟩
  | bk => exact q
  | ct => exact q
  | rt d => exact q
  | rf d => exact q
theorem dss0_cons (h1 : DS0 X fr W st g) (h2 : DSs0 X fr W rest g') : DSs0 X fr W (st :: rest) (sSeq g g') := pss_mono (pss_cons h1 h2) fun Dn σ H h => tS0_seq h
theorem dss0_one (h1 : DS0 X fr W st g) : DSs0 X fr W [st] g := pss_one h1
theorem ds0_if {x y : List Stmt} (hc : DT X fr W c ft) (ha : DSs0 X fr W x g) (hb : DSs0 X fr W y g') : DS0 X fr W (.If c x y pos) (sIf ft g g') :=
  ps_mono (ps_if hc ha hb) fun Dn σ H ⟨ρ, E, h⟩ => ⟨ρ, E, wpR.mono (wpR.of_bind (r := ft ρ) h) (fun b ρ1 q H1 E1 s1 => by
    cases b with
    | true => exact (if_pos rfl).mpr ⟨ρ1, E1, q⟩
    | false => exact (if_neg Bool.false_ne_true).mpr ⟨ρ1, E1, q⟩) fun _ _ q => q.ex⟩
theorem ER.unset (E : ER fr.toFr σ H ρ) (hO : fr.O i = false) : ER fr.toFr (σ.set i none) H (ρ.set i none) where
  len := by simp only [List.length_set, E.len]
  pl := fun j d' h1 h2 => by
    by_cases e : i = j
    · subst e
      have hi : i < ρ.length := by
        have := (List.getElem?_eq_some_iff.mp h1).1
        simpa using this
      rw [List.getElem?_set_self hi] at h1
      cases h1
    · rw [List.getElem?_set_ne e] at h1
      obtain ⟨v', h3, h4⟩ := E.pl j d' h1 h2
      exact ⟨v', by rw [List.getElem?_set_ne e]; exact h3, h4.setg hO⟩
  ow := fun j d' h1 h2 => by
    have e : i ≠ j := fun z => by subst z; rw [hO] at h2; cases h2
    rw [List.getElem?_set_ne e] at h1
    obtain ⟨a, h3, h4, h5⟩ := E.ow j d' h1 h2
    exact ⟨a, by rw [List.getElem?_set_ne e]; exact h3, h4.setg hO, h5⟩
  nn := fun j h1 h2 => by
    have e : i ≠ j := fun z => by subst z; rw [hO] at h1; cases h1
    rw [List.getElem?_set_ne e] at h2 ⊢
    exact E.nn j h1 h2
  ne := fun j k a h1 h2 h3 h4 => by
    have e : i ≠ j := fun z => by subst z; rw [hO] at h1; cases h1
    have e' : i ≠ k := fun z => by subst z; rw [hO] at h2; cases h2
    rw [List.getElem?_set_ne e] at h3
    rw [List.getElem?_set_ne e'] at h4
    exact E.ne j k a h1 h2 h3 h4
  par := fun j h1 => by
    obtain ⟨h2, h3, d', h4⟩ := E.par j h1
    have e : i ≠ j := fun z => by subst z; rw [hO] at h2; cases h2
    exact ⟨h2, by rw [List.getElem?_set_ne e]; exact h3, d', by rw [List.getElem?_set_ne e]; exact h4⟩
  step := E.step
  xt := fun b h => ⟨(E.xt b h).1, fun z => (E.xt b h).2 ((own_set hO).mp z)⟩

/-! ### try: body, except C as n: suite -/
open Classical in
noncomputable def sTryC (okc : Str → Option Bool) (i : Nat) (gs : Addr → Addr → Str → M Fl) (cls : Str) (fs : List (Str × D)) (ρ1 : DL.Env) : Res Fl := match okc cls with
  | some true => if h : ∃ r : Fl × DL.Env, ∀ a d, ∃ ρ', gs a d cls (ρ1.set i (some (.exc a d cls fs))) = .ok r.1 ρ' ∧ ρ'.set i none = r.2 then .ok h.choose.1 h.choose.2 else .stuck
  | some false => .exn (.mk cls fs) ρ1
  | none => .stuck
noncomputable def sTry (gb : M Fl) (okc : Str → Option Bool) (i : Nat) (gs : Addr → Addr → Str → M Fl) : M Fl := fun ρ => match gb ρ with
  | .exn (.mk cls fs) ρ1 => sTryC okc i gs cls fs ρ1
  | r => r
theorem sTry_ok {gb : M Fl} {okc : Str → Option Bool} {gs : Addr → Addr → Str → M Fl} {fl : Fl} (h : gb ρ = .ok fl ρ') : sTry gb okc i gs ρ = .ok fl ρ' := by unfold sTry; rw [h]
theorem sTry_exn {gb : M Fl} {okc : Str → Option Bool} {gs : Addr → Addr → Str → M Fl} {cls : Str} {fs : List (Str × D)} {ρ1 ρ2 : DL.Env} {fl : Fl} (h : gb ρ = .exn (.mk cls fs) ρ1) (ho : okc cls = some true)
    (hg : ∀ a d, ∃ ρ', gs a d cls (ρ1.set i (some (.exc a d cls fs))) = .ok fl ρ' ∧ ρ'.set i none = ρ2) : sTry gb okc i gs ρ = .ok fl ρ2 := by
  unfold sTry
  rw [h]
  unfold sTryC
  simp only [ho]
  have hx : ∃ r : Fl × DL.Env, ∀ a d, ∃ ρ', gs a d cls (ρ1.set i (some (.exc a d cls fs))) = .ok r.1 ρ' ∧ ρ'.set i none = r.2 := ⟨(fl, ρ2), hg⟩
  rw [dif_pos hx]
  obtain ⟨ρa, h1, h2⟩ := hx.choose_spec 0 0
  obtain ⟨ρb, h3, h4⟩ := hg 0 0
  rw [h3] at h1
  injection h1 with h5 h6
  rw [← h5, ← h2, ← h6, h4]
theorem good_xd (E : ER fr.toFr σ H ρ) (hX : ∀ b, ¬ fr.X b) {d : Addr} {fs : List (Str × V)} (hd : H d = some (.xd fs)) (hF : fr.F d = none) : Good fr.toFr σ d := by
  refine ⟨.inl hF, fun z => ?_, hX d⟩
  obtain ⟨o, q, m, _⟩ := E.owned z
  rw [hd] at q
  cases q
  exact m
theorem ds0_try {n xc : Str} {cv : Value} {b₀ : Stmt} {suite body : List Stmt} {np pos pos' : Pos} {gb : M Fl} {okc : Str → Option Bool} {gs : Addr → Addr → Str → M Fl} (hs : X.stack = X.env :: X.outer) (hf : X.env.frame = some X.env.locals) (hN : X.N.Nodup) (hi : X.N[i]? = some n) (hln : X.env.kindOf n = some .local)
    (hc : Names X xc cv) (tk : L2N.Takes X W) (hO : fr.O i = false) (hX : ∀ b, ¬ fr.X b) (hex : fr.ex = xrD X.K) (hk : ∀ cls b, okc cls = some b → PySem.W.exmOne X.K (.ref (He.ga X.K cls)) cv = some b)
    (hb : ∀ (W : WX) (pn : List (Addr × Obj)) (xe : Value → Shared → Prop), L2N.Takes (X.tr pn xe) W → PassesOwn (model X.prog X.w) X.A X.env xe → DSs0 (X.tr pn xe) fr W body gb)
    (hsu : ∀ (a d : Addr) (cls : Str) (oe : Obj) (pn : List (Addr × Obj)), L2N.Zn (.ref (He.ga X.K cls)) (some d) oe → (∃ vs, oe.data = .fields vs) → DSs0 (X.suite a ((a, oe) :: pn)) fr (fun _ _ _ _ => False) (b₀ :: suite) (gs a d cls)) :
    DS0 X fr W (.Try body [.ExceptHandler (some (.Name xc np)) (some n) (b₀ :: suite) pos'] [] [] pos) (sTry gb okc i gs) := by
  refine ps_mono (L2N.ps_try_as (ts := fun a cls d D σ H => ∃ (dd : Addr) (nm : Str), d = some dd ∧ cls = .ref (He.ga X.K nm) ∧ tS0 fr (fun _ _ _ _ => False) (gs a dd nm) D σ H) hs hf hN hi hln hc tk (fun W pn xe tk po => hb W pn xe tk po)
    (fun a oe cls d pn hz hfd => ⟨fun pins s σ H D I ⟨dd, nm, e1, e2, h⟩ => by subst e1 e2; exact (hsu a dd nm oe pn hz hfd).run pins s σ H D I h⟩)) fun Dn σ H ⟨ρ, E, h⟩ => ⟨ρ, E, ?_⟩
  unfold sTry at h
  cases hg : gb ρ with
  | ok fl ρ1 => rw [hg] at h; exact h
  | stuck => rw [hg] at h; exact h.elim
  | exn e ρ1 =>
    obtain ⟨cls, fs⟩ := e
    rw [hg] at h
    intro σ1 cc dd H1 E1 nf x
    have x' := x
    rw [hex] at x'
    obtain ⟨rfl, hfl, d, rfl, hd⟩ := x'
    simp only [sTryC] at h
    cases ho : okc cls with
    | none => simp only [ho] at h; exact h.elim
    | some b =>
      cases b with
      | false =>
        simp only [ho] at h
        exact ⟨false, hk _ _ ho, (fun z => by cases z), fun _ => h σ1 _ _ H1 E1 nf x⟩
      | true =>
        simp only [ho] at h
        by_cases hx : ∃ r : Fl × DL.Env, ∀ a d, ∃ ρ', gs a d cls (ρ1.set i (some (.exc a d cls fs))) = .ok r.1 ρ' ∧ ρ'.set i none = r.2
        · rw [dif_pos hx] at h
          refine ⟨true, hk _ _ ho, fun _ a ha => ⟨d, cls, rfl, rfl, ρ1.set i (some (.exc a d cls fs)), E1.set hO ?_, ?_⟩, fun z => by cases z⟩
          · simp only [Rp]
            exact ⟨trivial, good_xd E1 hX hd (nf d rfl), hd⟩
          · obtain ⟨ρ', h1, h2⟩ := hx.choose_spec a d
            rw [h1]
            have h : FlP0 fr Dn hx.choose.1 hx.choose.2 := h
            generalize hx.choose.1 = fl at h
            rw [← h2] at h
            show FlP0 fr _ fl ρ'
            cases fl with
            | nx => exact fun σ' H' E' => h _ H' (E'.unset hO)
            | bk => exact fun σ' H' E' => h _ H' (E'.unset hO)
            | ct => exact fun σ' H' E' => h _ H' (E'.unset hO)
            | rt d => exact fun v σ' H' E' r => h v _ H' (E'.unset hO) r
            | rf d => exact fun a H1 H' σ' o E' n sm l r => h a H1 H' _ o (E'.unset hO) n sm l (r.move (fun b o g q => ⟨good_set hO g, q⟩) (fun _ _ q => q) fun _ _ _ q => q)
        · rw [dif_neg hx] at h
          exact h.elim
end
end DL
end
section
namespace DL
open PySem PySem.Spec L2
open PyProof.Rows hiding St
/-! ### while an exception is handled: a list comprehension over range -/
/-- a comprehension's block that bears what its def bears -/
abbrev blkH (X : Cx) (s : Shared) (H : Hp) (scope : Scope) (ce : PySem.Env) (fp : List Addr) : Cx := { X.blk s H scope ce fp with pn := X.pn }
section
variable {X : Cx} {pins : List (Addr × Obj)} {σ : L2.St} {H : Hp} {s s' : Shared}
theorem blkH_ok {sc : Scope} {ce : PySem.Env} {fp : List Addr} (k : (X.blk s H sc ce fp).Ok) : (blkH X s H sc ce fp).Ok :=
  ⟨k.mod, k.kind, k.glob, k.blt, k.above, k.inj, k.has, k.cab, k.hd, k.frames, k.stk, k.exf, k.bs, k.bsz, k.noex, k.exfs, k.funs, k.frf⟩
theorem blkH_in {sc : Scope} {ce : PySem.Env} {fp : List Addr} {H0 : Hp} {s0 : Shared} (J : Inv (X.blk s0 H0 sc ce fp) [] σ H s') (h : ∀ q ∈ X.pn, s'.heap.get? q.1 = some q.2 ∧ H q.1 = none ∧ q.1 ≠ ce.locals ∧ q.1 ∉ frs X.stack ∧ ∀ v, q.2.data ≠ .cell v) :
    Inv (blkH X s0 H0 sc ce fp) [] σ H s' :=
  ⟨blkH_ok J.ok, J.os, J.bare, J.base, J.loc, J.cell, J.free, J.freeC, fun q hq => h q (by simpa using hq), J.hok, J.len⟩
theorem lcH_core {D0 : Addr} {Q : VK} {elt tg iter : Expr} {scope : Scope} {own : List (Str × Nat)} {pos pos' : Pos} {wi : TI} {g : TG} {te : TE} {use : Option (Value → Sem Unit)} {Qf : Value → Shared → Prop}
    (hc : L2H.HotC X) (hN : X.N.Nodup) (I : Inv X pins σ H s) (hi : L2H.PIH X tg iter wi) (ok : BlkOk X.N X.env.scope scope own)
    (hg : ∀ (s : Shared) (H : Hp) (C : Addr) (cl : List (Str × Addr)) (fp : List Addr), PG (blkH X s H scope (compEnvC scope cl C X.env) fp) tg g)
    (he : ∀ (s : Shared) (H : Hp) (C : Addr) (cl : List (Str × Addr)) (fp : List Addr), PE (blkH X s H scope (compEnvC scope cl C X.env) fp) elt te) (hs : ∀ x, foldedSetIterable iter X.env x = pure x)
    (h : tLc wi g tYes te (own.map (·.2)) σ H Q)
    (fin : ∀ D C s' m H', Inv X pins σ H' s' → Q (.ref D) H' → s'.heap.Ns C m → FpOk X pins H' C → compPost (model X.prog X.w) X.A X.xe use Qf (.ref D) C (.ok .next) s') :
    wpAny (model X.prog X.w) X.A (comprehension (.ListComp elt [⟨tg, iter, [], 0⟩] scope pos) scope X.env pos' (newList []) false (eval iter X.env) use) Qf X.xe s := by
  have cells : ∀ y ∈ scope.names, y.2 = .free → ∃ c, X.env.cells.lookup y.1 = some c := fun y hy e => (ok.free y hy e).elim (fun k => I.ok.has _ (.inl k)) fun k => I.ok.has _ (.inr k)
  refine wpAny_comprehension_free (use := use) rfl hs (closure_ok cells) ok.kind (fun y hy e => by rw [ok.uniq y hy, e]) (thn (hi.run pins s σ H _ I h) fun xv sa ha => thn ha fun itv sb hb => ?_)
  obtain ⟨it, fp, tn, J, HB, e, IB, T, tn0, fpB, q⟩ := hb
  subst e
  refine wpAny_newObj_type (newEnv_comp ?_) (by show 0 ≤ sizeLine; decide)
  generalize eD : sb.heap.objs.size = D
  have freeD : HB D = none := IB.hok.fresh (Nat.le_of_eq eD)
  obtain ⟨W, ⟨m0, w0⟩, turn⟩ := q D freeD
  generalize e3 : ({ sb with heap := sb.heap.push { cls := .type "list", data := .seq ([] : List Value).toArray } } : Shared) = s3
  have I3 : Inv X pins σ (upd HB D (.lst [])) s3 := by
    subst e3
    exact IB.laid (t' := sb.toks) (fun b o z => Heap.get?_push_of_some _ z) (Nat.le_of_eq eD) ⟨Nat.zero_le _, [], 0, .nil, by subst eD; exact Heap.get?_push_size _ rfl⟩
  have h3 : s3.heap = sb.heap.push { cls := .type "list", data := .seq ([] : List Value).toArray } := by subst e3; rfl
  have small : ∀ b ∈ fp, b < sb.heap.objs.size := fun b hb => (T.obj _ _ tn0 b hb).elim fun o z => Heap.lt_size z.1
  have fp3 : ∀ b ∈ fp, FpOk X pins (upd HB D (.lst [])) b ∧ b < s3.heap.objs.size := fun b hb => by
    have lt := small b hb
    refine ⟨⟨?_, (fpB b hb).2⟩, by rw [h3, Heap.size_push]; exact Nat.lt_succ_of_lt lt⟩
    rw [upd_ne (by subst eD; exact Nat.ne_of_lt lt)]
    exact (fpB b hb).1
  have tn3 : tn 0 s3.heap := T.keep _ _ _ tn0 fun b _ o z => by rw [h3]; exact Heap.get?_push_of_some _ z
  have B4 := block_start I3 ok hN fp3
  have pg := hg s3 (upd HB D (.lst [])) s3.heap.objs.size (cellsFrom (s3.heap.objs.size + 1) scope.names (cloFrom X.env.cells scope.names [])) fp
  have pe := he s3 (upd HB D (.lst [])) s3.heap.objs.size (cellsFrom (s3.heap.objs.size + 1) scope.names (cloFrom X.env.cells scope.names [])) fp
  show codeAny _ _ (.compStart (.ListComp elt [⟨tg, iter, [], 0⟩] scope pos) 0 (.ref it) (.ref D) (compEnvC scope (cellsFrom (s3.heap.objs.size + 1) scope.names (cloFrom X.env.cells scope.names [])) s3.heap.objs.size X.env)) (compPost (model X.prog X.w) X.A X.xe use Qf (.ref D) s3.heap.objs.size) { s3 with heap := pushCells (s3.heap.push { cls := .type "dict", data := .dict #[] }) scope.names }
  have none0 : ∀ b ∈ fp, (upd HB D (.lst [])) b = none := fun b hb => (fp3 b hb).1.1
  generalize ece : compEnvC scope (cellsFrom (s3.heap.objs.size + 1) scope.names (cloFrom X.env.cells scope.names [])) s3.heap.objs.size X.env = ce at B4 pg pe ⊢
  have loc : ce.locals = s3.heap.objs.size := by subst ece; rfl
  generalize eH3 : upd HB D (.lst []) = H3 at I3 B4 pg pe w0 none0 fp3
  generalize e4 : ({ s3 with heap := pushCells (s3.heap.push { cls := .type "dict", data := .dict #[] }) scope.names } : Shared) = s4 at B4 ⊢
  have kp4 : ∀ b o, s3.heap.get? b = some o → s4.heap.get? b = some o := fun b o z => by subst e4; exact pushCells_keeps _ _ _ _ (Heap.get?_push_of_some _ z)
  have I4 : Inv (blkH X s3 H3 scope ce fp) [] (wipe σ (own.map (·.2))) H3 s4 := blkH_in B4 fun q hq => by
    obtain ⟨k1, k2, k3, k4, k5⟩ := I3.pin q (List.mem_append_left _ hq)
    exact ⟨kp4 _ _ k1, k2, by rw [loc]; exact Nat.ne_of_lt (Heap.lt_size k1), fun z => (List.mem_cons.mp (I3.stkSub _ z)).elim k3 k4, k5⟩
  have tn4 : tn 0 s4.heap := T.keep _ _ _ tn3 fun b _ o z => kp4 b o z
  have hot : L2H.HotC (blkH X s3 H3 scope ce fp) := hc
  have stat : ∀ {σ' : L2.St} {H' : Hp} {s' : Shared}, Inv (blkH X s3 H3 scope ce fp) [] σ' H' s' → (∀ b ∈ fp, H' b = none) → ∀ b ∈ fp, FpOk (blkH X s3 H3 scope ce fp) [] H' b := fun {σ' H' s'} I' hn b hb =>
    ⟨hn b hb, (I'.ok.exf b hb).1, I'.ok.exfs b hb, .inl hb, fun x c z => (I'.ok.exf b hb).2 x c z, fun q hq => (fp3 b hb).1.2.2.2.2.2 q (List.mem_append_left _ (by simpa using hq))⟩
  have loop : codeAny (model X.prog X.w) X.A (.compLoop (.ListComp elt [⟨tg, iter, [], 0⟩] scope pos) 0 (.ref it) (.ref D) ce) (compPost (model X.prog X.w) X.A X.xe use Qf (.ref D) s3.heap.objs.size) s4 := by
    refine compLoop_any (fun n z => ∃ i H', Inv (blkH X s3 H3 scope ce fp) [] (wipe σ (own.map (·.2))) H' z ∧ tn i z.heap ∧ (∀ b ∈ fp, H' b = none) ∧ W i n H') ?_ m0 ⟨0, H3, I4, tn4, none0, w0⟩
    rintro n s5 ⟨i, H5, I5, tn5, n5, w5⟩
    rcases turn i n H5 w5 with ⟨stop, qq⟩ | ⟨go, Nx, hNx, step⟩
    · refine thnF (T.done (blkH X s3 H3 scope ce fp) rfl rfl rfl hot i [] s5 _ H5 (fun _ _ => False) I5 (stat I5 n5) tn5 stop) fun r s6 ⟨hr, I6⟩ => ?_
      subst hr
      have I7 : Inv X pins σ H5 s6 := I3.call' (ch := fp) I6.os I6.base I6.hok I6.bare fun b hb => ⟨(fp3 b hb).1.2.2.2.1, (fp3 b hb).1.2.1, (fp3 b hb).1.2.2.2.2.1, (fp3 b hb).1.2.2.2.2.2⟩
      have nC : H5 s3.heap.objs.size = none := by rw [← loc]; exact I6.free
      obtain ⟨m, hn, _⟩ := I6.loc
      have hn : s6.heap.Ns ce.locals m := hn
      rw [loc] at hn
      exact fin D s3.heap.objs.size s6 m H5 I7 qq hn (I3.fpOk (Nat.le_refl _) nC)
    · refine thnF (T.item (blkH X s3 H3 scope ce fp) rfl rfl rfl hot i [] s5 _ H5 (fun _ _ => False) I5 (stat I5 n5) tn5 go) fun r s6 ⟨u, hr, h6⟩ => ?_
      subst hr
      refine thnF h6 fun _ s7 ⟨x, H7, I7, r7, y7, tn7, n7⟩ => ?_
      refine thnF (pg.run _ s7 _ H7 x u _ (I7.pinned (stat I7 n7) (T.obj _ _ tn7)) r7 (step x H7 y7)) fun _ s8 ⟨σ8, H8, I8, ew, q8⟩ => ?_
      have q8 : te σ8 H8 fun y H4 => ∃ acc, H4 D = some (.lst acc) ∧ acc.length < sizeLine ∧ Nx (upd H4 D (.lst (acc ++ [y]))) := q8
      refine thnF ((pts_nil (X := blkH X s3 H3 scope ce fp)).run _ s8 σ8 H8 (fun b H9 => b = true ∧ te σ8 H9 fun y H4 => ∃ acc, H4 D = some (.lst acc) ∧ acc.length < sizeLine ∧ Nx (upd H4 D (.lst (acc ++ [y])))) I8 ⟨rfl, q8⟩) fun b s9 ⟨H9, I9, hb9, q9⟩ => ?_
      subst hb9
      simp only [if_true]
      refine thnF (pe.run _ s9 σ8 H9 _ I9 q9) fun z s10 ⟨yv, H10, I10, r10, acc, hD10, hz10, nx⟩ => ?_
      refine app_ok (X := blkH X s3 H3 scope ce fp) I10 hD10 hz10 r10 fun s11 I11 => ?_
      obtain ⟨m', hm, w'⟩ := hNx _ nx
      have still : ∀ b ∈ fp, ∀ o, s7.heap.get? b = some o → s11.heap.get? b = some o ∧ (upd H10 D (.lst (acc ++ [yv]))) b = none := fun b hb o z =>
        let k := I11.pin (b, o) (List.mem_append_right _ (List.mem_append_right _ (mem_pinsAt hb z)))
        ⟨k.1, k.2.1⟩
      refine ⟨m', hm, i + 1, _, (I11.unpinned (pins := [])).weak (by rw [← ew, wipe_length]) (fun j v z => ?_), T.keep _ _ _ tn7 fun b hb o z => (still b hb o z).1, fun b hb => ?_, w'⟩
      · rw [← ew] at z
        exact (wipe_some z).1
      · obtain ⟨o, z, _⟩ := T.obj _ _ tn7 b hb
        exact (still b hb o z).2
  exact codeAny_compStart_list loop (T.self X.A 0 _ _ _ tn4 loop)
theorem pe_lcH {elt tg iter : Expr} {scope : Scope} {own : List (Str × Nat)} {pos : Pos} {wi : TI} {g : TG} {te : TE} (hc : L2H.HotC X) (hN : X.N.Nodup) (hi : L2H.PIH X tg iter wi) (ok : BlkOk X.N X.env.scope scope own)
    (hg : ∀ (s : Shared) (H : Hp) (C : Addr) (cl : List (Str × Addr)) (fp : List Addr), PG (blkH X s H scope (compEnvC scope cl C X.env) fp) tg g)
    (he : ∀ (s : Shared) (H : Hp) (C : Addr) (cl : List (Str × Addr)) (fp : List Addr), PE (blkH X s H scope (compEnvC scope cl C X.env) fp) elt te) (hs : ∀ x, foldedSetIterable iter X.env x = pure x := by intro _; rfl) :
    PE X (.ListComp elt [⟨tg, iter, [], 0⟩] scope pos) (tLc wi g tYes te (own.map (·.2))) := by
  refine ⟨fun pins s σ H Q I h => ?_⟩
  rw [eval_ListComp]
  refine lcH_core (D0 := 0) hc hN I hi ok hg he hs h fun D C s' m H' I' q hn f => ⟨m, hn, fun h'' sb => ?_⟩
  exact ⟨.ref D, H', I'.turned (t' := s'.toks) (fun b o hb e => (sb.2 b hb).trans e) f.1 f.2.1 f.2.2.2.1 f.2.2.2.2.1 f.2.2.2.2.2, rfl, q⟩
end
end DL
end
section
namespace DL
open PySem PySem.Spec L2
open PyProof.Rows hiding St
/-! ### defs that an except suite calls -/
/-- the exception that is handled: at a, its dict at d, its class cls -/
def Lk (K : PySem.W.Frag) (a d : Addr) (cls : Str) (p : Addr × Obj) : Prop := p.1 = a ∧ L2N.Zn (.ref (He.ga K cls)) (some d) p.2 ∧ ∃ vs, p.2.data = .fields vs
/-- the context bears it -/
def HotX (X : Cx) (a d : Addr) (cls : Str) : Prop := ∃ p, L2H.Hot1 X.A p ∧ p ∈ X.pn ∧ Lk X.K a d cls p
theorem HotX.hot {X : Cx} {a d : Addr} {cls : Str} (h : HotX X a d cls) : L2H.HotC X := h.imp fun _ z => ⟨z.1, z.2.1⟩
theorem hotX_suite {X : Cx} {a d : Addr} {cls : Str} {oe : Obj} {pn : List (Addr × Obj)} (hz : L2N.Zn (.ref (He.ga X.K cls)) (some d) oe) (hf : ∃ vs, oe.data = .fields vs) : HotX (X.suite a ((a, oe) :: pn)) a d cls := by
  obtain ⟨vs, hv⟩ := hf
  exact ⟨(a, oe), ⟨rfl, vs, hv, hz.2.2 vs hv⟩, List.mem_cons_self .., rfl, hz, vs, hv⟩
structure FnP (P : Program) (w : World) (K : PySem.W.Frag) (mg : Str → Option Value) (base : Heap) (CX : CXT) (L : Addr × Obj → Prop) (k : Nat) (f : Addr) (fd : FuncData) (ps : List Str) (sp : Sp) : Prop where
  len : ∀ vs H Q E, sp vs H Q E → vs.length = ps.length
  go : ∀ (A : Around) (outer : List PySem.Env) (s : Shared) (H : Hp) (args : Args) (us : List Value) (vs : List V) (Q : VK) (E : XK) (p : Addr × Obj), L p → L2H.RoomH k A → L2H.Hot1 A p → L2H.PinOk outer H s p → Env0 P w K mg base A outer s H → BindsTo s fd args (ps.zip us) → Vals vs us → sp vs H Q E →
    codeAny (model P w) A (.call (.ref f) args) (CR CX outer P w H s Q E) s
section
variable {P : Program} {w : World} {K : PySem.W.Frag} {mg : Str → Option Value} {base : Heap} {CX : CXT} {L : Addr × Obj → Prop}
theorem fn_P {x qual : Str} {ps0 : Arguments} {body : List Stmt} {scope : Scope} {dvs : List V} {f : Addr} {fd : FuncData} {N ps : List Str} {k : Nat} {sp : Sp} (F : FunD K x qual ps0 body scope dvs [] f fd) (S : FnScope N ps scope) (len : ∀ vs H Q E, sp vs H Q E → vs.length = ps.length)
    (hbody : ∀ (cdv : Value) (A : Around) (outer : List PySem.Env) (s : Shared) (H : Hp) (vs : List V) (Q : VK) (E : XK) (p : Addr × Obj), L p → L2H.Hot1 A p → L2H.RoomH k (A.deeper (envOfC qual scope s.heap.objs.size f cdv)) → sp vs H Q E →
      ∃ t, PSs (L2H.cxH CX P w K mg base N qual scope f cdv A outer s H E p) body t ∧ t { nx := fun _ H' => Q .non H', rt := Q } (L2.start N vs) H) : FnP P w K mg base CX L (k + 1) f fd ps sp := by
  obtain ⟨oc, od, dV, kV, doc, pm, an, cdv, ct, osl, rfl, lk, hcd, _, _⟩ := F.ex
  refine ⟨len, fun A outer s H args us vs Q E p hL room hot pin e0 bnd rv want => ?_⟩
  have nargs := len _ _ _ _ want
  have inH : K.In s.heap := e0.mod.kin.keeps fun b o z => (e0.bs b o z).1
  have lim : s.heap.NoLimit := e0.mod.nolimit.keeps fun b o z => (e0.bs b o z).1
  have kinds : ∀ y ∈ ps.zip us, scope.names.lookup y.1 = some .local ∨ (scope.names.lookup y.1 = some .cell ∧ ((cellsFrom (s.heap.objs.size + 1) scope.names []).lookup y.1).isSome = true) := fun y hy =>
    (S.par y.1 (List.of_mem_zip (show (y.1, y.2) ∈ _ from hy)).1).elim .inl fun z => .inr ⟨z, PySem.W.cellsFrom_some _ _ _ (.inl z)⟩
  refine codeAny_call_function room.depth (inH _ _ lk) rfl S.co S.gen rfl (PySem.W.codeRec_of inH hcd) (bnd _ _ _ _ (wpAny_newFunctionEnv_cells S.kind kinds fun env he s1 x => ?_))
  subst he
  refine ⟨lim.keeps x.toInCall.keep, codeAny_func ?_⟩
  obtain ⟨t, ht, want'⟩ := hbody cdv A outer s H vs Q E p hL hot (room.deeper _) want
  have J0 : Inv (L2H.cxH CX P w K mg base N qual scope f cdv A outer s H E p) [] (L2.start N vs) H s1 := L2H.inv_startH S pin e0 nargs rv x
  refine wpAny_mono (ht.run [] s1 _ H _ J0 want') (fun fl s' z => ?_) fun _ _ z => z
  match fl, z with
  | .ret u, ⟨v, σ', H', J, rr, q⟩ => exact ⟨v, H', J.os, J.bare, J.base, J.hok, rr, q⟩
  | .next, ⟨σ', H', J, q⟩ => exact ⟨.non, H', J.os, J.bare, J.base, J.hok, rfl, q⟩
  | .brk, ⟨_, _, _, q⟩ => exact q.elim
  | .cont, ⟨_, _, _, q⟩ => exact q.elim
end
section
variable {X : Cx} {CX : CXT} {k : Nat} {f : Addr} {fd : FuncData} {ps : List Str} {sp : Sp} {E : L2.St → XK} {x : Str} {q pos : Pos} {e : Expr} {es : List Expr} {t : TA} {L : Addr × Obj → Prop}
theorem pe_callP (F : FnP X.prog X.w X.K X.mg X.base CX L k f fd ps sp) (hr : L2H.RoomH k X.A) (hot : ∃ p, L2H.Hot1 X.A p ∧ p ∈ X.pn ∧ L p) (hg : Gl X x) (hm : X.mg x = some (.ref f)) (hk : PySem.W.keepIn X.K (.ref f) = true) (hb : Binds X.K fd ps []) (hx : ∀ σ, PassesAt CX X σ (E σ))
    (ha : PA X (e :: es) t) (hdb : (x == ("__debug__" : Str)) = false := by decide) (he : starEach (e :: es) X.env = (false, eval e X.env) :: starEach es X.env := by rfl) (hpl : (backTo pos (starEach es X.env)).any (·.1) = false := by rfl) :
    PE X (.Call (.Name x q) (e :: es) [] pos) (fun σ H Q => t σ H fun vs H1 => sp vs H1 Q (E σ)) := by
  refine ⟨fun pins s σ H Q I h => ?_⟩
  refine wpAny_Call_Name_kw (ld_glob I hg hm ?_ hdb)
  refine PySem.W.callWith_K (h₀ := X.base) I.ok.mod.kin hk (thn (ha.run pos pins s σ H _ I h) fun us s1 ⟨vs, H1, I1, r, want⟩ => ⟨I1.kIn, ?_⟩) he hpl
  obtain ⟨p, h1, hp, hL⟩ := hot
  have n1 : us.length = ps.length := r.length.symm.trans (F.len _ _ _ _ want)
  have b := hb s1 us I1.kIn (by rw [List.append_nil]; exact n1)
  rw [List.append_nil] at b
  obtain ⟨a1, a2, a3, a4, a5⟩ := I1.pin p (List.mem_append_left _ hp)
  have pin : L2H.PinOk X.stack H1 s1 p := ⟨a1, a2, fun z => (List.mem_cons.mp (I1.stkSub p.1 z)).elim a3 a4, a5⟩
  refine wpAny_call (codeAny_mono (F.go X.A X.stack s1 H1 ⟨us, []⟩ us vs Q (E σ) p hL hr h1 pin I1.env0 b r want) fun res s' z => ?_)
  match res, z with
  | .error er, z => exact hx σ pins H1 s1 er s' I1 z
  | .ok (.ret u), z => exact I1.after z
  | .ok .next, z => exact z.elim
  | .ok .brk, z => exact z.elim
  | .ok .cont, z => exact z.elim
end
section
variable (P : Program) (w : World) (K : PySem.W.Frag) (mg : Str → Option Value) (base : Heap) (xr : XR)
def OkfH (a d : Addr) (cls : Str) (x : Str) (st : Stmt) (k : Nat) (ps : List Str) (m : Fn) : Prop := ∃ (f : Addr) (fd : FuncData),
  FnP P w K mg base (L2N.CX P w) (Lk K a d cls) k f fd ps (spD w K xr false ps.length [] m) ∧ mg x = some (.ref f) ∧ FunD K x x (defArgs st) (defBody st) (defScope st) [] [] f fd
def CalH (a d : Addr) (cls : Str) (x : Str) (k : Nat) (n : Nat) (m : Fn) : Prop := ∃ (f : Addr) (fd : FuncData) (ps : List Str),
  FnP P w K mg base (L2N.CX P w) (Lk K a d cls) k f fd ps (spD w K xr false n [] m) ∧ mg x = some (.ref f) ∧ PySem.W.keepIn K (.ref f) = true ∧ Binds K fd ps []
end
section
variable {P : Program} {w : World} {K : PySem.W.Frag} {mg : Str → Option Value} {base : Heap} {xr : XR} {a d : Addr} {cls : Str}
theorem okfH_mk {x : Str} {st : Stmt} {N ps : List Str} {k : Nat} {g : M Fl} (F : Fd K mg x st []) (S : FnScope N ps (defScope st)) (hN : ps.length ≤ N.length)
    (hbody : ∀ (f : Addr) (cdv : Value) (A : Around) (outer : List PySem.Env) (s : Shared) (H : Hp) (E : XK) (F0 : Hp) (R : Addr → Prop) (A0 : Nat → Addr) (p : Addr × Obj), Lk K a d cls p → L2H.Hot1 A p → L2H.RoomH k (A.deeper (envOfC x (defScope st) s.heap.objs.size f cdv)) →
      DSs (L2H.cxH (L2N.CX P w) P w K mg base N x (defScope st) f cdv A outer s H E p) ⟨⟨w, K, F0, R, fun _ => false, fun i => ([] : List Nat).contains i, A0, fun _ => False⟩, xr⟩ (fun c d _ H => E c d H) (defBody st) g) :
    OkfH P w K mg base xr a d cls x st (k + 1) ps (mkFn false N.length [] g) := by
  obtain ⟨f, fd, hm, F⟩ := F
  refine ⟨f, fd, fn_P F S (fun vs H Q E h => h.1) (fun cdv A outer s H vs Q E p hL hot hr h => ?_), hm, F⟩
  obtain ⟨R, A0, h⟩ := def_tS0 (O := fun _ => false) hN (fun i hi => by cases hi) (fun i _ z => by cases z) h
  exact ⟨_, dss0_of (hbody f cdv A outer s H E H R A0 p hL hot hr), h⟩
theorem OkfH.cal {x : Str} {st : Stmt} {ps : List Str} {k : Nat} {m : Fn} (o : OkfH P w K mg base xr a d cls x st k ps m)
    (h : ∀ (kV doc pm : Value) (an : Option Addr) (cdv ct : Value) (us : List Value), us.length = ps.length → bindArgs (PySem.W.fnOf x x (defArgs st) (defBody st) (defScope st) .none kV doc pm an cdv ct) ⟨us, []⟩ = pure (ps.zip us)) :
    CalH P w K mg base xr a d cls x k ps.length m := by
  obtain ⟨f, fd, hF, hm, F⟩ := o
  exact ⟨f, fd, ps, hF, hm, F.kp, F.bindsN h⟩
end
section
variable {X : Cx} {fr : Fx} {W : WX} {x y f : Str} {pos p p2 : Pos} {e : Expr} {es : List Expr} {k n i : Nat} {m : Fn} {as : List ArgM} {a d : Addr} {cls : Str}
theorem hotX_cxH {CX : CXT} {P : Program} {w : World} {K : PySem.W.Frag} {mg : Str → Option Value} {base : Heap} {N : List Str} {qual : Str} {scope : Scope} {f : Addr} {cd : Value} {A : Around} {outer : List PySem.Env} {s : Shared} {H : Hp} {E : XK} {p : Addr × Obj} (hL : Lk K a d cls p) (hot : L2H.Hot1 A p) :
    HotX (L2H.cxH CX P w K mg base N qual scope f cd A outer s H E p) a d cls := ⟨p, ⟨hot.1, hot.2⟩, List.mem_cons_self .., hL⟩
theorem dclH (c : CalH X.prog X.w X.K X.mg X.base fr.ex a d cls x k n m) (hr : L2H.RoomH k X.A) (hot : HotX X a d cls) (tk : L2N.Takes X W) (ha : DAs X fr W (e :: es) as) (hx : Gl X x := by rfl) (hk : fr.K = X.K := by rfl) (hw : fr.w = X.w := by rfl) (hn : (e :: es).length = n := by rfl) (hes : as.length = (e :: es).length := by rfl) (hs : shapeOk (shp as) [] = true := by rfl)
    (hdb : (x == ("__debug__" : Str)) = false := by decide)
    (he : starEach (e :: es) X.env = (false, eval e X.env) :: starEach es X.env := by rfl) (hpl : (backTo pos (starEach es X.env)).any (·.1) = false := by rfl) :
    DE X fr W (.Call (.Name x p) (e :: es) [] pos) (eCall m [] as []) := by
  obtain ⟨f, fd, ps, F, hm, hkp, hb⟩ := c
  refine pe_mono (pe_callP (E := WE W) F hr hot hx hm hkp hb (fun σ => L2N.passAt tk σ) ha.e hdb he hpl) fun σ H Q h => ?_
  have := call_rd (X := X) (e := e) (es := es) (dvs := []) (dvV := []) (nw := false) (n := n) (fun _ _ => RpL.nil) hk hw ha.p (by simpa using hn) hes hs h
  simpa only [List.append_nil] using this
end
end DL
end
section
namespace DL
open PySem PySem.Spec L2
open PyProof.Rows hiding St
/-! ### what the classes say of their exceptions -/
def kxB (C : Addr) (K : PySem.W.Frag) : Bool := (PySem.W.clsIn K C).isSome && (xfB K C && (He.eqO (PySem.W.findIn K (.ref C) "__class__") (some (some (.builtin "object.__class__"))) &&
  (decide (PySem.W.specialIn K (.builtin "object.__class__") "__get__" = some (some (.builtin "getset_descriptor.__get__"))) && (decide (PySem.W.takesIn K (.builtin "object.__class__") = some true) && decide (PySem.W.mroIn K C (.type "object") = some true)))))
theorem kxB_ok {K : PySem.W.Frag} {C : Addr} (h : kxB C K = true) : XfC K C ∧ ∀ (x : Addr) (ox : Obj) (od : Option Obj), PySem.W.KitX K (.ref x) (.ref C) (fun h => PySem.W.InstAt h x ox C od) := by
  obtain ⟨h1, h⟩ := He.ba h
  obtain ⟨h2, h⟩ := He.ba h
  obtain ⟨h3, h⟩ := He.ba h
  obtain ⟨h4, h⟩ := He.ba h
  obtain ⟨h5, h6⟩ := He.ba h
  have T := xfB_ok h2
  exact ⟨T, fun x ox od => PySem.W.kitx_exc h1 T.ga T.gg T.exC (He.eqO_ok h3) (of_decide_eq_true h4) (of_decide_eq_true h5) (of_decide_eq_true h6)⟩
/-- isinstance of an exception of the class c and y: y a class of the module, or a built-in one -/
def is1B (K : PySem.W.Frag) (t : Str × Str × Bool) : Bool := kxB (He.ga K t.1) K && ((He.eqO (PySem.W.nsIn K mainGlobals t.2.1) (some (some (.ref (He.ga K t.2.1)))) && decide (PySem.W.kitOne K (.ref (He.ga K t.1)) (.ref (He.ga K t.2.1)) = some t.2.2)) ||
  (He.eqO (PySem.W.nsIn K mainGlobals t.2.1) (some none) && (match bootBuiltins t.2.1 with
    | some (.type T) => decide (PySem.W.kitOne K (.ref (He.ga K t.1)) (.type T) = some t.2.2)
    | _ => false)))
def isB (l : List (Str × Str × Bool)) (K : PySem.W.Frag) : Bool := l.all (is1B K)
def isOf (l : List (Str × Str × Bool)) (c y : Str) : Option Bool := (l.find? fun t => t.1 == c && t.2.1 == y).map (·.2.2)
theorem isOf_mem {l : List (Str × Str × Bool)} {c y : Str} {b : Bool} (h : isOf l c y = some b) : (c, y, b) ∈ l := by
  unfold isOf at h
  rw [Option.map_eq_some_iff] at h
  obtain ⟨t, h1, h2⟩ := h
  have h3 := List.find?_some h1
  simp only [Bool.and_eq_true, beq_iff_eq] at h3
  obtain ⟨rfl, rfl⟩ := h3
  subst h2
  exact List.mem_of_find?_eq_some h1
/-- what isinstance(an exception of the class c, y) leans on -/
def IsX (K : PySem.W.Frag) (mg : Str → Option Value) (c y : Str) (b : Bool) : Prop := kxB (He.ga K c) K = true ∧ ∃ cv : Value, PySem.W.kitOne K (.ref (He.ga K c)) cv = some b ∧
  ((∃ C, cv = .ref C ∧ mg y = some (.ref C)) ∨ ∃ T, cv = .type T ∧ mg y = none ∧ bootBuiltins y = some (.type T))
theorem isB_ok {l : List (Str × Str × Bool)} {K : PySem.W.Frag} {h : Heap} {mg : Str → Option Value} (c : isB l K = true) (X : K.In h) (G : h.Ns mainGlobals mg) {x y : Str} {b : Bool} (e : isOf l x y = some b) : IsX K mg x y b := by
  have c1 := List.all_eq_true.mp c _ (isOf_mem e)
  obtain ⟨c2, c3⟩ := He.ba c1
  refine ⟨c2, ?_⟩
  rcases Bool.or_eq_true_iff.mp c3 with c3 | c3
  · obtain ⟨c4, c5⟩ := He.ba c3
    exact ⟨_, of_decide_eq_true c5, .inl ⟨_, rfl, PySem.W.mg_of X G (He.eqO_ok c4)⟩⟩
  · obtain ⟨c4, c5⟩ := He.ba c3
    split at c5
    · rename_i T hT
      exact ⟨_, of_decide_eq_true c5, .inr ⟨T, rfl, PySem.W.mg_none_of X G (He.eqO_ok c4), hT⟩⟩
    · cases c5
/-- except y: of an exception of the class c -/
def exB (l : List (Str × Str × Bool)) (K : PySem.W.Frag) : Bool := l.all fun t => He.eqO (PySem.W.nsIn K mainGlobals t.2.1) (some (some (.ref (He.ga K t.2.1)))) && decide (PySem.W.exmOne K (.ref (He.ga K t.1)) (.ref (He.ga K t.2.1)) = some t.2.2)
theorem exB_ok {l : List (Str × Str × Bool)} {K : PySem.W.Frag} (c : exB l K = true) {x y : Str} {b : Bool} (e : isOf l x y = some b) : PySem.W.exmOne K (.ref (He.ga K x)) (.ref (He.ga K y)) = some b :=
  of_decide_eq_true (He.ba (List.all_eq_true.mp c _ (isOf_mem e))).2
/-- the fields that may be read -/
def fdB (l : List (Str × Str)) (K : PySem.W.Frag) : Bool := l.all fun t => kxB (He.ga K t.1) K && He.eqO (PySem.W.findIn K (.ref (He.ga K t.1)) t.2) (some none)
theorem fdB_ok {l : List (Str × Str)} {K : PySem.W.Frag} (c : fdB l K = true) {x f : Str} (e : l.contains (x, f) = true) : XfC K (He.ga K x) ∧ PySem.W.findIn K (.ref (He.ga K x)) f = some none := by
  obtain ⟨c1, c2⟩ := He.ba (List.all_eq_true.mp c (x, f) (by simpa using e))
  exact ⟨(kxB_ok c1).1, He.eqO_ok c2⟩

/-! ### within the suite -/
section
variable {X : Cx} {fr : Fx} {W : WX} {σ : L2.St} {H : Hp} {x y f n : Str} {pos p p2 p3 : Pos} {e a b : Expr} {es : List Expr} {k i : Nat} {ad dd : Addr} {cls : Str}
theorem inst_at {pins : List (Addr × Obj)} {s : Shared} {q : Addr × Obj} {fs : List (Str × V)} {C : Addr} (I : Inv X pins σ H s) (hq : q ∈ X.pn) (hz : L2N.Zn (.ref C) (some dd) q.2) (hf : ∃ vs, q.2.data = .fields vs) (hd : H dd = some (.xd fs)) : ∃ od, s.heap.get? dd = some od ∧ PySem.W.InstAt s.heap q.1 q.2 C (some od) := by
  obtain ⟨g1, _⟩ := I.pin q (List.mem_append_left _ hq)
  obtain ⟨vs, hv⟩ := hf
  obtain ⟨mA, ⟨od, es, ep, ho, _⟩, _⟩ : ∃ mA, s.heap.Ns1 dd mA ∧ ∀ f, RelO (fs.lookup f) (mA f) := I.hok dd _ hd
  exact ⟨od, ho, g1, hz.1, by unfold PySem.W.notCls; rw [hv] <;> rfl, by rw [hz.2.1]; exact ho⟩
def rIsP (a d : Addr) (cv : Value) (b : Bool) : List V → Hp → VK → Prop := fun xs H Q => ∃ (c : V) (fs : List (Str × V)), xs = [.ref a, c] ∧ RelV c cv ∧ (∀ u, RelV c u → u = cv) ∧ H d = some (.xd fs) ∧ Q (.bl b) H
theorem call_isP {cv : Value} {bb : Bool} (hot : HotX X ad dd cls) (kx : kxB (He.ga X.K cls) X.K = true) (kt : PySem.W.kitOne X.K (.ref (He.ga X.K cls)) cv = some bb) : CallR X (.builtin "isinstance") (rIsP ad dd cv bb) := by
  intro pins s σ H xs us Q I r h
  obtain ⟨c, fs, rfl, _, hcv, hd, q⟩ := h
  obtain ⟨⟨pa, po⟩, _, hp, rfl, hz, hf⟩ := hot
  cases r with
  | cons rx rr =>
    cases rr with
    | cons rt rr =>
      cases rr
      cases rx
      obtain rfl := hcv _ rt
      obtain ⟨od, _, J⟩ := inst_at I hp hz hf hd
      exact PySem.W.kia_one ((kxB_ok kx).2 pa po (some od)) I.kIn J kt (fun z => nomatch z) fun tk => ⟨.bl bb, H, I.kept (t' := tk) fun _ _ z => z, rfl, q⟩
/-- the handled exception in the slot i -/
def eX (a d : Addr) (cls : Str) (i : Nat) (g : List (Str × D) → Option D) : M D := fun ρ => match ρ[i]? with
  | some (some (.exc a' d' c' fs)) => if a' = a ∧ d' = d ∧ c' = cls then M.opt (g fs) ρ else .stuck
  | _ => .stuck
theorem eX_in {g : List (Str × D) → Option D} {ρ : DL.Env} {Qo : D → DL.Env → Prop} {Qe : Exn → DL.Env → Prop} (h : wpR (eX ad dd cls i g ρ) Qo Qe) : ∃ fs v, ρ[i]? = some (some (.exc ad dd cls fs)) ∧ g fs = some v ∧ Qo v ρ := by
  unfold eX at h
  split at h
  · rename_i a' d' c' fs hr
    split at h
    · rename_i hh
      obtain ⟨rfl, rfl, rfl⟩ := hh
      cases hg : g fs with
      | none => rw [hg] at h; exact h.elim
      | some v => rw [hg] at h; exact ⟨fs, v, hr, hg, h⟩
    · exact h.elim
  · exact h.elim
def eIsX (a d : Addr) (cls : Str) (i : Nat) (r : Option Bool) : M D := eX a d cls i fun _ => r.map .bl
theorem de_isX {r : Option Bool} (hot : HotX X ad dd cls) (c : ∀ b, r = some b → IsX X.K X.mg cls y b) (hO : fr.O i = false := by rfl) (hN : X.N[i]? = some n := by rfl) (hv : Vis X.env.scope n := by first | exact Or.inl rfl | exact Or.inr (Or.inl rfl) | exact Or.inr (Or.inr rfl))
    (hx : Gl X "isinstance" := by rfl) (hm : X.mg "isinstance" = none := by assumption) (hy : Gl X y := by rfl) (hd : (n == ("__debug__" : Str)) = false := by decide) (hcd : (n == ("__classdict__" : Str)) = false := by decide) (hyd : (y == ("__debug__" : Str)) = false := by decide) (hyn : y ≠ "__name__" := by decide)
    (he : starEach [.Name n p, .Name y p2] X.env = (false, eval (.Name n p) X.env) :: starEach [.Name y p2] X.env := by rfl) (he2 : starEach [.Name y p2] X.env = (false, eval (.Name y p2) X.env) :: starEach [] X.env := by rfl) (hpl : (backTo pos (starEach [.Name y p2] X.env)).any (·.1) = false := by rfl) :
    DE X fr W (.Call (.Name "isinstance" p3) [.Name n p, .Name y p2] [] pos) (eIsX ad dd cls i r) := by
  cases r with
  | none => exact ⟨fun pins s σ H Q I ⟨ρ, E, h⟩ => by
      obtain ⟨fs, v, _, e, _⟩ := eX_in h
      cases e⟩
  | some bb =>
    obtain ⟨kx, cv, kt, hc⟩ := c bb rfl
    have key : ∀ (v : V) (pv : PE X (.Name y p2) (tC v)) (rel : RelV v cv) (uni : ∀ u, RelV v u → u = cv), DE X fr W (.Call (.Name "isinstance" p3) [.Name n p, .Name y p2] [] pos) (eIsX ad dd cls i (some bb)) := fun v pv rel uni => by
      refine pe_mono (pe_callB (call_isP hot kx kt) hx hm (by decide +kernel) (pa_cons (pe_var hN hv hd hcd) (pa_cons pv pa_nil he2) he) (by decide) (by decide) he hpl) fun σ H Q ⟨ρ, E, h⟩ => ?_
      obtain ⟨fs, w, h1, h2, h3⟩ := eX_in h
      cases h2
      obtain ⟨u, h4, h5⟩ := E.pl i _ h1 hO
      simp only [Rp] at h5
      obtain ⟨rfl, _, h6⟩ := h5
      exact ⟨.ref ad, h4, v, _, rfl, rel, uni, h6, h3 _ H E Stp.refl rp_bl⟩
    rcases hc with ⟨C, rfl, hmy⟩ | ⟨T, rfl, hmy, hb⟩
    · exact key (.ref C) (pe_glob hy hmy rfl hyd) rfl fun u hu => hu
    · exact key (.ty T) (pe_bltn hy hmy hb rfl hyn hyd) rfl fun u hu => hu
/-- error.f -/
def eAtX (a d : Addr) (cls : Str) (i : Nat) (ok : Bool) (f : Str) : M D := eX a d cls i fun fs => if ok then (match fs.lookup f with
  | some (.str z) => if lenOk z.length then some (.str z) else none
  | some (.int j) => some (.int j)
  | _ => none) else none
theorem lookup_map (f : Str) : ∀ fs : List (Str × D), (fs.map fun p => (p.1, p.2.fv)).lookup f = (fs.lookup f).map D.fv
  | [] => rfl
  | (g, d) :: r => by
    simp only [List.map_cons, List.lookup_cons]
    cases f == g with
    | true => rfl
    | false => exact lookup_map f r
theorem pe_att (hot : HotX X ad dd cls) (T : XfC X.K (He.ga X.K cls)) (hno : PySem.W.findIn X.K (.ref (He.ga X.K cls)) f = some none) {te : TE} (he : PE X e te) (hb : attributeBase e f X.env (eval e X.env) = eval e X.env := by rfl) :
    PE X (.Attribute e f pos) (fun σ H Q => te σ H fun x H1 => x = .ref ad ∧ ∃ (fs : List (Str × V)) (v : V), H1 dd = some (.xd fs) ∧ fs.lookup f = some v ∧ Q v H1) := by
  refine ⟨fun pins s σ H Q I h => ?_⟩
  refine attr_of hb (thn (he.run pins s σ H _ I h) fun u s1 hh => ?_)
  obtain ⟨x, H1, I1, rx, rfl, fs, v, hd, l, q⟩ := hh
  obtain rfl : u = Value.ref ad := rx
  obtain ⟨⟨pa, po⟩, _, hp, rfl, hz, hf⟩ := hot
  obtain ⟨mA, hns, hr⟩ : ∃ mA, s1.heap.Ns1 dd mA ∧ ∀ f, RelO (fs.lookup f) (mA f) := I1.hok dd _ hd
  obtain ⟨od, ho, hl⟩ := lookIn_ns hns
  obtain ⟨u, hu, ru⟩ := RelO.some_of (v := v) (o := mA f) (by rw [← l]; exact hr f)
  obtain ⟨od', ho', J⟩ := inst_at I1 hp hz hf hd
  obtain rfl : od' = od := Option.some.inj (ho'.symm.trans ho)
  exact HandSPX.exc_get I1.kIn J T.ga T.gg T.exC (PySem.W.findObj_own T.hdC hno rfl (by rw [hl, hu])) (handed_of ru) ⟨v, H1, I1.tok _, ru, q⟩
theorem de_atX {ok : Bool} (hot : HotX X ad dd cls) (c : ok = true → XfC X.K (He.ga X.K cls) ∧ PySem.W.findIn X.K (.ref (He.ga X.K cls)) f = some none) (hO : fr.O i = false := by rfl) (hN : X.N[i]? = some n := by rfl) (hv : Vis X.env.scope n := by first | exact Or.inl rfl | exact Or.inr (Or.inl rfl) | exact Or.inr (Or.inr rfl))
    (hd : (n == ("__debug__" : Str)) = false := by decide) (hcd : (n == ("__classdict__" : Str)) = false := by decide) (hb : attributeBase (.Name n p) f X.env (eval (.Name n p) X.env) = eval (.Name n p) X.env := by rfl) :
    DE X fr W (.Attribute (.Name n p) f pos) (eAtX ad dd cls i ok f) := by
  cases ok with
  | false => exact ⟨fun pins s σ H Q I ⟨ρ, E, h⟩ => by
      obtain ⟨fs, v, _, e, _⟩ := eX_in h
      cases e⟩
  | true =>
    obtain ⟨T, no⟩ := c rfl
    refine pe_mono (pe_att hot T no (pe_var hN hv hd hcd) hb) fun σ H Q ⟨ρ, E, h⟩ => ?_
    obtain ⟨fs, v, h1, h2, h3⟩ := eX_in h
    obtain ⟨u, h4, h5⟩ := E.pl i _ h1 hO
    simp only [Rp] at h5
    obtain ⟨rfl, _, h6⟩ := h5
    rw [if_pos rfl] at h2
    split at h2
    · rename_i z hl
      split at h2
      · rename_i hz
        cases h2
        exact ⟨.ref ad, h4, rfl, _, .str z, h6, by rw [lookup_map, hl]; rfl, h3 _ H E Stp.refl (rp_str (lenOk_iff.mp hz))⟩
      · cases h2
    · rename_i j hl
      cases h2
      exact ⟨.ref ad, h4, rfl, _, .int j, h6, by rw [lookup_map, hl]; rfl, h3 _ H E Stp.refl rp_int⟩
    · cases h2
end

/-! ### a comprehension over range there -/
abbrev DIH (X : Cx) (fr : Fx) (W : WX) (tg iter : Expr) (f : M (List D)) : Prop := L2H.PIH X tg iter (tI fr W f)
section
variable {X : Cx} {fr : Fx} {W : WX} {tg elt iter a : Expr} {scope : Scope} {own : List (Str × Nat)} {pos p : Pos} {sl : List Nat} {fl : M (List D)} {g : MG} {te f : M D}
theorem di_range1H (hg : Gl X "range") (hm : X.mg "range" = none) (h : DE X fr W a f) (hs : starEach [a] X.env = [(false, eval a X.env)] := by rfl) : DIH X fr W tg (.Call (.Name "range" p) [a] [] pos) (iRange1 f) := by
  have k := L2H.pi_range1H (tg := tg) (pos := pos) (p := p) hg hm (pa_cons h pa_nil hs) hs
  refine ⟨fun pins s σ H R I ⟨ρ, E, h⟩ => k.run pins s σ H R I ⟨ρ, E, wpR.mono (wpR.of_bind (r := f ρ) h) (fun d ρ1 q v H1 E1 s1 r1 => ?_) fun _ _ q => q⟩⟩
  cases d with
  | int n =>
    dsimp only at q
    by_cases hc : (decide (-4611686018427387904 ≤ n) && decide (n < 4611686018427387904)) = true
    · rw [if_pos hc] at q
      simp only [Bool.and_eq_true, decide_eq_true_eq] at hc
      exact ⟨n, by rw [show v = .int n from (r1.rs (w := fr.w)).int], by omega, by omega, q _ H1 E1 s1 it_range⟩
    · rw [if_neg hc] at q
      exact q.elim
  | _ => exact q.elim
theorem df_lcH (hot : L2H.HotC X) (hN : X.N.Nodup) (hi : DIH X fr W tg iter fl) (ok : BlkOk X.N X.env.scope scope own) (hf : Free fr.toFr (own.map (·.2))) (hsl : ∀ i, i ∈ sl → i ∈ own.map (·.2))
    (hg : ∀ (s : Shared) (H : Hp) (C : Addr) (cl : List (Str × Addr)) (fp : List Addr) (xp : Addr → Prop), DG (blkH X s H scope (compEnvC scope cl C X.env) fp) (fr.xp xp) sl tg g)
    (he : ∀ (s : Shared) (H : Hp) (C : Addr) (cl : List (Str × Addr)) (fp : List Addr) (xp : Addr → Prop), DE (blkH X s H scope (compEnvC scope cl C X.env) fp) (fr.xp xp) W0 elt te) (hs : ∀ x, foldedSetIterable iter X.env x = pure x := by intro _; rfl) :
    DF X fr W (.ListComp elt [⟨tg, iter, [], 0⟩] scope pos) (eLc fl (own.map (·.2)) g tTrue te) := by
  refine df_lc_of hf hsl (pe_mono (pe_lcH (g := gEx fr sl g) (te := eEx fr te) hot hN hi ok
    (fun s H C cl fp => ⟨fun pins s' σ H v u Q I r ⟨xp, q⟩ => (hg s _ C cl fp xp).run pins s' σ H v u Q I r q⟩)
    (fun s H C cl fp => ⟨fun pins s' σ H Q I ⟨xp, q⟩ => (he s _ C cl fp xp).run pins s' σ H Q I q⟩) hs) fun σ H Q h => ?_)
  obtain ⟨ρ, E, h⟩ := h
  refine ⟨ρ, E, wpR.mono h (fun ds ρ1 q J H1 E1 s1 it D hD => ?_) fun _ _ q => q⟩
  obtain ⟨Wv, w0, turn⟩ := q J H1 E1 s1 it D hD
  refine ⟨Wv, w0, fun i m H2 w2 => (turn i m H2 w2).imp id fun ⟨go, Nx, hNx, step⟩ => ⟨go, Nx, hNx, fun x H3 y => ?_⟩⟩
  obtain ⟨xp, d, r1, r2, E2, rp, e, z⟩ := step x H3 y
  refine ⟨xp, d, r1, r2, E2, rp, e, fun σ3 H4 E3 s3 o3 => ?_⟩
  obtain ⟨ew, xq, r4, E4, z4⟩ := z σ3 H4 E3 s3 o3
  exact ⟨ew, z4 H4 E4 Stp.refl⟩
end
end DL
end
section
namespace DL
open PySem PySem.Spec L2
open PyProof.Rows hiding St
/-! ### x[::-1] of a tuple, of a list -/
section
variable {prog : Program} {w : World} {A : Around} {E : Value → Shared → Prop} {s : Shared}
theorem applied_back {sl : Addr} {vs : Value} {n : Nat} {Q : Int × Int × Nat → Shared → Prop} (hs : s.heap.IsSliceOf sl .none .none vs) (ps : IsPart vs (some (-1))) (h : Q ((n : Int) - 1, -1, n) s) :
    wpAny (model prog w) A (Builtin.Slice.sliceApplied (.ref sl) (pure (n : Int))) Q E s := by
  obtain ⟨os, g1, g2, g3⟩ := id hs
  unfold Builtin.Slice.sliceApplied Builtin.Slice.sliceFields
  refine wpAny_bind (wpAny_bind (wpAny_field g1 g3 (x := .none) rfl (wpAny_bind (wpAny_field g1 g3 (x := .none) rfl (wpAny_bind (wpAny_field g1 g3 (x := vs) rfl (wpAny_pure ?_)))))))
  refine wpAny_bind (HT.slicePart_ ps ?_)
  show wpAny _ _ (if ((-1 : Int) == 0) = true then _ else _) _ _ s
  rw [if_neg (by decide)]
  refine wpAny_bind (slicePart_none (wpAny_bind (slicePart_none (wpAny_bind (wpAny_pure ?_)))))
  have e : Builtin.Slice.sliceAdjust none none (-1) (n : Int) = ((n : Int) - 1, -1) := by
    unfold Builtin.Slice.sliceAdjust
    rfl
  have e2 : Builtin.Slice.slicePlaces ((n : Int) - 1) (-1) (-1) = n := by
    unfold Builtin.Slice.slicePlaces
    rw [if_neg (by decide)]
    by_cases hn : n = 0
    · subst hn; rfl
    · rw [if_pos (by omega), show -(-1 : Int) = 1 from rfl, Int.ediv_one]
      omega
  show wpAny _ _ (match Builtin.Slice.sliceAdjust none none (-1) (n : Int) with | (lo, hi) => pure (lo, (-1 : Int), Builtin.Slice.slicePlaces lo hi (-1))) _ _ s
  rw [e]
  show wpAny _ _ (pure ((n : Int) - 1, (-1 : Int), Builtin.Slice.slicePlaces ((n : Int) - 1) (-1) (-1))) _ _ s
  rw [e2]
  exact wpAny_pure h
theorem fm_congr {α β : Type} {f g : α → Option β} : ∀ {l : List α}, (∀ x ∈ l, f x = g x) → l.filterMap f = l.filterMap g
  | [], _ => rfl
  | a :: l, h => by rw [List.filterMap_cons, List.filterMap_cons, h a (List.mem_cons_self ..), fm_congr fun x hx => h x (List.mem_cons_of_mem _ hx)]
theorem pick_back (xs : Array Value) : ((List.range xs.size).filterMap fun (m : Nat) => xs[((xs.size : Int) - 1 + (m : Int) * (-1)).toNat]?) = xs.toList.reverse := by
  have e : (List.range xs.size).filterMap (fun (m : Nat) => xs[((xs.size : Int) - 1 + (m : Int) * (-1)).toNat]?) = ((List.range xs.size).map fun k => xs.size - 1 - k).filterMap (xs[·]?) := by
    rw [List.filterMap_map]
    refine fm_congr fun m hm => ?_
    have : ((xs.size : Int) - 1 + (m : Int) * (-1)).toNat = xs.size - 1 - m := by omega
    rw [this]
    rfl
  rw [e, PySem.W.krv_range, List.filterMap_reverse, PySem.W.krv_all]
theorem getItem_tuple_back {t sl : Addr} {items : Array Value} {vs : Value} {Q : Value → Shared → Prop} (ht : IsTup s.heap t items) (hs : s.heap.IsSliceOf sl .none .none vs) (ps : IsPart vs (some (-1)))
    (h : Q (.ref s.heap.objs.size) { s with heap := s.heap.push { cls := .type "tuple", data := .seq items.toList.reverse.toArray } }) (hsz : items.size ≤ sizeLine) : wpAny (model prog w) A (getItem (.ref t) (.ref sl)) Q E s := by
  obtain ⟨os, g1, g2, g3⟩ := id hs
  have hTs : s.TypeIs (.ref sl) "slice" := ⟨os, g1, g2⟩
  have fits : sizeOk (.seq items.toList.reverse.toArray) := by
    show items.toList.reverse.toArray.size ≤ sizeLine
    rw [List.size_toArray, List.length_reverse, Array.length_toList]
    exact hsz
  unfold getItem
  try with_reducible refine wpAny_holding ?_
  first | refine wpAny_bind (wpAny_pure ?_) | skip
  refine wpAny_bind (wpAny_sequenceKey ht.typeIs (by decide) ?_)
  refine wpAny_bind (wpAny_callSpecial?_slot (name := Str.ofString "__getitem__") ht.typeIs PyProof.Rows.slot_tuple_getitem
    (wpAny_call_entry PyProof.Rows.slot_tuple_getitem ht.typeIs PyProof.Rows.entry_tuple_getitem ?_ (PyProof.Rows.args_tuple_getitem _ _)))
  show wpAny _ _ (Builtin.Tuple.tupleItemsOf (.ref t) >>= _) _ _ s
  refine wpAny_bind (PyProof.Rows.tupleItemsOf_ ht (wpAny_bind (wpAny_typeOf hTs ?_)))
  rw [if_pos (by decide)]
  refine wpAny_bind (applied_back hs ps ?_)
  show wpAny _ _ (if (((items.size : Int) - 1) == 0 && (-1 : Int) == 1 && items.size == items.size) = true then _ else _) _ _ s
  rw [if_neg (by rw [Bool.and_eq_true, Bool.and_eq_true]; intro q; exact absurd q.1.2 (by decide)), pick_back]
  first
    | exact wpAny_bind (m := Builtin.Tuple.tupleExact _) (wpAny_newObj_type (wpAny_pure ⟨_, rfl, wpAny_pure h⟩) fits)
    | exact wpAny_bind (m := Builtin.Tuple.tupleExact _) (wpAny_newObj_type (wpAny_bind (wpAny_pure (wpAny_pure ⟨_, rfl, wpAny_pure h⟩))) fits)
    | exact wpAny_bind (wpAny_bind (m := Builtin.Tuple.tupleExact _) (wpAny_newObj_type (wpAny_pure (wpAny_pure ⟨_, rfl, wpAny_pure h⟩)) fits))
    | exact wpAny_bind (wpAny_bind (m := Builtin.Tuple.tupleExact _) (wpAny_newObj_type (wpAny_pure ⟨_, rfl, wpAny_pure h⟩) fits))
end
section
variable {X : Cx} {fr : Fx} {W : WX} {σ σ1 : L2.St} {H H1 H' : Hp} {ρ ρ' ρ1 ρ2 : DL.Env} {Q : VK} {e a : Expr} {pos apos p1 p2 p3 : Pos} {f fe : M D} {fa : ArgM} {i k : Nat} {te : TE}
def rBack (K : PySem.W.Frag) : V → Hp → VK → Prop := fun x H1 Q => (∃ a xs, x = .ref a ∧ SqL K H1 a xs ∧ ∀ p, H1 p = none → Q (.ref p) (upd H1 p (.lst xs.reverse))) ∨ ∃ a xs, x = .ref a ∧ SqT K H1 a xs ∧ ∀ p, H1 p = none → Q (.ref p) (upd H1 p (.tup xs.reverse))
theorem pe_back (he : PE X e te) : PE X (.Subscript e (.Slice none none (some (.UnaryOp .USub (.Constant (.int 1) k p1) p2)) p3) pos) (fun σ H Q => te σ H fun x H1 => rBack X.K x H1 Q) := by
  refine ⟨fun pins s σ H Q I h => Subscript_ (thn (he.run pins s σ H _ I h) fun v s1 ⟨x, H1, I1, r1, q1⟩ => ?_)⟩
  have part : PO X (some (.UnaryOp .USub (.Constant (.int 1) k p1) p2)) (tPart (tUn (rU fun i => .int (-i)) (tC (.int 1)))) := po_some (pe_un un_neg pe_int)
  refine wpAny_Slice (thn (po_none.run pins s1 σ H1 (fun o H2 => o = none ∧ H2 = H1) I1 ⟨rfl, rfl⟩) fun vl s2 ⟨l, H2, I2, pl, el, e2⟩ => ?_)
  subst el e2
  refine thn (po_none.run pins s2 σ H2 (fun o H3 => o = none ∧ H3 = H2) I2 ⟨rfl, rfl⟩) fun vu s3 ⟨u, H3, I3, pu, eu, e3⟩ => ?_
  subst eu e3
  refine thn (part.run pins s3 σ H3 (fun o H4 => o = some (-1) ∧ H4 = H3) I3 ⟨1, rfl, -1, rfl, rfl, rfl⟩) fun vs s4 ⟨o, H4, I4, ps, eo, e4⟩ => ?_
  subst eo e4
  have nvl : vl = .none := by cases pl; rfl
  have nvu : vu = .none := by cases pu; rfl
  subst nvl nvu
  have I5 : Inv X pins σ H4 { s4 with heap := s4.heap.push { cls := .type "slice", data := .fields #[.none, .none, vs] } } := I4.kept (t' := s4.toks) fun b ob q => Heap.get?_push_of_some _ q
  show wpAny (model X.prog X.w) X.A (subscriptTail e (.Slice none none (some (.UnaryOp .USub (.Constant (.int 1) k p1) p2)) p3) v (.ref s4.heap.objs.size)) (EP X pins σ Q) X.xe { s4 with heap := s4.heap.push { cls := .type "slice", data := .fields #[.none, .none, vs] } }
  rcases q1 with ⟨a, xs, ex, hx, q⟩ | ⟨a, xs, ex, hx, q⟩
  · subst ex
    obtain rfl : v = .ref a := r1
    obtain ⟨its, r, ht, hz⟩ := I5.list hx
    refine tail_any (ops := [.ref a, .ref s4.heap.objs.size]) ht.isList.typeIs PySem.slot_list_getitem.lookup ?_ (by with_unfolding_all rfl)
    refine wpAny_getItem_list_slice ht.isList (Heap.IsSliceOf.new _ .none .none vs) pl pu ps (by decide) ?_ (by rw [List.size_toArray, ← r.length]; exact hz)
    rw [PySem.W.krv_pick]
    exact ⟨.ref _, _, I5.laid (t' := s4.toks) (o := .lst xs.reverse) (fun b ob q => Heap.get?_push_of_some _ q) (Nat.le_refl _) ⟨by rw [List.length_reverse]; exact hz, _, 0, r.reverse, Heap.get?_push_size _ rfl⟩, rfl, q _ (I5.hok.fresh (Nat.le_refl _))⟩
  · subst ex
    obtain rfl : v = .ref a := r1
    obtain ⟨its, r, ht, hz⟩ := I5.tuple hx
    refine tail_any (ops := [.ref a, .ref s4.heap.objs.size]) ht.typeIs PyProof.Rows.slot_tuple_getitem.lookup ?_ (by with_unfolding_all rfl)
    refine getItem_tuple_back ht (Heap.IsSliceOf.new _ .none .none vs) ps ?_ (by rw [List.size_toArray, ← r.length]; exact hz)
    exact ⟨.ref _, _, I5.laid (t' := s4.toks) (o := .tup xs.reverse) (fun b ob q => Heap.get?_push_of_some _ q) (Nat.le_refl _) ⟨by rw [List.length_reverse]; exact hz, _, r.reverse, IsTup.new _ _⟩, rfl, q _ (I5.hok.fresh (Nat.le_refl _))⟩
def backD : List D → Option D
  | [.lst xs] => some (.lst xs.reverse)
  | [.tup xs] => some (.tup xs.reverse)
  | _ => none
theorem RpL.rev {K : PySem.W.Frag} {G : Addr → Prop} : ∀ {ds : List D} {vs : List V}, RpL K G H ds vs → RpL K G H ds.reverse vs.reverse
  | [], vs, h => by simp only [RpL] at h; subst h; exact RpL.nil
  | d :: ds, vs, h => by
    obtain ⟨v, r, rfl, h1, h2⟩ := RpL.uncons h
    rw [List.reverse_cons, List.reverse_cons]
    exact RpL.append (RpL.rev h2) (RpL.cons h1 RpL.nil)
theorem back_ok {w : World} {K : PySem.W.Frag} : AppD w K backD (r1 (rBack K)) := by
  intro G ds vs d H Q hG hg hr q
  unfold backD at hg
  split at hg
  · obtain ⟨x, rfl, h1⟩ := rsl1 hr
    have hz := h1.llen
    obtain ⟨a, us, rfl, s, l⟩ := h1.lst
    cases hg
    exact .inl ⟨a, us, rfl, s, fun p hp => q _ _ (same_upd hp) (newL hG (by rw [List.length_reverse]; exact hz) (RpL.rev l) hp)⟩
  · obtain ⟨x, rfl, h1⟩ := rsl1 hr
    have hz := h1.tlen
    obtain ⟨a, us, rfl, s, l⟩ := h1.tup
    cases hg
    exact .inr ⟨a, us, rfl, s, fun p hp => q _ _ (same_upd hp) (newT (by rw [List.length_reverse]; exact hz) (RpL.rev l) hp)⟩
  · cases hg
theorem de_back (ha : DA X fr W a fa) (hk : fr.K = X.K := by rfl) : DE X fr W (.Subscript a (.Slice none none (some (.UnaryOp .USub (.Constant (.int 1) k p1) p2)) p3) pos) (appM [fa] backD) :=
  pe_mono (pe_back ha.e) fun σ H Q h => by
    have h := app_of (fs := [fa]) (r := r1 (rBack fr.K)) ha.p back_ok h
    exact tArg_mono h fun x H1 h => hk ▸ h

/-! ### x.pop() -/
def ePop (i : Nat) : M D := fun ρ => match ρ[i]? with
  | some (some (.lst ds)) => (match ds.getLast? with
    | some d => .ok d (ρ.set i (some (.lst ds.dropLast)))
    | none => .stuck)
  | _ => .stuck
theorem RpL.dropLast {K : PySem.W.Frag} {G : Addr → Prop} {ds : List D} {vs : List V} (h : RpL K G H ds vs) : RpL K G H ds.dropLast vs.dropLast := by
  rw [List.dropLast_eq_take, List.dropLast_eq_take, h.length]
  exact RpL.take _ h
theorem de_pop {c : Expr} (hO : fr.O i = true) (hcall : PE X c (tBM0 X.K "list" rPop (tVar i))) : DE X fr W c (ePop i) :=
  pe_mono hcall fun σ H Q ⟨ρ, E, h⟩ => by
    unfold ePop at h
    split at h
    · rename_i ds hd
      split at h
      · rename_i d hl
        obtain ⟨A, h1, h2, h3⟩ := E.ow i _ hd hO
        obtain ⟨z, vs, e1, r⟩ := ow_lst h2
        have hl2 : ds[ds.length - 1]? = some d := by rw [← List.getLast?_eq_getElem?]; exact hl
        obtain ⟨v, e2, r2⟩ := RpL.get r hl2
        obtain ⟨E2, s2⟩ := E.putO (d := .lst ds.dropLast) (o := .lst vs.dropLast) hO h1 e1 trk_lst ⟨Nat.le_trans (by simp) z, _, rfl, RpL.dropLast r⟩ h3
        exact ⟨.ref A, h1, .inl ⟨rfl, vs, .inl (.inl e1)⟩, A, vs, v, rfl, rfl, e1, by rw [r.length]; exact e2, h v _ E2 s2 (r2.good s2)⟩
      · exact h.elim
    · exact h.elim

/-! ### x.extend(a new list) -/
def sExt (i : Nat) (f : M D) : M Fl := fun ρ => match ρ[i]? with
  | some (some (.lst _)) => (f.bind fun d ρ1 => match d, ρ1[i]? with
    | .lst es, some (some (.lst ds)) => if lenOk (ds.length + es.length) then .ok .nx (ρ1.set i (some (.lst (ds ++ es)))) else .stuck
    | _, _ => .stuck) ρ
  | _ => .stuck
theorem ds_extend {c : Expr} (hO : fr.O i = true) (hcall : PE X c (tBM X.K "list" rExtend (tVar i) (tCons (tF fr W f) tNil))) (hsw : swapsWith c none pos.line X.env = pure false := by rfl) :
    DS X fr W (.Expr c pos) (sExt i f) :=
  ps_mono (ps_expr hcall hsw) fun Dn σ H ⟨ρ, E, h⟩ => by
    unfold sExt at h
    split at h
    · rename_i ds0 hd0
      obtain ⟨A, h1, h2, h3⟩ := E.ow i _ hd0 hO
      obtain ⟨z0, vs0, e0, r0⟩ := ow_lst h2
      refine ⟨.ref A, h1, .inl ⟨rfl, vs0, .inl (.inl e0)⟩, ρ, E, wp_head h fun d ρ1 q b H1 H' o E1 s1 n sm l ob => ?_⟩
      split at q
      · rename_i es ds hds
        split at q
        · rename_i hl
          obtain ⟨ze, us, rfl, re⟩ := ob
          have E1' := E1.same sm
          obtain ⟨A', h1', h2', h3'⟩ := E1'.ow i _ hds hO
          rw [h1] at h1'
          cases h1'
          obtain ⟨z, vs, e1, r⟩ := ow_lst h2'
          have hl' := lenOk_iff.mp hl
          obtain ⟨E2, s2⟩ := E1'.putO (d := .lst (ds ++ es)) (o := .lst (vs ++ us)) hO h1 e1 trk_lst ⟨by simpa using hl', _, rfl, RpL.append r (re.same sm)⟩ h3'
          exact ⟨A, b, vs, us, rfl, rfl, e1, l, by rw [r.length, re.length]; omega, q σ _ E2 (StS.of ((s1.trans (Stp.same sm)).trans s2))⟩
        · exact q.elim
      · exact q.elim
    · exact h.elim
/-! ### a def that says nothing (a recursion's ground) -/
theorem cal_stuck {P : Program} {w : World} {K : PySem.W.Frag} {mg : Str → Option Value} {base : Heap} {xr : XR} {x : Str} {k n : Nat} {nw : Bool} {io : List Nat} {m : Fn} {dvs : List D} (c : Cal P w K mg base xr x k nw n io m dvs) : Cal P w K mg base xr x k nw n io (fun _ => .stuck) dvs := by
  obtain ⟨f, fd, ps, ds, dvV, F, hm, hk, hb, hd, hdv⟩ := c
  have no : ∀ vs H Q E, ¬ spD w K xr nw n io (fun _ => FRes.stuck) vs H Q E := fun vs H Q E ⟨_, _, _, _, z⟩ => z
  exact ⟨f, fd, ps, ds, dvV, ⟨fun vs H Q E z => (no _ _ _ _ z).elim, fun A outer s H args us vs Q E _ _ _ _ z => (no _ _ _ _ z).elim⟩, hm, hk, hb, hd, hdv⟩
theorem cal_ground {P : Program} {w : World} {K : PySem.W.Frag} {mg : Str → Option Value} {base : Heap} {xr : XR} {x : Str} {st : Stmt} {k : Nat} {nw : Bool} {io : List Nat} {ps : List Str} (F : Fd K mg x st [])
    (h : ∀ (kV doc pm : Value) (an : Option Addr) (cdv ct : Value) (us : List Value), us.length = ps.length → bindArgs (PySem.W.fnOf x x (defArgs st) (defBody st) (defScope st) .none kV doc pm an cdv ct) ⟨us, []⟩ = pure (ps.zip us)) :
    Cal P w K mg base xr x k nw ps.length io (fun _ => .stuck) [] := by
  obtain ⟨f, fd, hm, F⟩ := F
  have no : ∀ vs H Q E, ¬ spD w K xr nw ps.length io (fun _ => FRes.stuck) vs H Q E := fun vs H Q E ⟨_, _, _, _, z⟩ => z
  exact ⟨f, fd, ps, [], [], ⟨fun vs H Q E z => (no _ _ _ _ z).elim, fun A outer s H args us vs Q E _ _ _ _ z => (no _ _ _ _ z).elim⟩, hm, F.kp, F.bindsN h, .nil, fun _ _ => RpL.nil⟩
/-- what is not walked: nothing is said -/
theorem ds_any {st : Stmt} (h : ∃ t, PS X st t) : True := trivial
end
end DL
end
section
namespace DL
open PySem PySem.Spec L2
open PyProof.Rows hiding St
section
variable {X : Cx} {fr : Fx} {W : WX} {e : Expr} {pos : Pos} {f : M D}
def sExp (f : M D) : M Fl := f.bind fun _ => M.pure .nx
theorem ds_expr (h : DE X fr W e f) (hsw : swapsWith e none pos.line X.env = pure false := by rfl) : DS X fr W (.Expr e pos) (sExp f) :=
  ps_mono (ps_expr h hsw) fun Dn σ H ⟨ρ, E, h⟩ => ⟨ρ, E, wp_head h fun d ρ1 q v H1 E1 s1 r1 => q σ H1 E1 (StS.of s1)⟩
theorem hu64H {k : Nat} {A : Around} (hr : L2H.RoomH k A) : A.units + 64 < cLine := by have := hr.un; omega
theorem hu65H {k : Nat} {A : Around} (hr : L2H.RoomH k A) : A.units + 65 < cLine := by have := hr.un; omega
theorem dst_none : True := trivial
end
end DL
end
section
namespace DL
open PySem PySem.Spec L2
open PyProof.Rows hiding St
/-! ### operations whose answer is a new list -/
def AppN (w : World) (K : PySem.W.Frag) (g : List D → Option D) (r : List V → Hp → VK → Prop) : Prop := ∀ (G : Addr → Prop) (ds : List D) (vs : List V) (d : D) (H : Hp) (Q : VK), (∀ b, H b = none → G b) → g ds = some d → RsL w K G H ds vs →
  (∀ a H' o, H a = none → Same H H' → H' a = some o → Ob w K G H d a o → Q (.ref a) H') → r vs H Q
/-- two lists, one behind the other -/
def catD : List D → Option D
  | [.lst xs, .lst ys] => if lenOk (xs.length + ys.length) then some (.lst (xs ++ ys)) else none
  | _ => none
section
variable {X : Cx} {fr : Fx} {W : WX} {σ σ1 : L2.St} {H H1 H' : Hp} {ρ : Env} {Q : VK} {e a b : Expr} {fa fb : ArgM} {pos p2 : Pos} {fl fh : M D}
theorem app_ofN {fs : List ArgM} {g : List D → Option D} {r : List V → Hp → VK → Prop} (hp : ∀ j, ArgM.p j ∈ fs → fr.O j = true) (hg : AppN fr.w fr.K g r) (h : tF fr W (appM fs g) σ H Q) :
    tArgs fr W fs σ H fun vs H' => r vs H' Q := by
  obtain ⟨ρ, E, h⟩ := h
  have h := wpR.of_bind (r := evalA fs ρ) h
  refine tArgs_of fs H ρ _ hp E (wpR.mono h (fun ods ρ1 q vs H1 E1 s1 r1 => ?_) fun _ _ q => q)
  split at q
  · rename_i ds hds
    cases hgd : g ds with
    | none =>
      rw [hgd] at q
      exact q.elim
    | some d =>
      rw [hgd] at q
      exact hg _ ds vs d H1 Q (fun b hb => E1.free hb) hgd (rsL_of fs ods vs ds hp E1 r1 hds) fun a H' o n sm l r => q a H1 H' o E1 s1 n sm l r
  · exact q.elim
theorem cat_ok {w : World} {K : PySem.W.Frag} : AppN w K catD (r2 (rCatL K)) := by
  intro G ds vs d H Q hG hg hr q
  unfold catD at hg
  split at hg
  · obtain ⟨x, y, rfl, h1, h2⟩ := rsl2 hr
    obtain ⟨a, us, rfl, s1, l1⟩ := h1.lst
    obtain ⟨b, ws, rfl, s2, l2⟩ := h2.lst
    split at hg
    · rename_i hl
      cases hg
      have hl' := lenOk_iff.mp hl
      have hz := lenOk_iff.mp hl
      rw [← List.length_append] at hz
      rw [← l1.length, ← l2.length] at hl'
      exact ⟨a, b, us, ws, rfl, rfl, s1, s2, hl', fun p hp => q p _ _ hp (same_upd hp) upd_same ⟨hz, _, rfl, RpL.append l1 l2⟩⟩
    · cases hg
  · cases hg
theorem df_cat (ha : DA X fr W a fa) (hb : DA X fr W b fb) (hk : fr.K = X.K := by rfl) (hw : fr.w = X.w := by rfl) : DF X fr W (.BinOp a .Add b pos) (appM [fa, fb] catD) :=
  pe_mono (pe_op op_catL ha.e hb.e) fun σ H Q h => app_ofN (fs := [fa, fb]) (r := r2 (rCatL X.K)) (ha.p.cons hb.p) (hk ▸ hw ▸ cat_ok) h
theorem listN_ok {w : World} {K : PySem.W.Frag} : AppN w K listD (rList K) := by
  intro G ds vs d H Q hG hg hr q
  unfold listD at hg
  split at hg
  · obtain ⟨x, rfl, h1⟩ := rsl1 hr
    have hz := h1.tlen
    obtain ⟨a, us, rfl, s, l⟩ := h1.tup
    cases hg
    exact ⟨a, us, rfl, .inr s, fun p hp => q p _ _ hp (same_upd hp) upd_same ⟨hz, _, rfl, l⟩⟩
  · obtain ⟨x, rfl, h1⟩ := rsl1 hr
    have hz := h1.llen
    obtain ⟨a, us, rfl, s, l⟩ := h1.lst
    cases hg
    exact ⟨a, us, rfl, .inl s, fun p hp => q p _ _ hp (same_upd hp) upd_same ⟨hz, _, rfl, l⟩⟩
  · cases hg
theorem df_list {x : Str} {p : Pos} (hx : Gl X x) (hm : X.mg x = none) (hv : bootBuiltins x = some (.type "list")) (ha : DAs X fr W [e] [fa]) (hn : x ≠ "__name__" := by decide) (hdb : (x == ("__debug__" : Str)) = false := by decide)
    (he : starEach [e] X.env = (false, eval e X.env) :: starEach [] X.env := by rfl) (hpl : (backTo pos (starEach [] X.env)).any (·.1) = false := by rfl) (hk : fr.K = X.K := by rfl) (hw : fr.w = X.w := by rfl) : DF X fr W (.Call (.Name x p) [e] [] pos) (appM [fa] listD) :=
  pe_mono (pe_callTy call_list_of hx hm hv ha.e hn hdb he hpl) fun σ H Q h => app_ofN (fs := [fa]) (r := rList X.K) ha.p (hk ▸ hw ▸ listN_ok) h
/-- a part of a list -/
def cutLD (lo hi : Option Int) : D → Option D
  | .lst xs => some (.lst (cutL xs lo hi))
  | _ => none
def slNlo : List D → Option D
  | [d, .int i] => cutLD (some i) none d
  | _ => none
def slNhi : List D → Option D
  | [d, .int i] => cutLD none (some i) d
  | _ => none
theorem cutN_ok {w : World} {K : PySem.W.Frag} {G : Addr → Prop} {d d' : D} {v : V} {lo hi : Option Int} (hG : ∀ b, H b = none → G b) (hg : cutLD lo hi d = some d') (r : Rs w K G H d v)
    (q : ∀ a H' o, H a = none → Same H H' → H' a = some o → Ob w K G H d' a o → Q (.ref a) H') : rSlX' K v lo hi H Q := by
  unfold cutLD at hg
  split at hg
  · cases hg
    have hz := Nat.le_trans (cutL_len _ lo hi) r.llen
    obtain ⟨a, us, rfl, s, l⟩ := r.lst
    exact .inl ⟨a, us, rfl, s, fun p hp => q p _ _ hp (same_upd hp) upd_same ⟨hz, _, rfl, cutL_rp l lo hi⟩⟩
  · cases hg
theorem df_slLo (ha : DA X fr W a fa) (hb : DE X fr W b fl) (hk : fr.K = X.K) : DF X fr W (.Subscript a (.Slice (some b) none none p2) pos) (appM [fa, .v (asInt fl)] slNlo) :=
  pe_mono (pe_slice sl_X ha.e (po_some hb) po_none) fun σ H Q h => by
    have h := app_ofN (fs := [fa, .v (asInt fl)]) (r := fun vs H Q => match vs with | [x, .int i] => rSlX' fr.K x (some i) none H Q | _ => False) (ha.p.cons Pl.v) (fun G ds vs d H Q hG hg hr q => by
      unfold slNlo at hg
      split at hg
      · obtain ⟨x, y, rfl, h1, h2⟩ := rsl2 hr
        rw [h2.int]
        exact cutN_ok hG hg h1 q
      · cases hg) h
    refine tArg_mono h fun x H1 h => ?_
    refine tD_mono (asInt_of h) fun y H2 ⟨⟨i, e⟩, h⟩ => ⟨i, e, ?_⟩
    subst e
    exact hk ▸ h
theorem df_slHi (ha : DA X fr W a fa) (hb : DE X fr W b fl) (hk : fr.K = X.K) : DF X fr W (.Subscript a (.Slice none (some b) none p2) pos) (appM [fa, .v (asInt fl)] slNhi) :=
  pe_mono (pe_slice sl_X ha.e po_none (po_some hb)) fun σ H Q h => by
    have h := app_ofN (fs := [fa, .v (asInt fl)]) (r := fun vs H Q => match vs with | [x, .int i] => rSlX' fr.K x none (some i) H Q | _ => False) (ha.p.cons Pl.v) (fun G ds vs d H Q hG hg hr q => by
      unfold slNhi at hg
      split at hg
      · obtain ⟨x, y, rfl, h1, h2⟩ := rsl2 hr
        rw [h2.int]
        exact cutN_ok hG hg h1 q
      · cases hg) h
    refine tArg_mono h fun x H1 h => ?_
    refine tD_mono (asInt_of h) fun y H2 ⟨⟨i, e⟩, h⟩ => ⟨i, e, ?_⟩
    subst e
    exact hk ▸ h
/-! ### a walk over an owned list -/
/-- the frame in which the owning slot i keeps its object a -/
def _root_.DL.Fx.pin (fr : Fx) (i : Nat) (a : Addr) : Fx := ⟨⟨fr.w, fr.K, fr.F, fr.R, fr.O, fun j => fr.P j || Nat.beq j i, fun j => if j = i then a else fr.A j, fr.X⟩, fr.ex⟩
theorem nbeq {j i : Nat} : Nat.beq j i = true ↔ j = i := ⟨Nat.eq_of_beq_eq_true, fun h => by subst h; exact Nat.beq_refl _⟩
theorem pin_S {i : Nat} {a b : Addr} (h : (fr.pin i a).toFr.S b) : fr.toFr.S b ∨ b = a := by
  obtain ⟨j, h1, h2⟩ := h
  simp only [Fx.pin, Bool.or_eq_true, nbeq] at h1 h2
  by_cases hj : j = i
  · rw [if_pos hj] at h2
    exact .inr h2.symm
  · rw [if_neg hj] at h2
    exact .inl ⟨j, h1.resolve_right hj, h2⟩
theorem S_pin {i : Nat} {a b : Addr} (hp : fr.P i = true → fr.A i = a) (h : fr.toFr.S b) : (fr.pin i a).toFr.S b := by
  obtain ⟨j, h1, h2⟩ := h
  refine ⟨j, ?_, ?_⟩
  · show (fr.P j || _) = true
    rw [h1]; rfl
  · show (if j = i then a else fr.A j) = b
    by_cases hj : j = i
    · subst hj
      rw [if_pos rfl, ← h2, hp h1]
    · rw [if_neg hj, h2]
theorem ER.pin {i : Nat} {a : Addr} {d : D} (E : ER fr.toFr σ H ρ) (hO : fr.O i = true) (hσ : σ[i]? = some (some (.ref a))) (hρ : ρ[i]? = some (some d)) : ER (fr.pin i a).toFr σ H ρ := by
  have hp : fr.P i = true → fr.A i = a := fun h => by
    obtain ⟨_, e, _⟩ := E.par i h
    rw [hσ] at e
    cases e
    rfl
  refine ⟨E.len, E.pl, fun j d h1 h2 => ?_, E.nn, E.ne, fun j h => ?_, E.step.mono fun b h => S_pin hp h, E.xt⟩
  · obtain ⟨b, h3, h4, h5⟩ := E.ow j d h1 h2
    exact ⟨b, h3, h4, h5.imp (S_pin hp) id⟩
  · by_cases hj : j = i
    · subst hj
      exact ⟨hO, by show _ = some (some (V.ref (if j = j then a else fr.A j))); rw [if_pos rfl, hσ], d, hρ⟩
    · have : fr.P j = true := by
        have h : (fr.P j || Nat.beq j i) = true := h
        simp only [Bool.or_eq_true, nbeq] at h
        exact h.resolve_right hj
      obtain ⟨h1, h2, h3⟩ := E.par j this
      exact ⟨h1, by show _ = some (some (V.ref (if j = i then a else fr.A j))); rw [if_neg hj, h2], h3⟩
theorem ER.unpin {i : Nat} {a : Addr} (E : ER (fr.pin i a).toFr σ H ρ) (hp : fr.P i = true → fr.A i = a) (hS : fr.toFr.S a ∨ fr.F a = none) : ER fr.toFr σ H ρ := by
  refine ⟨E.len, E.pl, fun j d h1 h2 => ?_, E.nn, E.ne, fun j h => ?_, ⟨fun b o h n => ?_, E.step.t, E.step.f⟩, E.xt⟩
  · obtain ⟨b, h3, h4, h5⟩ := E.ow j d h1 h2
    refine ⟨b, h3, h4, h5.elim (fun z => ?_) .inr⟩
    rcases pin_S z with z | rfl
    · exact .inl z
    · exact hS
  · obtain ⟨h1, h2, h3⟩ := E.par j (by show (fr.P j || _) = true; rw [h]; rfl)
    refine ⟨h1, ?_, h3⟩
    have h2 : σ[j]? = some (some (V.ref (if j = i then a else fr.A j))) := h2
    by_cases hj : j = i
    · subst hj
      rw [if_pos rfl] at h2
      rw [h2, hp h]
    · rwa [if_neg hj] at h2
  · refine E.step.k b o h fun z => ?_
    rcases pin_S z with z | rfl
    · exact n z
    · rcases hS with z | z
      · exact n z
      · have h : fr.F b = some o := h
        rw [z] at h
        cases h
noncomputable def stood (i : Nat) (ds : List D) (ρ : Env) : Bool := @decide (ρ[i]? = some (some (.lst ds))) (Classical.propDecidable _)
theorem stood_iff {i : Nat} {ds : List D} {ρ : Env} : stood i ds ρ = true ↔ ρ[i]? = some (some (.lst ds)) := by
  unfold stood
  exact @decide_eq_true_iff _ (Classical.propDecidable _)
noncomputable def forLO (i : Nat) (ds0 : List D) (g : MG) (body : M Fl) : List D → M Fl
  | [], ρ => if stood i ds0 ρ = true then .ok .nx ρ else .stuck
  | d :: ds, ρ => if stood i ds0 ρ = true then (match g d ρ with
    | none => .stuck
    | some ρ1 => match body ρ1 with
      | .ok .nx ρ2 => forLO i ds0 g body ds ρ2
      | .ok .ct ρ2 => forLO i ds0 g body ds ρ2
      | .ok .bk ρ2 => .ok .nx ρ2
      | .ok (.rt v) ρ2 => .ok (.rt v) ρ2
      | .ok (.rf v) ρ2 => .ok (.rf v) ρ2
      | .exn e ρ2 => .exn e ρ2
      | .stuck => .stuck) else .stuck
noncomputable def sForO (i : Nat) (g : MG) (body : M Fl) : M Fl := fun ρ => match ρ[i]? with
  | some (some (.lst ds)) => forLO i ds g body ds ρ
  | _ => .stuck
theorem StS.unpin {i : Nat} {a : Addr} {σ' : L2.St} (s : StS (fr.pin i a).toFr σ H σ' H') : StS fr.toFr σ H σ' H' := ⟨s.k, s.t, s.f⟩
theorem for_ofO {i : Nat} {a : Addr} {g : MG} {gb : M Fl} {Dn : Ends} {sl : List Nat} {ds : List D} (E : ER (fr.pin i a).toFr σ H ρ) (hO : fr.O i = true) (hp : fr.P i = true → fr.A i = a) (hS : fr.toFr.S a ∨ fr.F a = none) (h : wpR (forLO i ds g gb ds ρ) (FlP fr Dn σ H) (ExS fr W)) :
    ∃ Wv : Nat → Nat → L2.St → Hp → Prop, (∃ m, Wv 0 m σ H) ∧ ∀ k m σ H, Wv k m σ H →
      ((Itl fr.K a).stop k H ∧ Dn.nx σ H) ∨ ((Itl fr.K a).go k H ∧ ∃ N : L2.St → Hp → Prop, (∀ σ' H', N σ' H' → ∃ m', m' < m ∧ Wv (k + 1) m' σ' H') ∧ ∀ x H', (Itl fr.K a).yld k H x H' → tG (fr.pin i a) sl g x σ H' fun σ2 H2 => tS (fr.pin i a) W gb { Dn with nx := N, ct := N, bk := Dn.nx } σ2 H2) := by
  refine ⟨fun k m σ1 H1 => m = ds.length - k ∧ k ≤ ds.length ∧ ∃ ρ, ER (fr.pin i a).toFr σ1 H1 ρ ∧ wpR (forLO i ds g gb (ds.drop k) ρ) (FlP fr Dn σ1 H1) (ExS fr W), ⟨_, rfl, Nat.zero_le _, ρ, E, h⟩, ?_⟩
  rintro k m σ1 H1 ⟨rfl, hi, ρ1, E1, h1⟩
  have hd : ∀ ρ, wpR (forLO i ds g gb (ds.drop k) ρ) (FlP fr Dn σ1 H1) (ExS fr W) → stood i ds ρ = true := fun ρ h => by
    cases hs : stood i ds ρ with
    | true => rfl
    | false =>
      cases e : ds.drop k with
      | nil => rw [e] at h; simp only [forLO, hs] at h; exact h.elim
      | cons _ _ => rw [e] at h; simp only [forLO, hs] at h; exact h.elim
  have hst := hd ρ1 h1
  have hρ := stood_iff.mp hst
  obtain ⟨b, e1, ⟨o, e2, e3⟩, _⟩ := E1.ow i _ hρ hO
  obtain ⟨_, e4, _⟩ := E1.par i (by show (fr.P i || Nat.beq i i) = true; simp)
  have e4 : σ1[i]? = some (some (V.ref (if i = i then a else fr.A i))) := e4
  rw [if_pos rfl, e1] at e4
  cases e4
  obtain ⟨z, vs, rfl, r⟩ := e3
  have sq : SqL fr.K H1 a vs := LsR.seq (G := fun _ => True) (.inl ⟨trivial, .inl e2⟩)
  by_cases hlt : k < ds.length
  · right
    have hlv : k < vs.length := by rw [r.length]; exact hlt
    rw [List.drop_eq_getElem_cons hlt] at h1
    refine ⟨⟨vs, vs[k], sq, List.getElem?_eq_getElem hlv⟩, fun σ' H' => ∃ ρ', ER (fr.pin i a).toFr σ' H' ρ' ∧ wpR (forLO i ds g gb (ds.drop (k + 1)) ρ') (FlP fr Dn σ' H') (ExS fr W), fun σ' H' ⟨ρ', E', h'⟩ => ⟨_, by omega, rfl, hlt, ρ', E', h'⟩, fun x H' y => ?_⟩
    obtain ⟨rfl, y⟩ := y
    have hx := y vs sq
    obtain ⟨v, ev, rv⟩ := r.get (List.getElem?_eq_getElem hlt)
    rw [ev] at hx
    cases hx
    simp only [forLO, hst, if_true] at h1
    cases hgd : g ds[k] ρ1 with
    | none => simp only [hgd] at h1; exact h1.elim
    | some ρ2 =>
      simp only [hgd] at h1
      refine ⟨_, ρ1, ρ2, E1, rv, hgd, fun σ2 H2 E2 sa _ => ⟨ρ2, E2, ?_⟩⟩
      have sa : StS fr.toFr σ1 H' σ2 H2 := sa.unpin
      cases hb : gb ρ2 with
      | stuck => rw [hb] at h1; exact h1.elim
      | exn e ρ3 => rw [hb] at h1; exact fun σ c dd H E q1 q2 => h1 σ c dd H (E.unpin hp hS) q1 q2
      | ok fl ρ3 =>
        rw [hb] at h1
        cases fl with
        | nx => exact fun σ3 H3 E3 s3 => ⟨ρ3, E3, wpR.mono h1 (fun fl ρ q => FlP.pre (sa.trans s3.unpin) q) fun _ _ q => q⟩
        | ct => exact fun σ3 H3 E3 s3 => ⟨ρ3, E3, wpR.mono h1 (fun fl ρ q => FlP.pre (sa.trans s3.unpin) q) fun _ _ q => q⟩
        | bk => exact fun σ3 H3 E3 s3 => h1 σ3 H3 (E3.unpin hp hS) (sa.trans s3.unpin)
        | rt d => exact fun v σ3 H3 E3 s3 r => h1 v σ3 H3 (E3.unpin hp hS) (sa.trans s3.unpin) (Rp.move (fun b o g q => ⟨⟨g.1, fun z => g.2 (S_pin hp z)⟩, q⟩) (fun _ _ q => q) (fun _ _ _ q => q) _ _ r)
        | rf d => exact fun a H1 H' σ' o E3 s3 n sm l r => h1 a H1 H' σ' o (E3.unpin hp hS) (sa.trans s3.unpin) n sm l r
  · left
    have hi' : k = ds.length := by omega
    subst hi'
    rw [List.drop_length] at h1
    simp only [forLO, hst, if_true] at h1
    exact ⟨⟨vs, sq, by rw [r.length]; exact Nat.le_refl _⟩, h1 σ1 H1 (E1.unpin hp hS) StS.refl⟩
theorem pg_any {α : Type} {tg : Expr} {t : α → TG} (h : ∀ a, PG X tg (t a)) : PG X tg (fun v σ H Q => ∃ a, t a v σ H Q) := ⟨fun pins s σ H v u Q I r ⟨a, q⟩ => (h a).run pins s σ H v u Q I r q⟩
theorem pss_any {α : Type} {b : List Stmt} {t : α → TS} (h : ∀ a, PSs X b (t a)) : PSs X b (fun Dn σ H => ∃ a, t a Dn σ H) := ⟨fun pins s σ H Dn I ⟨a, q⟩ => (h a).run pins s σ H Dn I q⟩
theorem ds_forO {i : Nat} {x : Str} {p : Pos} {g : MG} {gb : M Fl} {tg : Expr} {body : List Stmt} (hO : fr.O i = true) (hN : X.N[i]? = some x) (hv : Vis X.env.scope x) (hp : PassesOwn (model X.prog X.w) X.A X.env X.xe) (hc : X.calm = true) {sl : List Nat} (hg : ∀ a, DG X (fr.pin i a) sl tg g) (hb : ∀ a, DSs X (fr.pin i a) W body gb)
    (hs : ∀ y, foldedSetIterable (.Name x p) X.env y = pure y := by intro _; rfl) (hd : (x == ("__debug__" : Str)) = false := by decide) (hcd : (x == ("__classdict__" : Str)) = false := by decide) (hk : fr.K = X.K := by rfl) : DS X fr W (.For tg (.Name x p) body [] pos) (sForO i g gb) :=
  ps_mono (ps_for hp hc (pi_LT (pe_var (i := i) hN hv hd hcd)) (pg_any hg) (pss_any hb) hs) fun Dn σ H ⟨ρ, E, h⟩ => by
    cases e : ρ[i]? with
    | none => simp only [sForO, e] at h; exact h.elim
    | some od =>
      cases od with
      | none => simp only [sForO, e] at h; exact h.elim
      | some d =>
        cases d with
        | lst ds =>
          simp only [sForO, e] at h
          obtain ⟨a, h1, ⟨o, h2, h3⟩, h4⟩ := E.ow i _ e hO
          obtain ⟨z, vs, rfl, r⟩ := h3
          have sq : SqL X.K H a vs := LsR.seq (G := fun _ => True) (.inl ⟨trivial, .inl h2⟩)
          have hpa : fr.P i = true → fr.A i = a := fun h => by
            obtain ⟨_, e', _⟩ := E.par i h
            rw [h1] at e'
            cases e'
            rfl
          refine ⟨.ref a, h1, a, rfl, .inl ⟨⟨vs, sq⟩, ?_⟩⟩
          obtain ⟨Wv, w0, hw⟩ := for_ofO (sl := sl) (E.pin hO h1 e) hO hpa h4 h
          refine ⟨Wv, w0, fun k m σ H w => ?_⟩
          rcases hw k m σ H w with q | ⟨q1, N, q2, q3⟩
          · exact .inl (hk ▸ q)
          · refine .inr ⟨hk ▸ q1, N, q2, fun x H' y => ⟨a, ?_⟩⟩
            obtain ⟨d, ρ, ρ', E, r, e, q⟩ := q3 x H' (hk ▸ y)
            exact ⟨d, ρ, ρ', E, r, e, fun σ' H' E' s o => ⟨a, q σ' H' E' s o⟩⟩
        | _ => simp only [sForO, e] at h; exact h.elim
end
end DL
end
section
namespace Gx
open PySem PySem.Spec L2 DL
open PyProof.Rows hiding St
def topS (i : Nat) : Stmt := PySem.Challenge.pw_branchsure_k05_whole_books_and_their_lim.main.body.getD i (.Pass ⟨0, 0, 0, 0⟩)
abbrev s__law_stream : Stmt := topS 44
abbrev s__law_next : Stmt := topS 45
abbrev s__law_pick : Stmt := topS 46
abbrev s__law_kind : Stmt := topS 51
abbrev s__law_kinds : Stmt := topS 52
abbrev s__law_ages : Stmt := topS 56
abbrev s__law_terms : Stmt := topS 57
abbrev s__law_some : Stmt := topS 53
abbrev s__law_term : Stmt := topS 54
abbrev s__law_statement : Stmt := topS 55
abbrev s__law_entries : Stmt := topS 58
abbrev s__law_ages_due : Stmt := topS 59
abbrev s__law_named : Stmt := topS 60
abbrev s__law_says : Stmt := topS 47
abbrev s_is_plain : Stmt := topS 28
abbrev s_ages_within : Stmt := topS 30
abbrev s_ages_among : Stmt := topS 36
abbrev s_are_within_limits : Stmt := topS 37
abbrev s_is_tuple_of : Stmt := topS 13
abbrev s_is_ascending : Stmt := topS 14
abbrev s_is_kind : Stmt := topS 17
abbrev s_is_kind_row : Stmt := topS 20
abbrev s_is_kinds : Stmt := topS 21
abbrev s_without_doubles : Stmt := topS 15
abbrev s_is_within : Stmt := topS 16
abbrev s_kinds_within : Stmt := topS 29
abbrev s_is_integer : Stmt := topS 11
abbrev s_is_from_to : Stmt := topS 12
abbrev s_is_source : Stmt := topS 19
abbrev s_is_group : Stmt := topS 22
abbrev s_is_mark : Stmt := topS 26
abbrev s_is_age : Stmt := topS 18
abbrev s_is_term : Stmt := topS 25
abbrev s_is_statement : Stmt := topS 27
abbrev s_is_entry : Stmt := topS 35
abbrev s_is_book : Stmt := topS 38
abbrev s_check_book : Stmt := topS 39
abbrev s_statements_among : Stmt := topS 40
abbrev s_sizes_of : Stmt := topS 42
abbrev s_ages_in : Stmt := topS 41
abbrev s__law_same : Stmt := topS 48
abbrev s__law_one_class : Stmt := topS 49
abbrev s__law_bad : Stmt := topS 50
abbrev s__law_told : Stmt := topS 61
abbrev s__law_kept : Stmt := topS 62
abbrev s__law_spoilt : Stmt := topS 63
abbrev s_law : Stmt := topS 64
def c_MOST_SIGNS : D := (.int 12)
def c_MOST_AGE : D := (.int 9999)
def c_MOST_SOURCE : D := (.int 5)
def c_MOST_KINDS : D := (.int 24)
def c_PLAIN : D := (.tup [(.str "older"), (.str "as old")])
def c_MOST_BOOK_KINDS : D := (.int 16)
def c_MOST_ENTRIES : D := (.int 150)
def c_MOST_AGES : D := (.int 12)
def exl : List (Str × Str × Bool) := [("BadValue", "BranchError", true)]
def isl : List (Str × Str × Bool) := [("BadValue", "BadValue", true), ("BadValue", "NotPossible", false), ("BadValue", "TooLarge", false), ("BadValue", "TextError", false), ("BadValue", "BranchError", true), ("BadValue", "ValueError", true)]
def fdl : List (Str × Str) := [("BadValue", "name")]
theorem ini_BadValue : Ini (inClass (topS 2) 0) "name" "name" := ⟨⟨_, _, _, _, rfl, fun _ => rfl⟩, ⟨rfl, rfl, rfl, by decide +kernel, rfl, by decide +kernel, by decide +kernel⟩, Or.inl rfl, Or.inl rfl, by decide, by decide, fun _ _ _ _ _ _ _ us hl => match us, hl with | [_, _], _ => rfl⟩
/-- what the module's names hold -/
structure Hd (K : PySem.W.Frag) (mg : Str → Option Value) : Prop where
  b_list : mg "list" = none
  b_len : mg "len" = none
  b_abs : mg "abs" = none
  b_int : mg "int" = none
  b_range : mg "range" = none
  b_sorted : mg "sorted" = none
  b_max : mg "max" = none
  b_tuple : mg "tuple" = none
  b_all : mg "all" = none
  b_isinstance : mg "isinstance" = none
  b_str : mg "str" = none
  b_bool : mg "bool" = none
  b_any : mg "any" = none
  b_ValueError : mg "ValueError" = none
  c_MOST_SIGNS : CDat K mg "MOST_SIGNS" c_MOST_SIGNS
  c_MOST_AGE : CDat K mg "MOST_AGE" c_MOST_AGE
  c_MOST_SOURCE : CDat K mg "MOST_SOURCE" c_MOST_SOURCE
  c_MOST_KINDS : CDat K mg "MOST_KINDS" c_MOST_KINDS
  c_PLAIN : CDat K mg "PLAIN" c_PLAIN
  c_MOST_BOOK_KINDS : CDat K mg "MOST_BOOK_KINDS" c_MOST_BOOK_KINDS
  c_MOST_ENTRIES : CDat K mg "MOST_ENTRIES" c_MOST_ENTRIES
  c_MOST_AGES : CDat K mg "MOST_AGES" c_MOST_AGES
  f__law_stream : Fd K mg "_law_stream" s__law_stream []
  f__law_next : Fd K mg "_law_next" s__law_next []
  f__law_pick : Fd K mg "_law_pick" s__law_pick []
  f__law_kind : Fd K mg "_law_kind" s__law_kind []
  f__law_kinds : Fd K mg "_law_kinds" s__law_kinds []
  f__law_ages : Fd K mg "_law_ages" s__law_ages []
  f__law_terms : Fd K mg "_law_terms" s__law_terms []
  f__law_some : Fd K mg "_law_some" s__law_some []
  f__law_term : Fd K mg "_law_term" s__law_term []
  f__law_statement : Fd K mg "_law_statement" s__law_statement []
  f__law_entries : Fd K mg "_law_entries" s__law_entries []
  f__law_ages_due : Fd K mg "_law_ages_due" s__law_ages_due []
  f__law_named : Fd K mg "_law_named" s__law_named []
  f__law_says : Fd K mg "_law_says" s__law_says []
  f_is_plain : Fd K mg "is_plain" s_is_plain []
  f_ages_within : Fd K mg "ages_within" s_ages_within []
  f_ages_among : Fd K mg "ages_among" s_ages_among []
  f_are_within_limits : Fd K mg "are_within_limits" s_are_within_limits []
  f_is_tuple_of : Fd K mg "is_tuple_of" s_is_tuple_of []
  f_is_ascending : Fd K mg "is_ascending" s_is_ascending []
  f_is_kind : Fd K mg "is_kind" s_is_kind []
  f_is_kind_row : Fd K mg "is_kind_row" s_is_kind_row []
  f_is_kinds : Fd K mg "is_kinds" s_is_kinds []
  f_without_doubles : Fd K mg "without_doubles" s_without_doubles []
  f_is_within : Fd K mg "is_within" s_is_within []
  f_kinds_within : Fd K mg "kinds_within" s_kinds_within []
  f_is_integer : Fd K mg "is_integer" s_is_integer []
  f_is_from_to : Fd K mg "is_from_to" s_is_from_to []
  f_is_source : Fd K mg "is_source" s_is_source []
  f_is_group : Fd K mg "is_group" s_is_group []
  f_is_mark : Fd K mg "is_mark" s_is_mark []
  f_is_age : Fd K mg "is_age" s_is_age []
  f_is_term : Fd K mg "is_term" s_is_term []
  f_is_statement : Fd K mg "is_statement" s_is_statement []
  f_is_entry : Fd K mg "is_entry" s_is_entry []
  f_is_book : Fd K mg "is_book" s_is_book []
  f_check_book : Fd K mg "check_book" s_check_book [(.str "book")]
  f_statements_among : Fd K mg "statements_among" s_statements_among []
  f_sizes_of : Fd K mg "sizes_of" s_sizes_of []
  f_ages_in : Fd K mg "ages_in" s_ages_in []
  f__law_same : Fd K mg "_law_same" s__law_same []
  f__law_told : Fd K mg "_law_told" s__law_told []
  f__law_kept : Fd K mg "_law_kept" s__law_kept []
  f__law_spoilt : Fd K mg "_law_spoilt" s__law_spoilt []
  f_law : Fd K mg "law" s_law []
  f__law_one_class : Fd K mg "_law_one_class" s__law_one_class []
  f__law_bad : Fd K mg "_law_bad" s__law_bad []
  k_BadValue : ClsX K mg "BadValue" "name" "BadValue.__init__" (inClass (topS 2) 0)
  g_BranchError : mg "BranchError" = some (.ref (He.ga K "BranchError"))
  x_ex : ∀ x y b, isOf exl x y = some b → PySem.W.exmOne K (.ref (He.ga K x)) (.ref (He.ga K y)) = some b
  x_is : ∀ x y b, isOf isl x y = some b → IsX K mg x y b
  x_fd : ∀ x f, fdl.contains (x, f) = true → L2.XfC K (He.ga K x) ∧ PySem.W.findIn K (.ref (He.ga K x)) f = some none
noncomputable section
variable {P : Program} {w : World} {K : PySem.W.Frag} {mg : Str → Option Value} {base : Heap}
theorem sc__law_stream : FnScope ["script"] ["script"] (defScope s__law_stream) := ⟨rfl, rfl, rfl, by decide +kernel, rfl, by decide +kernel, by decide +kernel⟩
def g__law_stream : M Fl := (sRetF (eLst [(appM [.v (eV 0)] list2D), (eC (.int 0)), (eC (.int 0))]))
def m__law_stream : Fn := mkFn true 1 [] g__law_stream
theorem ok__law_stream (B : Hd K mg) : Okf P w K mg base (xrD K) "_law_stream" s__law_stream [] 2 true ["script"] [] m__law_stream :=
  okf_mk (k := 1) (N := ["script"]) (ps := ["script"]) (nw := true) (O := fun i => ([] : List Nat).contains i) (g := g__law_stream) B.f__law_stream sc__law_stream (by decide) (by decide) (by decide) fun f cdv A outer s H E F0 R A0 hr =>
  (dss_one (ds_retF (df_lst (DAs.cons (DA.v (de_callTy (call_list2 rfl) list2_ok (by rfl) B.b_list (by decide +kernel) (DAs.cons (DA.v (dv 0)) DAs.nil))) (DAs.cons (DA.v de_int) (DAs.cons (DA.v de_int) DAs.nil))))))
theorem cal__law_stream (B : Hd K mg) : Cal P w K mg base (xrD K) "_law_stream" 2 true 1 [] m__law_stream [] := (ok__law_stream B).cal fun _ _ _ _ _ _ us hl => match us, hl with | [_], _ => rfl
theorem sc__law_next : FnScope ["stream", "many", "k", "cell", "digit"] ["stream", "many"] (defScope s__law_next) := ⟨rfl, rfl, rfl, by decide +kernel, rfl, by decide +kernel, by decide +kernel⟩
def g__law_next : M Fl := (sSeq (sIf (eTst (appM [.v (appM [.p 0, .v (eC (.int 1))] ix2D), .v (eC (.int 0))] eqD)) (sSeq (sAsg (appM [.p 0, .v (eC (.int 2))] ix2D) (gV 2))
  (sSeq (sAsg (appM [.v (eC (.int 7)), .v (eV 2)] addD) (gV 3))
  (sSeq (sIf (eTst (appM [.v (eV 2), .v (appM [.v (appM [.p 0, .v (eC (.int 0))] ix2D)] len3D)] ltD)) (sAsg (appM [.v (appM [.v (appM [.p 0, .v (eC (.int 0))] ix2D), .v (eV 2)] ix2D)] absD) (gV 3)) sNx)
  (sSeq (sIf (eTst (appM [.v (eV 3), .v (appM [.v (eC (.int 10)), .v (eC (.int 18))] powD)] ltD)) (sSeq (sAsg (appM [.v (appM [.v (appM [.v (appM [.v (appM [.v (eV 3), .v (eC (.int 48271))] mulD), .v (appM [.v (eV 2), .v (eC (.int 69621))] mulD)] addD), .v (eC (.int 11))] addD)] intD), .v (eC (.int 2147483647))] modD) (gV 3))
  (sAsg (appM [.v (appM [.v (appM [.v (appM [.v (appM [.v (appM [.v (eV 3), .v (eC (.int 16807))] mulD), .v (eC (.int 13))] addD)] intD), .v (eC (.int 2147483647))] modD), .v (eC (.int 65537))] mulD), .v (eV 3)] addD) (gV 3))) sNx)
  (sSeq (sPutI 0 (eC (.int 1)) (eV 3))
  (sPutI 0 (eC (.int 2)) (appM [.v (eV 2), .v (eC (.int 1))] addD))))))) sNx)
  (sSeq (sAsg (appM [.v (appM [.v (appM [.p 0, .v (eC (.int 1))] ix2D)] intD), .v (eV 1)] modD) (gV 4))
  (sSeq (sPutI 0 (eC (.int 1)) (appM [.v (appM [.p 0, .v (eC (.int 1))] ix2D), .v (eV 1)] fdivD))
  (sRet (eV 4)))))
def m__law_next : Fn := mkFn false 5 [0] g__law_next
theorem ok__law_next (B : Hd K mg) : Okf P w K mg base (xrD K) "_law_next" s__law_next [] 2 false ["stream", "many"] [0] m__law_next :=
  okf_mk (k := 1) (N := ["stream", "many", "k", "cell", "digit"]) (ps := ["stream", "many"]) (nw := false) (O := fun i => ([0] : List Nat).contains i) (g := g__law_next) B.f__law_next sc__law_next (by decide) (by decide) (by decide) fun f cdv A outer s H E F0 R A0 hr =>
  (dss_cons (ds_if (dt_cmp (op_eqX (hu64 hr)) eq_ok (DA.v (de_ix (ix_two (hu64 hr)) ix2_ok (dp 0) (DA.v de_int) (fun _ _ => rfl))) (DA.v de_int) (nomark _)) (dss_cons (ds_asg (de_ix (ix_two (hu64 hr)) ix2_ok (dp 0) (DA.v de_int) (fun _ _ => rfl)) (dg_name (i := 2) rfl sc__law_next.nd rfl (by first | exact Or.inl rfl | exact Or.inr rfl)))
  (dss_cons (ds_asg (de_op op_addD add_ok (DA.v de_int) (DA.v (dv 2))) (dg_name (i := 3) rfl sc__law_next.nd rfl (by first | exact Or.inl rfl | exact Or.inr rfl)))
  (dss_cons (ds_if (dt_cmp op_ltX lt_ok (DA.v (dv 2)) (DA.v (de_callB call_len3 len3_ok (by rfl) B.b_len (by decide +kernel) (DAs.cons (DA.v (de_ix (ix_two (hu64 hr)) ix2_ok (dp 0) (DA.v de_int) (fun _ _ => rfl))) DAs.nil))) (nomark _)) (dss_one (ds_asg (de_callB call_abs abs_ok (by rfl) B.b_abs (by decide +kernel) (DAs.cons (DA.v (de_ix (ix_two (hu64 hr)) ix2_ok (DA.v (de_ix (ix_two (hu64 hr)) ix2_ok (dp 0) (DA.v de_int) (fun _ _ => rfl))) (DA.v (dv 2)) (fun _ _ => rfl))) DAs.nil)) (dg_name (i := 3) rfl sc__law_next.nd rfl (by first | exact Or.inl rfl | exact Or.inr rfl)))) dss_nil)
  (dss_cons (ds_if (dt_cmp op_ltX lt_ok (DA.v (dv 3)) (DA.v (de_op op_pow pow_ok (DA.v de_int) (DA.v de_int))) (nomark _)) (dss_cons (ds_asg (de_op op_modN mod_ok (DA.v (de_callTy call_int1 int_ok (by rfl) B.b_int (by decide +kernel) (DAs.cons (DA.v (de_op op_addD add_ok (DA.v (de_op op_addD add_ok (DA.v (de_op op_mulD mul_ok (DA.v (dv 3)) (DA.v de_int))) (DA.v (de_op op_mulD mul_ok (DA.v (dv 2)) (DA.v de_int))))) (DA.v de_int))) DAs.nil))) (DA.v de_int)) (dg_name (i := 3) rfl sc__law_next.nd rfl (by first | exact Or.inl rfl | exact Or.inr rfl)))
  (dss_one (ds_asg (de_op op_addD add_ok (DA.v (de_op op_mulD mul_ok (DA.v (de_op op_modN mod_ok (DA.v (de_callTy call_int1 int_ok (by rfl) B.b_int (by decide +kernel) (DAs.cons (DA.v (de_op op_addD add_ok (DA.v (de_op op_mulD mul_ok (DA.v (dv 3)) (DA.v de_int))) (DA.v de_int))) DAs.nil))) (DA.v de_int))) (DA.v de_int))) (DA.v (dv 3))) (dg_name (i := 3) rfl sc__law_next.nd rfl (by first | exact Or.inl rfl | exact Or.inr rfl))))) dss_nil)
  (dss_cons (ds_putI rfl rfl rfl (dv 3) (pg_sub (pv 0) de_int (set_any (hu64 hr))))
  (dss_one (ds_putI rfl rfl rfl (de_op op_addD add_ok (DA.v (dv 2)) (DA.v de_int)) (pg_sub (pv 0) de_int (set_any (hu64 hr)))))))))) dss_nil)
  (dss_cons (ds_asg (de_op op_modN mod_ok (DA.v (de_callTy call_int1 int_ok (by rfl) B.b_int (by decide +kernel) (DAs.cons (DA.v (de_ix (ix_two (hu64 hr)) ix2_ok (dp 0) (DA.v de_int) (fun _ _ => rfl))) DAs.nil))) (DA.v (dv 1))) (dg_name (i := 4) rfl sc__law_next.nd rfl (by first | exact Or.inl rfl | exact Or.inr rfl)))
  (dss_cons (ds_putI rfl rfl rfl (de_op op_fdivN fdiv_ok (DA.v (de_ix (ix_two (hu64 hr)) ix2_ok (dp 0) (DA.v de_int) (fun _ _ => rfl))) (DA.v (dv 1))) (pg_sub (pv 0) de_int (set_any (hu64 hr))))
  (dss_one (ds_ret (dv 4))))))
theorem cal__law_next (B : Hd K mg) : Cal P w K mg base (xrD K) "_law_next" 2 false 2 [0] m__law_next [] := (ok__law_next B).cal fun _ _ _ _ _ _ us hl => match us, hl with | [_, _], _ => rfl
theorem sc__law_pick : FnScope ["stream", "rows"] ["stream", "rows"] (defScope s__law_pick) := ⟨rfl, rfl, rfl, by decide +kernel, rfl, by decide +kernel, by decide +kernel⟩
def g__law_pick : M Fl := (sRet (appM [.v (eV 1), .v (eCall m__law_next [0] [.p 0, .v (appM [.v (eV 1)] len3D)] [])] ix2D))
def m__law_pick : Fn := mkFn false 2 [0] g__law_pick
theorem ok__law_pick (B : Hd K mg) : Okf P w K mg base (xrD K) "_law_pick" s__law_pick [] 4 false ["stream", "rows"] [0] m__law_pick :=
  okf_mk (k := 3) (N := ["stream", "rows"]) (ps := ["stream", "rows"]) (nw := false) (O := fun i => ([0] : List Nat).contains i) (g := g__law_pick) B.f__law_pick sc__law_pick (by decide) (by decide) (by decide) fun f cdv A outer s H E F0 R A0 hr =>
  (dss_one (ds_ret (de_ix (ix_two (hu64 hr)) ix2_ok (DA.v (dv 1)) (DA.v (dcl (cal__law_next B) (hr.mono (by decide)) (L2N.takes_of rfl rfl rfl rfl) (DAs.cons (dp 0) (DAs.cons (DA.v (de_callB call_len3 len3_ok (by rfl) B.b_len (by decide +kernel) (DAs.cons (DA.v (dv 1)) DAs.nil))) DAs.nil)))) (fun _ _ => rfl))))
theorem cal__law_pick (B : Hd K mg) : Cal P w K mg base (xrD K) "_law_pick" 4 false 2 [0] m__law_pick [] := (ok__law_pick B).cal fun _ _ _ _ _ _ us hl => match us, hl with | [_, _], _ => rfl
theorem sc__law_kind : FnScope ["stream", "texts", "kind", "turn"] ["stream"] (defScope s__law_kind) := ⟨rfl, rfl, rfl, by decide +kernel, rfl, by decide +kernel, by decide +kernel⟩
def g__law_kind : M Fl := (sSeq (sIf (eTst (appM [.v (eCall m__law_next [0] [.p 0, .v (eC (.int 5))] []), .v (eC (.int 0))] eqD)) (sSeq (sAsg (eC (.str "parting age older group mark world held bottom false near sure a b z a0 az")) (gV 1))
  (sRet (eCall m__law_pick [0] [.p 0, .v (appM [.v (asStr (eV 1)), .v (eC (.str " "))] splitD)] []))) sNx)
  (sSeq (sAsg (appM [.v (eC (.str "abcdefghijklmnopqrstuvwxyz")), .v (eCall m__law_next [0] [.p 0, .v (eC (.int 26))] [])] ix2D) (gV 2))
  (sSeq (sFor (iRange1 (eCall m__law_pick [0] [.p 0, .v (eNew (eLst [(eC (.int 0)), (eC (.int 1)), (eC (.int 2)), (eC (.int 5)), (eC (.int 11))]))] [])) (gV 3) (sAsg (appM [.v (eV 2), .v (appM [.v (eC (.str "abcdefghijklmnopqrstuvwxyz0123456789")), .v (eCall m__law_next [0] [.p 0, .v (eC (.int 36))] [])] ix2D)] addD) (gV 2)))
  (sRet (eV 2)))))
def m__law_kind : Fn := mkFn false 4 [0] g__law_kind
theorem ok__law_kind (B : Hd K mg) : Okf P w K mg base (xrD K) "_law_kind" s__law_kind [] 6 false ["stream"] [0] m__law_kind :=
  okf_mk (k := 5) (N := ["stream", "texts", "kind", "turn"]) (ps := ["stream"]) (nw := false) (O := fun i => ([0] : List Nat).contains i) (g := g__law_kind) B.f__law_kind sc__law_kind (by decide) (by decide) (by decide) fun f cdv A outer s H E F0 R A0 hr =>
  (dss_cons (ds_if (dt_cmp (op_eqX (hu64 hr)) eq_ok (DA.v (dcl (cal__law_next B) (hr.mono (by decide)) (L2N.takes_of rfl rfl rfl rfl) (DAs.cons (dp 0) (DAs.cons (DA.v de_int) DAs.nil)))) (DA.v de_int) (nomark _)) (dss_cons (ds_asg de_str (dg_name (i := 1) rfl sc__law_kind.nd rfl (by first | exact Or.inl rfl | exact Or.inr rfl)))
  (dss_one (ds_ret (dcl (cal__law_pick B) (hr.mono (by decide)) (L2N.takes_of rfl rfl rfl rfl) (DAs.cons (dp 0) (DAs.cons (DA.v (de_split (dv 1) de_str)) DAs.nil)))))) dss_nil)
  (dss_cons (ds_asg (de_ix (ix_two (hu64 hr)) ix2_ok (DA.v de_str) (DA.v (dcl (cal__law_next B) (hr.mono (by decide)) (L2N.takes_of rfl rfl rfl rfl) (DAs.cons (dp 0) (DAs.cons (DA.v de_int) DAs.nil)))) (fun _ _ => rfl)) (dg_name (i := 2) rfl sc__law_kind.nd rfl (by first | exact Or.inl rfl | exact Or.inr rfl)))
  (dss_cons (ds_for (passes_of rfl) rfl (di_range1 (by rfl) B.b_range (dcl (cal__law_pick B) (hr.mono (by decide)) (L2N.takes_of rfl rfl rfl rfl) (DAs.cons (dp 0) (DAs.cons (DA.v (df_e (df_lst (DAs.cons (DA.v de_int) (DAs.cons (DA.v de_int) (DAs.cons (DA.v de_int) (DAs.cons (DA.v de_int) (DAs.cons (DA.v de_int) DAs.nil)))))))) DAs.nil)))) (dg_name (i := 3) rfl sc__law_kind.nd rfl (by first | exact Or.inl rfl | exact Or.inr rfl)) (dss_one (ds_asg (de_op op_addD add_ok (DA.v (dv 2)) (DA.v (de_ix (ix_two (hu64 hr)) ix2_ok (DA.v de_str) (DA.v (dcl (cal__law_next B) (hr.mono (by decide)) (L2N.takes_of rfl rfl rfl rfl) (DAs.cons (dp 0) (DAs.cons (DA.v de_int) DAs.nil)))) (fun _ _ => rfl)))) (dg_name (i := 2) rfl sc__law_kind.nd rfl (by first | exact Or.inl rfl | exact Or.inr rfl)))))
  (dss_one (ds_ret (dv 2))))))
theorem cal__law_kind (B : Hd K mg) : Cal P w K mg base (xrD K) "_law_kind" 6 false 1 [0] m__law_kind [] := (ok__law_kind B).cal fun _ _ _ _ _ _ us hl => match us, hl with | [_], _ => rfl
theorem sc__law_kinds : FnScope ["stream", "many", "found", "stem", "at", "first", "alike", "k", "kind", "number"] ["stream", "many"] (defScope s__law_kinds) := ⟨rfl, rfl, rfl, by decide +kernel, rfl, by decide +kernel, by decide +kernel⟩
def g__law_kinds : M Fl := (sSeq (sAsgO 2 (eLst []))
  (sSeq (sAsg (appM [.v (eCall m__law_kind [0] [.p 0] []), .v (asInt (eC (.int 10)))] slDhi) (gV 3))
  (sSeq (sAsg (eCall m__law_next [0] [.p 0, .v (appM [.v (appM [.v (eV 3)] len3D), .v (eC (.int 1))] addD)] []) (gV 4))
  (sSeq (sAsg (eCall m__law_next [0] [.p 0, .v (eC (.int 936))] []) (gV 5))
  (sSeq (sAsg (eCall m__law_next [0] [.p 0, .v (eC (.int 2))] []) (gV 6))
  (sSeq (sFor (iRange1 (eC (.int 2000))) (gV 7) (sSeq (sIf (eTst (appM [.v (appM [.p 2] len3D), .v (eV 1)] eqD)) sBk sNx)
  (sSeq (sAsg (eIf (tAndM (eTst (appM [.v (eV 6), .v (eC (.int 0))] eqD)) (eTst (appM [.v (eV 7), .v (appM [.v (eC (.int 3)), .v (eV 1)] mulD)] ltD))) (eCall m__law_kind [0] [.p 0] []) (eC (.str "a"))) (gV 8))
  (sSeq (sIf (tOrM (eTst (appM [.v (eV 6), .v (eC (.int 1))] eqD)) (eTst (appM [.v (eV 7), .v (appM [.v (eC (.int 3)), .v (eV 1)] mulD)] geD))) (sSeq (sAsg (appM [.v (appM [.v (appM [.v (eV 5), .v (appM [.v (eV 7), .v (eC (.int 7))] mulD)] addD)] intD), .v (eC (.int 936))] modD) (gV 9))
  (sAsg (appM [.v (appM [.v (appM [.v (appM [.v (eV 3), .v (asInt (eV 4))] slDhi), .v (appM [.v (eC (.str "abcdefghijklmnopqrstuvwxyz")), .v (appM [.v (eV 9), .v (eC (.int 36))] fdivD)] ix2D)] addD), .v (appM [.v (eC (.str "abcdefghijklmnopqrstuvwxyz0123456789")), .v (appM [.v (appM [.v (eV 9)] intD), .v (eC (.int 36))] modD)] ix2D)] addD), .v (appM [.v (eV 3), .v (asInt (eV 4))] slDlo)] addD) (gV 8))) sNx)
  (sIf (eTst (appM [.v (eV 8), .p 2] notIn3D)) (sApp 2 (eV 8)) sNx)))))
  (sRet (appM [.p 2] sorted2D))))))))
def m__law_kinds : Fn := mkFn false 10 [0] g__law_kinds
theorem ok__law_kinds (B : Hd K mg) : Okf P w K mg base (xrD K) "_law_kinds" s__law_kinds [] 8 false ["stream", "many"] [0] m__law_kinds :=
  okf_mk (k := 7) (N := ["stream", "many", "found", "stem", "at", "first", "alike", "k", "kind", "number"]) (ps := ["stream", "many"]) (nw := false) (O := fun i => ([0, 2] : List Nat).contains i) (g := g__law_kinds) B.f__law_kinds sc__law_kinds (by decide) (by decide) (by decide) fun f cdv A outer s H E F0 R A0 hr =>
  (dss_cons (ds_asgO (i := 2) rfl rfl (df_lst DAs.nil) sc__law_kinds.nd rfl (by first | exact Or.inl rfl | exact Or.inr rfl))
  (dss_cons (ds_asg (de_slHi (DA.v (dcl (cal__law_kind B) (hr.mono (by decide)) (L2N.takes_of rfl rfl rfl rfl) (DAs.cons (dp 0) DAs.nil))) de_int rfl) (dg_name (i := 3) rfl sc__law_kinds.nd rfl (by first | exact Or.inl rfl | exact Or.inr rfl)))
  (dss_cons (ds_asg (dcl (cal__law_next B) (hr.mono (by decide)) (L2N.takes_of rfl rfl rfl rfl) (DAs.cons (dp 0) (DAs.cons (DA.v (de_op op_addD add_ok (DA.v (de_callB call_len3 len3_ok (by rfl) B.b_len (by decide +kernel) (DAs.cons (DA.v (dv 3)) DAs.nil))) (DA.v de_int))) DAs.nil))) (dg_name (i := 4) rfl sc__law_kinds.nd rfl (by first | exact Or.inl rfl | exact Or.inr rfl)))
  (dss_cons (ds_asg (dcl (cal__law_next B) (hr.mono (by decide)) (L2N.takes_of rfl rfl rfl rfl) (DAs.cons (dp 0) (DAs.cons (DA.v de_int) DAs.nil))) (dg_name (i := 5) rfl sc__law_kinds.nd rfl (by first | exact Or.inl rfl | exact Or.inr rfl)))
  (dss_cons (ds_asg (dcl (cal__law_next B) (hr.mono (by decide)) (L2N.takes_of rfl rfl rfl rfl) (DAs.cons (dp 0) (DAs.cons (DA.v de_int) DAs.nil))) (dg_name (i := 6) rfl sc__law_kinds.nd rfl (by first | exact Or.inl rfl | exact Or.inr rfl)))
  (dss_cons (ds_for (passes_of rfl) rfl (di_range1 (by rfl) B.b_range de_int) (dg_name (i := 7) rfl sc__law_kinds.nd rfl (by first | exact Or.inl rfl | exact Or.inr rfl)) (dss_cons (ds_if (dt_cmp (op_eqX (hu64 hr)) eq_ok (DA.v (de_callB call_len3 len3_ok (by rfl) B.b_len (by decide +kernel) (DAs.cons (dp 2) DAs.nil))) (DA.v (dv 1)) (nomark _)) (dss_one ds_break) dss_nil)
  (dss_cons (ds_asg (de_if (dt_w (dw_and (dt_cmp (op_eqX (hu64 hr)) eq_ok (DA.v (dv 6)) (DA.v de_int) (nomark _)) (dw_and1 (dt_cmp op_ltX lt_ok (DA.v (dv 7)) (DA.v (de_op op_mulD mul_ok (DA.v de_int) (DA.v (dv 1)))) (nomark _))))) (dcl (cal__law_kind B) (hr.mono (by decide)) (L2N.takes_of rfl rfl rfl rfl) (DAs.cons (dp 0) DAs.nil)) de_str) (dg_name (i := 8) rfl sc__law_kinds.nd rfl (by first | exact Or.inl rfl | exact Or.inr rfl)))
  (dss_cons (ds_if (dt_w (dw_or (dt_cmp (op_eqX (hu64 hr)) eq_ok (DA.v (dv 6)) (DA.v de_int) (nomark _)) (dw_or1 (dt_cmp op_geX ge_ok (DA.v (dv 7)) (DA.v (de_op op_mulD mul_ok (DA.v de_int) (DA.v (dv 1)))) (nomark _))))) (dss_cons (ds_asg (de_op op_modN mod_ok (DA.v (de_callTy call_int1 int_ok (by rfl) B.b_int (by decide +kernel) (DAs.cons (DA.v (de_op op_addD add_ok (DA.v (dv 5)) (DA.v (de_op op_mulD mul_ok (DA.v (dv 7)) (DA.v de_int))))) DAs.nil))) (DA.v de_int)) (dg_name (i := 9) rfl sc__law_kinds.nd rfl (by first | exact Or.inl rfl | exact Or.inr rfl)))
  (dss_one (ds_asg (de_op op_addD add_ok (DA.v (de_op op_addD add_ok (DA.v (de_op op_addD add_ok (DA.v (de_slHi (DA.v (dv 3)) (dv 4) rfl)) (DA.v (de_ix (ix_two (hu64 hr)) ix2_ok (DA.v de_str) (DA.v (de_op op_fdivN fdiv_ok (DA.v (dv 9)) (DA.v de_int))) (fun _ _ => rfl))))) (DA.v (de_ix (ix_two (hu64 hr)) ix2_ok (DA.v de_str) (DA.v (de_op op_modN mod_ok (DA.v (de_callTy call_int1 int_ok (by rfl) B.b_int (by decide +kernel) (DAs.cons (DA.v (dv 9)) DAs.nil))) (DA.v de_int))) (fun _ _ => rfl))))) (DA.v (de_slLo (DA.v (dv 3)) (dv 4) rfl))) (dg_name (i := 8) rfl sc__law_kinds.nd rfl (by first | exact Or.inl rfl | exact Or.inr rfl))))) dss_nil)
  (dss_one (ds_if (dt_cmp (op_notIn3 (hu65 hr)) notIn3_ok (DA.v (dv 8)) (dp 2) (by rfl)) (dss_one (ds_append rfl (pe_bm PySem.F.plainAttrs_list PySem.F.slot_list_append PySem.F.type_list_append mt_append (pv 2) (pa_cons (dv 8) pa_nil)))) dss_nil))))))
  (dss_one (ds_ret (de_callB (cr_sort2 rfl) sorted2_ok (by rfl) B.b_sorted (by decide +kernel) (DAs.cons (dp 2) DAs.nil))))))))))
theorem cal__law_kinds (B : Hd K mg) : Cal P w K mg base (xrD K) "_law_kinds" 8 false 2 [0] m__law_kinds [] := (ok__law_kinds B).cal fun _ _ _ _ _ _ us hl => match us, hl with | [_, _], _ => rfl
theorem sc__law_ages : FnScope ["stream", "first", "step", "many", "k"] ["stream"] (defScope s__law_ages) := ⟨rfl, rfl, rfl, by decide +kernel, rfl, by decide +kernel, by decide +kernel⟩
def g__law_ages : M Fl := (sSeq (sAsg (eCall m__law_next [0] [.p 0, .v (eC (.int 9999))] []) (gV 1))
  (sSeq (sAsg (eCall m__law_pick [0] [.p 0, .v (eNew (eLst [(eC (.int 1)), (eC (.int 37)), (eC (.int 400))]))] []) (gV 2))
  (sSeq (sAsg (eCall m__law_pick [0] [.p 0, .v (eNew (eLst [(eC (.int 0)), (eC (.int 1)), (eC (.int 11)), (eC (.int 12)), (eC (.int 12)), (eC (.int 13)), (eCall m__law_next [0] [.p 0, .v (eC (.int 13))] [])]))] []) (gV 3))
  (sRet (eNew (eLc (iRange1 (eV 3)) [4] (gV 4) tTrue (appM [.v (eC (.int 1)), .v (appM [.v (appM [.v (appM [.v (eV 1), .v (appM [.v (eV 4), .v (eV 2)] mulD)] addD)] intD), .v (eC (.int 9999))] modD)] addD)))))))
def m__law_ages : Fn := mkFn false 5 [0] g__law_ages
theorem ok__law_ages (B : Hd K mg) : Okf P w K mg base (xrD K) "_law_ages" s__law_ages [] 6 false ["stream"] [0] m__law_ages :=
  okf_mk (k := 5) (N := ["stream", "first", "step", "many", "k"]) (ps := ["stream"]) (nw := false) (O := fun i => ([0] : List Nat).contains i) (g := g__law_ages) B.f__law_ages sc__law_ages (by decide) (by decide) (by decide) fun f cdv A outer s H E F0 R A0 hr =>
  (dss_cons (ds_asg (dcl (cal__law_next B) (hr.mono (by decide)) (L2N.takes_of rfl rfl rfl rfl) (DAs.cons (dp 0) (DAs.cons (DA.v de_int) DAs.nil))) (dg_name (i := 1) rfl sc__law_ages.nd rfl (by first | exact Or.inl rfl | exact Or.inr rfl)))
  (dss_cons (ds_asg (dcl (cal__law_pick B) (hr.mono (by decide)) (L2N.takes_of rfl rfl rfl rfl) (DAs.cons (dp 0) (DAs.cons (DA.v (df_e (df_lst (DAs.cons (DA.v de_int) (DAs.cons (DA.v de_int) (DAs.cons (DA.v de_int) DAs.nil)))))) DAs.nil))) (dg_name (i := 2) rfl sc__law_ages.nd rfl (by first | exact Or.inl rfl | exact Or.inr rfl)))
  (dss_cons (ds_asg (dcl (cal__law_pick B) (hr.mono (by decide)) (L2N.takes_of rfl rfl rfl rfl) (DAs.cons (dp 0) (DAs.cons (DA.v (df_e (df_lst (DAs.cons (DA.v de_int) (DAs.cons (DA.v de_int) (DAs.cons (DA.v de_int) (DAs.cons (DA.v de_int) (DAs.cons (DA.v de_int) (DAs.cons (DA.v de_int) (DAs.cons (DA.v (dcl (cal__law_next B) (hr.mono (by decide)) (L2N.takes_of rfl rfl rfl rfl) (DAs.cons (dp 0) (DAs.cons (DA.v de_int) DAs.nil)))) DAs.nil)))))))))) DAs.nil))) (dg_name (i := 3) rfl sc__law_ages.nd rfl (by first | exact Or.inl rfl | exact Or.inr rfl)))
  (dss_one (ds_ret (df_e (dc_lc (own := [("k", 4)]) rfl sc__law_ages.nd (di_range1 (by rfl) B.b_range (dv 3)) (blkOk_by (by kernel_rfl)) (free_of rfl) (sub_of rfl) (fun _ _ _ _ _ _ => (dg_name (i := 4) rfl sc__law_ages.nd rfl (by first | exact Or.inl rfl | exact Or.inr rfl))) (fun _ _ _ _ _ _ => dts_nil) (fun _ _ _ _ _ _ => (de_op op_addD add_ok (DA.v de_int) (DA.v (de_op op_modN mod_ok (DA.v (de_callTy call_int1 int_ok (by rfl) B.b_int (by decide +kernel) (DAs.cons (DA.v (de_op op_addD add_ok (DA.v (dv 1)) (DA.v (de_op op_mulD mul_ok (DA.v (dv 4)) (DA.v (dv 2)))))) DAs.nil))) (DA.v de_int)))))).pe))))))
theorem cal__law_ages (B : Hd K mg) : Cal P w K mg base (xrD K) "_law_ages" 6 false 1 [0] m__law_ages [] := (ok__law_ages B).cal fun _ _ _ _ _ _ us hl => match us, hl with | [_], _ => rfl
theorem sc__law_terms : FnScope ["stream", "kinds", "ages", "found", "turn", "term", "age"] ["stream", "kinds", "ages"] (defScope s__law_terms) := ⟨rfl, rfl, rfl, by decide +kernel, rfl, by decide +kernel, by decide +kernel⟩
def g__law_terms : M Fl := (sSeq (sAsgO 3 (appM [.v (eNew (eLc (iSeq2 (appM [.v (eNew (eLst [(eC (.int 0))])), .v (eV 2)] addD)) [6] (gV 6) tTrue (eTup [(eC (.str "age")), (eV 6)]))), .v (eNew (eLst [(eTup [(eC (.str "parting")), (appM [.v (eV 1), .v (eC (.int 0))] ix2D), (appM [.v (eV 1), .v (eC (.int 0))] ix2D)])]))] catD))
  (sSeq (sFor (iRange1 (eC (.int 20))) (gV 4) (sSeq (sAsg (eTup [(eC (.str "parting")), (eCall m__law_pick [0] [.p 0, .v (eV 1)] []), (eCall m__law_pick [0] [.p 0, .v (eV 1)] [])]) (gV 5))
  (sIf (eTst (appM [.v (eV 5), .p 3] notIn3D)) (sApp 3 (eV 5)) sNx)))
  (sRetP 3)))
def m__law_terms : Fn := mkFn false 7 [0] g__law_terms
theorem ok__law_terms (B : Hd K mg) : Okf P w K mg base (xrD K) "_law_terms" s__law_terms [] 6 false ["stream", "kinds", "ages"] [0] m__law_terms :=
  okf_mk (k := 5) (N := ["stream", "kinds", "ages", "found", "turn", "term", "age"]) (ps := ["stream", "kinds", "ages"]) (nw := false) (O := fun i => ([0, 3] : List Nat).contains i) (g := g__law_terms) B.f__law_terms sc__law_terms (by decide) (by decide) (by decide) fun f cdv A outer s H E F0 R A0 hr =>
  (dss_cons (ds_asgO (i := 3) rfl rfl (df_cat (DA.v (df_e (dc_lc (own := [("age", 6)]) rfl sc__law_terms.nd (di_seq2 (de_op op_addD add_ok (DA.v (df_e (df_lst (DAs.cons (DA.v de_int) DAs.nil)))) (DA.v (dv 2))) rfl) (blkOk_by (by kernel_rfl)) (free_of rfl) (sub_of rfl) (fun _ _ _ _ _ _ => (dg_name (i := 6) rfl sc__law_terms.nd rfl (by first | exact Or.inl rfl | exact Or.inr rfl))) (fun _ _ _ _ _ _ => dts_nil) (fun _ _ _ _ _ _ => (de_tup (DAs.cons (DA.v de_str) (DAs.cons (DA.v (dv 6)) DAs.nil))))).pe)) (DA.v (df_e (df_lst (DAs.cons (DA.v (de_tup (DAs.cons (DA.v de_str) (DAs.cons (DA.v (de_ix (ix_two (hu64 hr)) ix2_ok (DA.v (dv 1)) (DA.v de_int) (fun _ _ => rfl))) (DAs.cons (DA.v (de_ix (ix_two (hu64 hr)) ix2_ok (DA.v (dv 1)) (DA.v de_int) (fun _ _ => rfl))) DAs.nil))))) DAs.nil))))) sc__law_terms.nd rfl (by first | exact Or.inl rfl | exact Or.inr rfl))
  (dss_cons (ds_for (passes_of rfl) rfl (di_range1 (by rfl) B.b_range de_int) (dg_name (i := 4) rfl sc__law_terms.nd rfl (by first | exact Or.inl rfl | exact Or.inr rfl)) (dss_cons (ds_asg (de_tup (DAs.cons (DA.v de_str) (DAs.cons (DA.v (dcl (cal__law_pick B) (hr.mono (by decide)) (L2N.takes_of rfl rfl rfl rfl) (DAs.cons (dp 0) (DAs.cons (DA.v (dv 1)) DAs.nil)))) (DAs.cons (DA.v (dcl (cal__law_pick B) (hr.mono (by decide)) (L2N.takes_of rfl rfl rfl rfl) (DAs.cons (dp 0) (DAs.cons (DA.v (dv 1)) DAs.nil)))) DAs.nil)))) (dg_name (i := 5) rfl sc__law_terms.nd rfl (by first | exact Or.inl rfl | exact Or.inr rfl)))
  (dss_one (ds_if (dt_cmp (op_notIn3 (hu65 hr)) notIn3_ok (DA.v (dv 5)) (dp 3) (by rfl)) (dss_one (ds_append rfl (pe_bm PySem.F.plainAttrs_list PySem.F.slot_list_append PySem.F.type_list_append mt_append (pv 3) (pa_cons (dv 5) pa_nil)))) dss_nil))))
  (dss_one (ds_retP (i := 3) rfl rfl rfl (by first | exact Or.inl rfl | exact Or.inr (Or.inl rfl))))))
theorem cal__law_terms (B : Hd K mg) : Cal P w K mg base (xrD K) "_law_terms" 6 false 3 [0] m__law_terms [] := (ok__law_terms B).cal fun _ _ _ _ _ _ us hl => match us, hl with | [_, _, _], _ => rfl
theorem sc__law_some : FnScope ["stream", "kinds", "least", "share", "found", "start", "at", "kind"] ["stream", "kinds", "least"] (defScope s__law_some) := ⟨rfl, rfl, rfl, by decide +kernel, rfl, by decide +kernel, by decide +kernel⟩
def g__law_some : M Fl := (sSeq (sAsg (eCall m__law_pick [0] [.p 0, .v (eNew (eLst [(eC (.int 2)), (eC (.int 2)), (eC (.int 3)), (eC (.int 6))]))] []) (gV 3))
  (sSeq (sAsgO 4 (eLc (iSeq2 (eV 1)) [7] (gV 7) (eTst (appM [.v (eCall m__law_next [0] [.p 0, .v (eV 3)] []), .v (eC (.int 0))] eqD)) (eV 7)))
  (sSeq (sAsg (eCall m__law_next [0] [.p 0, .v (appM [.v (eC (.int 1)), .v (appM [.v (eV 1)] len3D)] max2D)] []) (gV 5))
  (sSeq (sFor (iRange1 (appM [.v (eV 1)] len3D)) (gV 6) (sSeq (sAsg (appM [.v (eV 1), .v (appM [.v (appM [.v (appM [.v (eV 6), .v (eV 5)] addD)] intD), .v (appM [.v (eV 1)] len3D)] modD)] ix2D) (gV 7))
  (sIf (tAndM (eTst (appM [.v (appM [.p 4] len3D), .v (eV 2)] ltD)) (eTst (appM [.v (eV 7), .p 4] notIn3D))) (sApp 4 (eV 7)) sNx)))
  (sRet (appM [.v (appM [.p 4] sorted2D)] tupleD))))))
def m__law_some : Fn := mkFn false 8 [0] g__law_some
theorem ok__law_some (B : Hd K mg) : Okf P w K mg base (xrD K) "_law_some" s__law_some [] 6 false ["stream", "kinds", "least"] [0] m__law_some :=
  okf_mk (k := 5) (N := ["stream", "kinds", "least", "share", "found", "start", "at", "kind"]) (ps := ["stream", "kinds", "least"]) (nw := false) (O := fun i => ([0, 4] : List Nat).contains i) (g := g__law_some) B.f__law_some sc__law_some (by decide) (by decide) (by decide) fun f cdv A outer s H E F0 R A0 hr =>
  (dss_cons (ds_asg (dcl (cal__law_pick B) (hr.mono (by decide)) (L2N.takes_of rfl rfl rfl rfl) (DAs.cons (dp 0) (DAs.cons (DA.v (df_e (df_lst (DAs.cons (DA.v de_int) (DAs.cons (DA.v de_int) (DAs.cons (DA.v de_int) (DAs.cons (DA.v de_int) DAs.nil))))))) DAs.nil))) (dg_name (i := 3) rfl sc__law_some.nd rfl (by first | exact Or.inl rfl | exact Or.inr rfl)))
  (dss_cons (by first | exact (ds_asgC (i := 4) rfl rfl (dc_lc (own := [("kind", 7)]) rfl sc__law_some.nd (di_seq2 (dv 1) rfl) (blkOk_by (by kernel_rfl)) (free_of rfl) (sub_of rfl) (fun _ _ _ _ _ _ => (dg_name (i := 7) rfl sc__law_some.nd rfl (by first | exact Or.inl rfl | exact Or.inr rfl))) (fun _ _ _ _ _ _ => (dts_one (dt_cmp (op_eqX (hu64 hr)) eq_ok (DA.v (dcl (cal__law_next B) (hr.mono (by decide)) takesN (DAs.cons (dp 0) (DAs.cons (DA.v (dv 3)) DAs.nil)))) (DA.v de_int) (nomark _)))) (fun _ _ _ _ _ _ => (dv 7))) rfl rfl (sw_comp rfl rfl rfl rfl rfl)) | exact (ds_asgO (i := 4) rfl rfl (dc_lc (own := [("kind", 7)]) rfl sc__law_some.nd (di_seq2 (dv 1) rfl) (blkOk_by (by kernel_rfl)) (free_of rfl) (sub_of rfl) (fun _ _ _ _ _ _ => (dg_name (i := 7) rfl sc__law_some.nd rfl (by first | exact Or.inl rfl | exact Or.inr rfl))) (fun _ _ _ _ _ _ => (dts_one (dt_cmp (op_eqX (hu64 hr)) eq_ok (DA.v (dcl (cal__law_next B) (hr.mono (by decide)) takesN (DAs.cons (dp 0) (DAs.cons (DA.v (dv 3)) DAs.nil)))) (DA.v de_int) (nomark _)))) (fun _ _ _ _ _ _ => (dv 7))).pe sc__law_some.nd rfl (by first | exact Or.inl rfl | exact Or.inr rfl)))
  (dss_cons (ds_asg (dcl (cal__law_next B) (hr.mono (by decide)) (L2N.takes_of rfl rfl rfl rfl) (DAs.cons (dp 0) (DAs.cons (DA.v (de_callB (call_max2 rfl) max2_ok (by rfl) B.b_max (by decide +kernel) (DAs.cons (DA.v de_int) (DAs.cons (DA.v (de_callB call_len3 len3_ok (by rfl) B.b_len (by decide +kernel) (DAs.cons (DA.v (dv 1)) DAs.nil))) DAs.nil)))) DAs.nil))) (dg_name (i := 5) rfl sc__law_some.nd rfl (by first | exact Or.inl rfl | exact Or.inr rfl)))
  (dss_cons (ds_for (passes_of rfl) rfl (di_range1 (by rfl) B.b_range (de_callB call_len3 len3_ok (by rfl) B.b_len (by decide +kernel) (DAs.cons (DA.v (dv 1)) DAs.nil))) (dg_name (i := 6) rfl sc__law_some.nd rfl (by first | exact Or.inl rfl | exact Or.inr rfl)) (dss_cons (ds_asg (de_ix (ix_two (hu64 hr)) ix2_ok (DA.v (dv 1)) (DA.v (de_op op_modN mod_ok (DA.v (de_callTy call_int1 int_ok (by rfl) B.b_int (by decide +kernel) (DAs.cons (DA.v (de_op op_addD add_ok (DA.v (dv 6)) (DA.v (dv 5)))) DAs.nil))) (DA.v (de_callB call_len3 len3_ok (by rfl) B.b_len (by decide +kernel) (DAs.cons (DA.v (dv 1)) DAs.nil))))) (fun _ _ => rfl)) (dg_name (i := 7) rfl sc__law_some.nd rfl (by first | exact Or.inl rfl | exact Or.inr rfl)))
  (dss_one (ds_if (dt_w (dw_and (dt_cmp op_ltX lt_ok (DA.v (de_callB call_len3 len3_ok (by rfl) B.b_len (by decide +kernel) (DAs.cons (dp 4) DAs.nil))) (DA.v (dv 2)) (nomark _)) (dw_and1 (dt_cmp (op_notIn3 (hu65 hr)) notIn3_ok (DA.v (dv 7)) (dp 4) (by rfl))))) (dss_one (ds_append rfl (pe_bm PySem.F.plainAttrs_list PySem.F.slot_list_append PySem.F.type_list_append mt_append (pv 4) (pa_cons (dv 7) pa_nil)))) dss_nil))))
  (dss_one (ds_ret (de_callTy call_tuple_of tuple_ok (by rfl) B.b_tuple (by decide +kernel) (DAs.cons (DA.v (de_callB (cr_sort2 rfl) sorted2_ok (by rfl) B.b_sorted (by decide +kernel) (DAs.cons (dp 4) DAs.nil))) DAs.nil))))))))
theorem cal__law_some (B : Hd K mg) : Cal P w K mg base (xrD K) "_law_some" 6 false 3 [0] m__law_some [] := (ok__law_some B).cal fun _ _ _ _ _ _ us hl => match us, hl with | [_, _, _], _ => rfl
theorem sc__law_term : FnScope ["stream", "kinds", "ages", "one"] ["stream", "kinds", "ages"] (defScope s__law_term) := ⟨rfl, rfl, rfl, by decide +kernel, rfl, by decide +kernel, by decide +kernel⟩
def g__law_term : M Fl := (sSeq (sIf (eTst (appM [.v (eCall m__law_next [0] [.p 0, .v (eC (.int 3))] []), .v (eC (.int 0))] eqD)) (sRet (eTup [(eC (.str "age")), (eCall m__law_pick [0] [.p 0, .v (eV 2)] [])])) sNx)
  (sSeq (sAsg (eCall m__law_pick [0] [.p 0, .v (eV 1)] []) (gV 3))
  (sSeq (sIf (eTst (appM [.v (eCall m__law_next [0] [.p 0, .v (eC (.int 9))] []), .v (eC (.int 0))] eqD)) (sRet (eTup [(eC (.str "parting")), (eV 3), (eV 3)])) sNx)
  (sRet (eTup [(eC (.str "parting")), (eV 3), (eCall m__law_pick [0] [.p 0, .v (eV 1)] [])])))))
def m__law_term : Fn := mkFn false 4 [0] g__law_term
theorem ok__law_term (B : Hd K mg) : Okf P w K mg base (xrD K) "_law_term" s__law_term [] 6 false ["stream", "kinds", "ages"] [0] m__law_term :=
  okf_mk (k := 5) (N := ["stream", "kinds", "ages", "one"]) (ps := ["stream", "kinds", "ages"]) (nw := false) (O := fun i => ([0] : List Nat).contains i) (g := g__law_term) B.f__law_term sc__law_term (by decide) (by decide) (by decide) fun f cdv A outer s H E F0 R A0 hr =>
  (dss_cons (ds_if (dt_cmp (op_eqX (hu64 hr)) eq_ok (DA.v (dcl (cal__law_next B) (hr.mono (by decide)) (L2N.takes_of rfl rfl rfl rfl) (DAs.cons (dp 0) (DAs.cons (DA.v de_int) DAs.nil)))) (DA.v de_int) (nomark _)) (dss_one (ds_ret (de_tup (DAs.cons (DA.v de_str) (DAs.cons (DA.v (dcl (cal__law_pick B) (hr.mono (by decide)) (L2N.takes_of rfl rfl rfl rfl) (DAs.cons (dp 0) (DAs.cons (DA.v (dv 2)) DAs.nil)))) DAs.nil))))) dss_nil)
  (dss_cons (ds_asg (dcl (cal__law_pick B) (hr.mono (by decide)) (L2N.takes_of rfl rfl rfl rfl) (DAs.cons (dp 0) (DAs.cons (DA.v (dv 1)) DAs.nil))) (dg_name (i := 3) rfl sc__law_term.nd rfl (by first | exact Or.inl rfl | exact Or.inr rfl)))
  (dss_cons (ds_if (dt_cmp (op_eqX (hu64 hr)) eq_ok (DA.v (dcl (cal__law_next B) (hr.mono (by decide)) (L2N.takes_of rfl rfl rfl rfl) (DAs.cons (dp 0) (DAs.cons (DA.v de_int) DAs.nil)))) (DA.v de_int) (nomark _)) (dss_one (ds_ret (de_tup (DAs.cons (DA.v de_str) (DAs.cons (DA.v (dv 3)) (DAs.cons (DA.v (dv 3)) DAs.nil)))))) dss_nil)
  (dss_one (ds_ret (de_tup (DAs.cons (DA.v de_str) (DAs.cons (DA.v (dv 3)) (DAs.cons (DA.v (dcl (cal__law_pick B) (hr.mono (by decide)) (L2N.takes_of rfl rfl rfl rfl) (DAs.cons (dp 0) (DAs.cons (DA.v (dv 1)) DAs.nil)))) DAs.nil)))))))))
theorem cal__law_term (B : Hd K mg) : Cal P w K mg base (xrD K) "_law_term" 6 false 3 [0] m__law_term [] := (ok__law_term B).cal fun _ _ _ _ _ _ us hl => match us, hl with | [_, _, _], _ => rfl
theorem sc__law_statement : FnScope ["stream", "kinds", "ages", "kind", "ones", "share", "one"] ["stream", "kinds", "ages"] (defScope s__law_statement) := ⟨rfl, rfl, rfl, by decide +kernel, rfl, by decide +kernel, by decide +kernel⟩
def g__law_statement : M Fl := (sSeq (sAsg (eCall m__law_next [0] [.p 0, .v (eC (.int 8))] []) (gV 3))
  (sSeq (sIf (tOrM (eTst (appM [.v (eV 3), .v (eC (.int 6))] ltD)) (eTst (appM [.v (appM [.v (eV 1)] len3D), .v (eC (.int 1))] eqD))) (sRet (eTup [(eCall m__law_pick [0] [.p 0, .v (eNew (eLst [(eC (.str "older")), (eC (.str "as old"))]))] []), (eCall m__law_term [0] [.p 0, .v (eV 1), .v (eV 2)] []), (eCall m__law_term [0] [.p 0, .v (eV 1), .v (eV 2)] [])])) sNx)
  (sSeq (sAsg (eCall m__law_some [0] [.p 0, .v (eV 1), .v (eC (.int 2))] []) (gV 4))
  (sSeq (sIf (eTst (appM [.v (eV 3), .v (eC (.int 6))] eqD)) (sRet (eTup [(eC (.str "group")), (eV 4)])) sNx)
  (sSeq (sAsg (eCall m__law_pick [0] [.p 0, .v (eNew (eLst [(eC (.int 1)), (eC (.int 2)), (eC (.int 4))]))] []) (gV 5))
  (sRet (eTup [(eC (.str "mark")), (eV 4), (appM [.v (eNew (eLc (iSeq2 (eV 1)) [6] (gV 6) (tAndM (eTst (appM [.v (eV 6), .v (eV 4)] notIn3D)) (eTst (appM [.v (eCall m__law_next [0] [.p 0, .v (eV 5)] []), .v (eC (.int 0))] eqD))) (eV 6)))] tupleD)])))))))
def m__law_statement : Fn := mkFn false 7 [0] g__law_statement
theorem ok__law_statement (B : Hd K mg) : Okf P w K mg base (xrD K) "_law_statement" s__law_statement [] 8 false ["stream", "kinds", "ages"] [0] m__law_statement :=
  okf_mk (k := 7) (N := ["stream", "kinds", "ages", "kind", "ones", "share", "one"]) (ps := ["stream", "kinds", "ages"]) (nw := false) (O := fun i => ([0] : List Nat).contains i) (g := g__law_statement) B.f__law_statement sc__law_statement (by decide) (by decide) (by decide) fun f cdv A outer s H E F0 R A0 hr =>
  (dss_cons (ds_asg (dcl (cal__law_next B) (hr.mono (by decide)) (L2N.takes_of rfl rfl rfl rfl) (DAs.cons (dp 0) (DAs.cons (DA.v de_int) DAs.nil))) (dg_name (i := 3) rfl sc__law_statement.nd rfl (by first | exact Or.inl rfl | exact Or.inr rfl)))
  (dss_cons (ds_if (dt_w (dw_or (dt_cmp op_ltX lt_ok (DA.v (dv 3)) (DA.v de_int) (nomark _)) (dw_or1 (dt_cmp (op_eqX (hu64 hr)) eq_ok (DA.v (de_callB call_len3 len3_ok (by rfl) B.b_len (by decide +kernel) (DAs.cons (DA.v (dv 1)) DAs.nil))) (DA.v de_int) (nomark _))))) (dss_one (ds_ret (de_tup (DAs.cons (DA.v (dcl (cal__law_pick B) (hr.mono (by decide)) (L2N.takes_of rfl rfl rfl rfl) (DAs.cons (dp 0) (DAs.cons (DA.v (df_e (df_lst (DAs.cons (DA.v de_str) (DAs.cons (DA.v de_str) DAs.nil))))) DAs.nil)))) (DAs.cons (DA.v (dcl (cal__law_term B) (hr.mono (by decide)) (L2N.takes_of rfl rfl rfl rfl) (DAs.cons (dp 0) (DAs.cons (DA.v (dv 1)) (DAs.cons (DA.v (dv 2)) DAs.nil))))) (DAs.cons (DA.v (dcl (cal__law_term B) (hr.mono (by decide)) (L2N.takes_of rfl rfl rfl rfl) (DAs.cons (dp 0) (DAs.cons (DA.v (dv 1)) (DAs.cons (DA.v (dv 2)) DAs.nil))))) DAs.nil)))))) dss_nil)
  (dss_cons (ds_asg (dcl (cal__law_some B) (hr.mono (by decide)) (L2N.takes_of rfl rfl rfl rfl) (DAs.cons (dp 0) (DAs.cons (DA.v (dv 1)) (DAs.cons (DA.v de_int) DAs.nil)))) (dg_name (i := 4) rfl sc__law_statement.nd rfl (by first | exact Or.inl rfl | exact Or.inr rfl)))
  (dss_cons (ds_if (dt_cmp (op_eqX (hu64 hr)) eq_ok (DA.v (dv 3)) (DA.v de_int) (nomark _)) (dss_one (ds_ret (de_tup (DAs.cons (DA.v de_str) (DAs.cons (DA.v (dv 4)) DAs.nil))))) dss_nil)
  (dss_cons (ds_asg (dcl (cal__law_pick B) (hr.mono (by decide)) (L2N.takes_of rfl rfl rfl rfl) (DAs.cons (dp 0) (DAs.cons (DA.v (df_e (df_lst (DAs.cons (DA.v de_int) (DAs.cons (DA.v de_int) (DAs.cons (DA.v de_int) DAs.nil)))))) DAs.nil))) (dg_name (i := 5) rfl sc__law_statement.nd rfl (by first | exact Or.inl rfl | exact Or.inr rfl)))
  (dss_one (ds_ret (de_tup (DAs.cons (DA.v de_str) (DAs.cons (DA.v (dv 4)) (DAs.cons (DA.v (de_callTy call_tuple_of tuple_ok (by rfl) B.b_tuple (by decide +kernel) (DAs.cons (DA.v (df_e (dc_lc (own := [("one", 6)]) rfl sc__law_statement.nd (di_seq2 (dv 1) rfl) (blkOk_by (by kernel_rfl)) (free_of rfl) (sub_of rfl) (fun _ _ _ _ _ _ => (dg_name (i := 6) rfl sc__law_statement.nd rfl (by first | exact Or.inl rfl | exact Or.inr rfl))) (fun _ _ _ _ _ _ => (dts_one (dt_w (dw_and (dt_cmp (op_notIn3 (hu65 hr)) notIn3_ok (DA.v (dv 6)) (DA.v (dv 4)) (by rfl)) (dw_and1 (dt_cmp (op_eqX (hu64 hr)) eq_ok (DA.v (dcl (cal__law_next B) (hr.mono (by decide)) takesN (DAs.cons (dp 0) (DAs.cons (DA.v (dv 5)) DAs.nil)))) (DA.v de_int) (nomark _))))))) (fun _ _ _ _ _ _ => (dv 6))).pe)) DAs.nil))) DAs.nil)))))))))))
theorem cal__law_statement (B : Hd K mg) : Cal P w K mg base (xrD K) "_law_statement" 8 false 3 [0] m__law_statement [] := (ok__law_statement B).cal fun _ _ _ _ _ _ us hl => match us, hl with | [_, _, _], _ => rfl
theorem sc__law_entries : FnScope ["stream", "kinds", "ages", "found", "age", "term", "pair", "turn", "entry", "terms", "total", "number", "most", "known", "k", "here", "start"] ["stream", "kinds"] (defScope s__law_entries) := ⟨rfl, rfl, rfl, by decide +kernel, rfl, by decide +kernel, by decide +kernel⟩
def g__law_entries : M Fl := (sSeq (sAsg (eCall m__law_ages [0] [.p 0] []) (gV 2))
  (sSeq (sAsgO 3 (eLst []))
  (sSeq (sFor (iSeq2 (eV 2)) (gV 4) (sSeq (sAsg (eTup [(eC (.str "parting")), (eCall m__law_pick [0] [.p 0, .v (eV 1)] []), (eCall m__law_pick [0] [.p 0, .v (eV 1)] [])]) (gV 5))
  (sSeq (sAsg (eCall m__law_pick [0] [.p 0, .v (eNew (eLst [(eTup [(eTup [(eC (.str "age")), (eV 4)]), (eV 5)]), (eTup [(eV 5), (eTup [(eC (.str "age")), (eV 4)])]), (eTup [(eTup [(eC (.str "age")), (eV 4)]), (eTup [(eC (.str "age")), (eC (.int 0))])])]))] []) (gV 6))
  (sApp 3 (eTup [(eCall m__law_next [0] [.p 0, .v (eC (.int 6))] []), (eTup [(eCall m__law_pick [0] [.p 0, .v (eNew (eLst [(eC (.str "older")), (eC (.str "as old"))]))] []), (appM [.v (eV 6), .v (eC (.int 0))] ix2D), (appM [.v (eV 6), .v (eC (.int 1))] ix2D)])])))))
  (sSeq (sFor (iRange1 (eCall m__law_pick [0] [.p 0, .v (eNew (eLst [(eC (.int 0)), (eC (.int 2)), (eC (.int 5))]))] [])) (gV 7) (sSeq (sAsg (eTup [(eCall m__law_next [0] [.p 0, .v (eC (.int 6))] []), (eCall m__law_statement [0] [.p 0, .v (eV 1), .v (appM [.v (eNew (eLst [(eC (.int 0))])), .v (eV 2)] addD)] [])]) (gV 8))
  (sIf (eTst (appM [.v (eV 8), .p 3] notIn3D)) (sApp 3 (eV 8)) sNx)))
  (sSeq (sAsg (eCall m__law_terms [0] [.p 0, .v (eV 1), .v (eV 2)] []) (gV 9))
  (sSeq (sAsg (appM [.v (appM [.v (eC (.int 12)), .v (appM [.v (eV 9)] len3D)] mulD), .v (appM [.v (eV 9)] len3D)] mulD) (gV 10))
  (sSeq (sAsg (eCall m__law_next [0] [.p 0, .v (eV 10)] []) (gV 11))
  (sSeq (sAsg (eCall m__law_pick [0] [.p 0, .v (eNew (eLst [(eC (.int 0)), (eC (.int 30)), (eCall m__law_next [0] [.p 0, .v (eC (.int 150))] []), (eC (.int 149)), (eC (.int 150)), (eC (.int 150)), (eC (.int 151))]))] []) (gV 12))
  (sSeq (sAsgO 13 eDct0)
  (sSeq (sForO 3 (gV 8) (sPutI 13 (eV 8) (eC (.bl true))))
  (sSeq (sFor (iRange1 (eV 10)) (gV 14) (sSeq (sIf (eTst (appM [.v (appM [.p 3] len3D), .v (eV 12)] geD)) sBk sNx)
  (sSeq (sAsg (appM [.v (appM [.v (appM [.v (eV 11), .v (eV 14)] addD)] intD), .v (eV 10)] modD) (gV 15))
  (sSeq (sAsg (eNew (eLst [(appM [.v (eV 9), .v (appM [.v (appM [.v (appM [.v (eV 15), .v (eC (.int 12))] fdivD)] intD), .v (appM [.v (eV 9)] len3D)] modD)] ix2D), (appM [.v (eV 9), .v (appM [.v (eV 15), .v (appM [.v (eC (.int 12)), .v (appM [.v (eV 9)] len3D)] mulD)] fdivD)] ix2D)])) (gV 6))
  (sSeq (sAsg (eTup [(appM [.v (appM [.v (eV 15)] intD), .v (eC (.int 6))] modD), (eTup [(appM [.v (eNew (eLst [(eC (.str "older")), (eC (.str "as old"))])), .v (appM [.v (appM [.v (appM [.v (eV 15), .v (eC (.int 6))] fdivD)] intD), .v (eC (.int 2))] modD)] ix2D), (appM [.v (eV 6), .v (eC (.int 0))] ix2D), (appM [.v (eV 6), .v (eC (.int 1))] ix2D)])]) (gV 8))
  (sIf (eTst (appM [.v (eV 8), .p 13] notIn3D)) (sSeq (sPutI 13 (eV 8) (eC (.bl true)))
  (sApp 3 (eV 8))) sNx))))))
  (sSeq (sAsg (eCall m__law_next [0] [.p 0, .v (appM [.v (appM [.p 3] len3D), .v (eC (.int 1))] addD)] []) (gV 16))
  (sRet (appM [.v (appM [.p 3, .v (asInt (eV 16))] slDlo), .v (appM [.p 3, .v (asInt (eV 16))] slDhi)] addD))))))))))))))
def m__law_entries : Fn := mkFn false 17 [0] g__law_entries
theorem ok__law_entries (B : Hd K mg) : Okf P w K mg base (xrD K) "_law_entries" s__law_entries [] 10 false ["stream", "kinds"] [0] m__law_entries :=
  okf_mk (k := 9) (N := ["stream", "kinds", "ages", "found", "age", "term", "pair", "turn", "entry", "terms", "total", "number", "most", "known", "k", "here", "start"]) (ps := ["stream", "kinds"]) (nw := false) (O := fun i => ([0, 3, 13] : List Nat).contains i) (g := g__law_entries) B.f__law_entries sc__law_entries (by decide) (by decide) (by decide) fun f cdv A outer s H E F0 R A0 hr =>
  (dss_cons (ds_asg (dcl (cal__law_ages B) (hr.mono (by decide)) (L2N.takes_of rfl rfl rfl rfl) (DAs.cons (dp 0) DAs.nil)) (dg_name (i := 2) rfl sc__law_entries.nd rfl (by first | exact Or.inl rfl | exact Or.inr rfl)))
  (dss_cons (ds_asgO (i := 3) rfl rfl (df_lst DAs.nil) sc__law_entries.nd rfl (by first | exact Or.inl rfl | exact Or.inr rfl))
  (dss_cons (ds_for (passes_of rfl) rfl (di_seq2 (dv 2) rfl) (dg_name (i := 4) rfl sc__law_entries.nd rfl (by first | exact Or.inl rfl | exact Or.inr rfl)) (dss_cons (ds_asg (de_tup (DAs.cons (DA.v de_str) (DAs.cons (DA.v (dcl (cal__law_pick B) (hr.mono (by decide)) (L2N.takes_of rfl rfl rfl rfl) (DAs.cons (dp 0) (DAs.cons (DA.v (dv 1)) DAs.nil)))) (DAs.cons (DA.v (dcl (cal__law_pick B) (hr.mono (by decide)) (L2N.takes_of rfl rfl rfl rfl) (DAs.cons (dp 0) (DAs.cons (DA.v (dv 1)) DAs.nil)))) DAs.nil)))) (dg_name (i := 5) rfl sc__law_entries.nd rfl (by first | exact Or.inl rfl | exact Or.inr rfl)))
  (dss_cons (ds_asg (dcl (cal__law_pick B) (hr.mono (by decide)) (L2N.takes_of rfl rfl rfl rfl) (DAs.cons (dp 0) (DAs.cons (DA.v (df_e (df_lst (DAs.cons (DA.v (de_tup (DAs.cons (DA.v (de_tup (DAs.cons (DA.v de_str) (DAs.cons (DA.v (dv 4)) DAs.nil)))) (DAs.cons (DA.v (dv 5)) DAs.nil)))) (DAs.cons (DA.v (de_tup (DAs.cons (DA.v (dv 5)) (DAs.cons (DA.v (de_tup (DAs.cons (DA.v de_str) (DAs.cons (DA.v (dv 4)) DAs.nil)))) DAs.nil)))) (DAs.cons (DA.v (de_tup (DAs.cons (DA.v (de_tup (DAs.cons (DA.v de_str) (DAs.cons (DA.v (dv 4)) DAs.nil)))) (DAs.cons (DA.v (de_tup (DAs.cons (DA.v de_str) (DAs.cons (DA.v de_int) DAs.nil)))) DAs.nil)))) DAs.nil)))))) DAs.nil))) (dg_name (i := 6) rfl sc__law_entries.nd rfl (by first | exact Or.inl rfl | exact Or.inr rfl)))
  (dss_one (ds_append rfl (pe_bm PySem.F.plainAttrs_list PySem.F.slot_list_append PySem.F.type_list_append mt_append (pv 3) (pa_cons (de_tup (DAs.cons (DA.v (dcl (cal__law_next B) (hr.mono (by decide)) (L2N.takes_of rfl rfl rfl rfl) (DAs.cons (dp 0) (DAs.cons (DA.v de_int) DAs.nil)))) (DAs.cons (DA.v (de_tup (DAs.cons (DA.v (dcl (cal__law_pick B) (hr.mono (by decide)) (L2N.takes_of rfl rfl rfl rfl) (DAs.cons (dp 0) (DAs.cons (DA.v (df_e (df_lst (DAs.cons (DA.v de_str) (DAs.cons (DA.v de_str) DAs.nil))))) DAs.nil)))) (DAs.cons (DA.v (de_ix (ix_two (hu64 hr)) ix2_ok (DA.v (dv 6)) (DA.v de_int) (fun _ _ => rfl))) (DAs.cons (DA.v (de_ix (ix_two (hu64 hr)) ix2_ok (DA.v (dv 6)) (DA.v de_int) (fun _ _ => rfl))) DAs.nil))))) DAs.nil))) pa_nil)))))))
  (dss_cons (ds_for (passes_of rfl) rfl (di_range1 (by rfl) B.b_range (dcl (cal__law_pick B) (hr.mono (by decide)) (L2N.takes_of rfl rfl rfl rfl) (DAs.cons (dp 0) (DAs.cons (DA.v (df_e (df_lst (DAs.cons (DA.v de_int) (DAs.cons (DA.v de_int) (DAs.cons (DA.v de_int) DAs.nil)))))) DAs.nil)))) (dg_name (i := 7) rfl sc__law_entries.nd rfl (by first | exact Or.inl rfl | exact Or.inr rfl)) (dss_cons (ds_asg (de_tup (DAs.cons (DA.v (dcl (cal__law_next B) (hr.mono (by decide)) (L2N.takes_of rfl rfl rfl rfl) (DAs.cons (dp 0) (DAs.cons (DA.v de_int) DAs.nil)))) (DAs.cons (DA.v (dcl (cal__law_statement B) (hr.mono (by decide)) (L2N.takes_of rfl rfl rfl rfl) (DAs.cons (dp 0) (DAs.cons (DA.v (dv 1)) (DAs.cons (DA.v (de_op op_addD add_ok (DA.v (df_e (df_lst (DAs.cons (DA.v de_int) DAs.nil)))) (DA.v (dv 2)))) DAs.nil))))) DAs.nil))) (dg_name (i := 8) rfl sc__law_entries.nd rfl (by first | exact Or.inl rfl | exact Or.inr rfl)))
  (dss_one (ds_if (dt_cmp (op_notIn3 (hu65 hr)) notIn3_ok (DA.v (dv 8)) (dp 3) (by rfl)) (dss_one (ds_append rfl (pe_bm PySem.F.plainAttrs_list PySem.F.slot_list_append PySem.F.type_list_append mt_append (pv 3) (pa_cons (dv 8) pa_nil)))) dss_nil))))
  (dss_cons (ds_asg (dcl (cal__law_terms B) (hr.mono (by decide)) (L2N.takes_of rfl rfl rfl rfl) (DAs.cons (dp 0) (DAs.cons (DA.v (dv 1)) (DAs.cons (DA.v (dv 2)) DAs.nil)))) (dg_name (i := 9) rfl sc__law_entries.nd rfl (by first | exact Or.inl rfl | exact Or.inr rfl)))
  (dss_cons (ds_asg (de_op op_mulD mul_ok (DA.v (de_op op_mulD mul_ok (DA.v de_int) (DA.v (de_callB call_len3 len3_ok (by rfl) B.b_len (by decide +kernel) (DAs.cons (DA.v (dv 9)) DAs.nil))))) (DA.v (de_callB call_len3 len3_ok (by rfl) B.b_len (by decide +kernel) (DAs.cons (DA.v (dv 9)) DAs.nil)))) (dg_name (i := 10) rfl sc__law_entries.nd rfl (by first | exact Or.inl rfl | exact Or.inr rfl)))
  (dss_cons (ds_asg (dcl (cal__law_next B) (hr.mono (by decide)) (L2N.takes_of rfl rfl rfl rfl) (DAs.cons (dp 0) (DAs.cons (DA.v (dv 10)) DAs.nil))) (dg_name (i := 11) rfl sc__law_entries.nd rfl (by first | exact Or.inl rfl | exact Or.inr rfl)))
  (dss_cons (ds_asg (dcl (cal__law_pick B) (hr.mono (by decide)) (L2N.takes_of rfl rfl rfl rfl) (DAs.cons (dp 0) (DAs.cons (DA.v (df_e (df_lst (DAs.cons (DA.v de_int) (DAs.cons (DA.v de_int) (DAs.cons (DA.v (dcl (cal__law_next B) (hr.mono (by decide)) (L2N.takes_of rfl rfl rfl rfl) (DAs.cons (dp 0) (DAs.cons (DA.v de_int) DAs.nil)))) (DAs.cons (DA.v de_int) (DAs.cons (DA.v de_int) (DAs.cons (DA.v de_int) (DAs.cons (DA.v de_int) DAs.nil)))))))))) DAs.nil))) (dg_name (i := 12) rfl sc__law_entries.nd rfl (by first | exact Or.inl rfl | exact Or.inr rfl)))
  (dss_cons (ds_asgO (i := 13) rfl rfl df_dct0 sc__law_entries.nd rfl (by first | exact Or.inl rfl | exact Or.inr rfl))
  (dss_cons (ds_forO (i := 3) rfl rfl (by first | exact Or.inl rfl | exact Or.inr (Or.inl rfl) | exact Or.inr (Or.inr rfl)) (passes_of rfl) rfl (fun _ => (dg_name (i := 8) rfl sc__law_entries.nd rfl (by first | exact Or.inl rfl | exact Or.inr rfl))) (fun _ => (dss_one (ds_putI rfl rfl rfl de_bl (pg_sub (pv 13) (dv 8) (set_any (hu64 hr)))))))
  (dss_cons (ds_for (passes_of rfl) rfl (di_range1 (by rfl) B.b_range (dv 10)) (dg_name (i := 14) rfl sc__law_entries.nd rfl (by first | exact Or.inl rfl | exact Or.inr rfl)) (dss_cons (ds_if (dt_cmp op_geX ge_ok (DA.v (de_callB call_len3 len3_ok (by rfl) B.b_len (by decide +kernel) (DAs.cons (dp 3) DAs.nil))) (DA.v (dv 12)) (nomark _)) (dss_one ds_break) dss_nil)
  (dss_cons (ds_asg (de_op op_modN mod_ok (DA.v (de_callTy call_int1 int_ok (by rfl) B.b_int (by decide +kernel) (DAs.cons (DA.v (de_op op_addD add_ok (DA.v (dv 11)) (DA.v (dv 14)))) DAs.nil))) (DA.v (dv 10))) (dg_name (i := 15) rfl sc__law_entries.nd rfl (by first | exact Or.inl rfl | exact Or.inr rfl)))
  (dss_cons (ds_asg (df_e (df_lst (DAs.cons (DA.v (de_ix (ix_two (hu64 hr)) ix2_ok (DA.v (dv 9)) (DA.v (de_op op_modN mod_ok (DA.v (de_callTy call_int1 int_ok (by rfl) B.b_int (by decide +kernel) (DAs.cons (DA.v (de_op op_fdivN fdiv_ok (DA.v (dv 15)) (DA.v de_int))) DAs.nil))) (DA.v (de_callB call_len3 len3_ok (by rfl) B.b_len (by decide +kernel) (DAs.cons (DA.v (dv 9)) DAs.nil))))) (fun _ _ => rfl))) (DAs.cons (DA.v (de_ix (ix_two (hu64 hr)) ix2_ok (DA.v (dv 9)) (DA.v (de_op op_fdivN fdiv_ok (DA.v (dv 15)) (DA.v (de_op op_mulD mul_ok (DA.v de_int) (DA.v (de_callB call_len3 len3_ok (by rfl) B.b_len (by decide +kernel) (DAs.cons (DA.v (dv 9)) DAs.nil))))))) (fun _ _ => rfl))) DAs.nil)))) (dg_name (i := 6) rfl sc__law_entries.nd rfl (by first | exact Or.inl rfl | exact Or.inr rfl)))
  (dss_cons (ds_asg (de_tup (DAs.cons (DA.v (de_op op_modN mod_ok (DA.v (de_callTy call_int1 int_ok (by rfl) B.b_int (by decide +kernel) (DAs.cons (DA.v (dv 15)) DAs.nil))) (DA.v de_int))) (DAs.cons (DA.v (de_tup (DAs.cons (DA.v (de_ix (ix_two (hu64 hr)) ix2_ok (DA.v (df_e (df_lst (DAs.cons (DA.v de_str) (DAs.cons (DA.v de_str) DAs.nil))))) (DA.v (de_op op_modN mod_ok (DA.v (de_callTy call_int1 int_ok (by rfl) B.b_int (by decide +kernel) (DAs.cons (DA.v (de_op op_fdivN fdiv_ok (DA.v (dv 15)) (DA.v de_int))) DAs.nil))) (DA.v de_int))) (fun _ _ => rfl))) (DAs.cons (DA.v (de_ix (ix_two (hu64 hr)) ix2_ok (DA.v (dv 6)) (DA.v de_int) (fun _ _ => rfl))) (DAs.cons (DA.v (de_ix (ix_two (hu64 hr)) ix2_ok (DA.v (dv 6)) (DA.v de_int) (fun _ _ => rfl))) DAs.nil))))) DAs.nil))) (dg_name (i := 8) rfl sc__law_entries.nd rfl (by first | exact Or.inl rfl | exact Or.inr rfl)))
  (dss_one (ds_if (dt_cmp (op_notIn3 (hu65 hr)) notIn3_ok (DA.v (dv 8)) (dp 13) (by rfl)) (dss_cons (ds_putI rfl rfl rfl de_bl (pg_sub (pv 13) (dv 8) (set_any (hu64 hr))))
  (dss_one (ds_append rfl (pe_bm PySem.F.plainAttrs_list PySem.F.slot_list_append PySem.F.type_list_append mt_append (pv 3) (pa_cons (dv 8) pa_nil))))) dss_nil)))))))
  (dss_cons (ds_asg (dcl (cal__law_next B) (hr.mono (by decide)) (L2N.takes_of rfl rfl rfl rfl) (DAs.cons (dp 0) (DAs.cons (DA.v (de_op op_addD add_ok (DA.v (de_callB call_len3 len3_ok (by rfl) B.b_len (by decide +kernel) (DAs.cons (dp 3) DAs.nil))) (DA.v de_int))) DAs.nil))) (dg_name (i := 16) rfl sc__law_entries.nd rfl (by first | exact Or.inl rfl | exact Or.inr rfl)))
  (dss_one (ds_ret (de_op op_addD add_ok (DA.v (de_slLo (dp 3) (dv 16) rfl)) (DA.v (de_slHi (dp 3) (dv 16) rfl)))))))))))))))))
theorem cal__law_entries (B : Hd K mg) : Cal P w K mg base (xrD K) "_law_entries" 10 false 2 [0] m__law_entries [] := (ok__law_entries B).cal fun _ _ _ _ _ _ us hl => match us, hl with | [_, _], _ => rfl
theorem sc__law_ages_due : FnScope ["entries", "found", "entry", "terms", "item"] ["entries"] (defScope s__law_ages_due) := ⟨rfl, rfl, rfl, by decide +kernel, rfl, by decide +kernel, by decide +kernel⟩
def g__law_ages_due : M Fl := (sSeq (sAsgO 1 (eLst []))
  (sSeq (sFor (iSeq2 (eV 0)) (gV 2) (sSeq (sAsg (eIf (eTst (appM [.v (appM [.v (appM [.v (eV 2), .v (eC (.int 1))] ix2D), .v (eC (.int 0))] ix2D), .v (eNew (eLst [(eC (.str "older")), (eC (.str "as old"))]))] in3D)) (appM [.v (appM [.v (eV 2), .v (eC (.int 1))] ix2D), .v (asInt (eC (.int 1)))] slDlo) (eTup [])) (gV 3))
  (sFor (iSeq2 (eV 3)) (gV 4) (sIf (tAndM (eTst (appM [.v (appM [.v (eV 4), .v (eC (.int 0))] ix2D), .v (eC (.str "age"))] eqD)) (tAndM (eTst (appM [.v (appM [.v (eV 4), .v (eC (.int 1))] ix2D), .v (eC (.int 0))] gtD)) (eTst (appM [.v (appM [.v (eV 4), .v (eC (.int 1))] ix2D), .p 1] notIn3D)))) (sApp 1 (appM [.v (eV 4), .v (eC (.int 1))] ix2D)) sNx))))
  (sRet (appM [.p 1] sorted2D))))
def m__law_ages_due : Fn := mkFn false 5 [] g__law_ages_due
theorem ok__law_ages_due (B : Hd K mg) : Okf P w K mg base (xrD K) "_law_ages_due" s__law_ages_due [] 2 false ["entries"] [] m__law_ages_due :=
  okf_mk (k := 1) (N := ["entries", "found", "entry", "terms", "item"]) (ps := ["entries"]) (nw := false) (O := fun i => ([1] : List Nat).contains i) (g := g__law_ages_due) B.f__law_ages_due sc__law_ages_due (by decide) (by decide) (by decide) fun f cdv A outer s H E F0 R A0 hr =>
  (dss_cons (ds_asgO (i := 1) rfl rfl (df_lst DAs.nil) sc__law_ages_due.nd rfl (by first | exact Or.inl rfl | exact Or.inr rfl))
  (dss_cons (ds_for (passes_of rfl) rfl (di_seq2 (dv 0) rfl) (dg_name (i := 2) rfl sc__law_ages_due.nd rfl (by first | exact Or.inl rfl | exact Or.inr rfl)) (dss_cons (ds_asg (de_if (dt_cmp (op_in3 (hu65 hr)) in3_ok (DA.v (de_ix (ix_two (hu64 hr)) ix2_ok (DA.v (de_ix (ix_two (hu64 hr)) ix2_ok (DA.v (dv 2)) (DA.v de_int) (fun _ _ => rfl))) (DA.v de_int) (fun _ _ => rfl))) (DA.v (df_e (df_lst (DAs.cons (DA.v de_str) (DAs.cons (DA.v de_str) DAs.nil))))) (by rfl)) (de_slLo (DA.v (de_ix (ix_two (hu64 hr)) ix2_ok (DA.v (dv 2)) (DA.v de_int) (fun _ _ => rfl))) de_int rfl) (de_tup DAs.nil)) (dg_name (i := 3) rfl sc__law_ages_due.nd rfl (by first | exact Or.inl rfl | exact Or.inr rfl)))
  (dss_one (ds_for (passes_of rfl) rfl (di_seq2 (dv 3) rfl) (dg_name (i := 4) rfl sc__law_ages_due.nd rfl (by first | exact Or.inl rfl | exact Or.inr rfl)) (dss_one (ds_if (dt_w (dw_and (dt_cmp (op_eqX (hu64 hr)) eq_ok (DA.v (de_ix (ix_two (hu64 hr)) ix2_ok (DA.v (dv 4)) (DA.v de_int) (fun _ _ => rfl))) (DA.v de_str) (nomark _)) (dw_and (dt_cmp op_gtX gt_ok (DA.v (de_ix (ix_two (hu64 hr)) ix2_ok (DA.v (dv 4)) (DA.v de_int) (fun _ _ => rfl))) (DA.v de_int) (nomark _)) (dw_and1 (dt_cmp (op_notIn3 (hu65 hr)) notIn3_ok (DA.v (de_ix (ix_two (hu64 hr)) ix2_ok (DA.v (dv 4)) (DA.v de_int) (fun _ _ => rfl))) (dp 1) (by rfl)))))) (dss_one (ds_append rfl (pe_bm PySem.F.plainAttrs_list PySem.F.slot_list_append PySem.F.type_list_append mt_append (pv 1) (pa_cons (de_ix (ix_two (hu64 hr)) ix2_ok (DA.v (dv 4)) (DA.v de_int) (fun _ _ => rfl)) pa_nil)))) dss_nil))))))
  (dss_one (ds_ret (de_callB (cr_sort2 rfl) sorted2_ok (by rfl) B.b_sorted (by decide +kernel) (DAs.cons (dp 1) DAs.nil))))))
theorem cal__law_ages_due (B : Hd K mg) : Cal P w K mg base (xrD K) "_law_ages_due" 2 false 1 [] m__law_ages_due [] := (ok__law_ages_due B).cal fun _ _ _ _ _ _ us hl => match us, hl with | [_], _ => rfl
theorem sc__law_named : FnScope ["entries", "kinds", "entry", "item", "names", "name"] ["entries", "kinds"] (defScope s__law_named) := ⟨rfl, rfl, rfl, by decide +kernel, rfl, by decide +kernel, by decide +kernel⟩
def g__law_named : M Fl := (sSeq (sFor (iSeq2 (eV 0)) (gV 2) (sFor (iSeq2 (appM [.v (appM [.v (eV 2), .v (eC (.int 1))] ix2D), .v (asInt (eC (.int 1)))] slDlo)) (gV 3) (sSeq (sAsg (eV 3) (gV 4))
  (sSeq (sIf (eTst (appM [.v (appM [.v (appM [.v (eV 2), .v (eC (.int 1))] ix2D), .v (eC (.int 0))] ix2D), .v (eNew (eLst [(eC (.str "older")), (eC (.str "as old"))]))] in3D)) (sAsg (eIf (eTst (appM [.v (appM [.v (eV 3), .v (eC (.int 0))] ix2D), .v (eC (.str "parting"))] eqD)) (appM [.v (eV 3), .v (asInt (eC (.int 1)))] slDlo) (eTup [])) (gV 4)) sNx)
  (sIf (tNotM (eTru (appM [.v (eNew (eLc (iSeq2 (eV 4)) [5] (gV 5) tTrue (appM [.v (eV 5), .v (eV 1)] in3D)))] allD))) (sRet (eC (.bl false))) sNx)))))
  (sRet (eC (.bl true))))
def m__law_named : Fn := mkFn false 6 [] g__law_named
theorem ok__law_named (B : Hd K mg) : Okf P w K mg base (xrD K) "_law_named" s__law_named [] 2 false ["entries", "kinds"] [] m__law_named :=
  okf_mk (k := 1) (N := ["entries", "kinds", "entry", "item", "names", "name"]) (ps := ["entries", "kinds"]) (nw := false) (O := fun i => ([] : List Nat).contains i) (g := g__law_named) B.f__law_named sc__law_named (by decide) (by decide) (by decide) fun f cdv A outer s H E F0 R A0 hr =>
  (dss_cons (ds_for (passes_of rfl) rfl (di_seq2 (dv 0) rfl) (dg_name (i := 2) rfl sc__law_named.nd rfl (by first | exact Or.inl rfl | exact Or.inr rfl)) (dss_one (ds_for (passes_of rfl) rfl (di_seq2 (de_slLo (DA.v (de_ix (ix_two (hu64 hr)) ix2_ok (DA.v (dv 2)) (DA.v de_int) (fun _ _ => rfl))) de_int rfl) rfl) (dg_name (i := 3) rfl sc__law_named.nd rfl (by first | exact Or.inl rfl | exact Or.inr rfl)) (dss_cons (ds_asg (dv 3) (dg_name (i := 4) rfl sc__law_named.nd rfl (by first | exact Or.inl rfl | exact Or.inr rfl)))
  (dss_cons (ds_if (dt_cmp (op_in3 (hu65 hr)) in3_ok (DA.v (de_ix (ix_two (hu64 hr)) ix2_ok (DA.v (de_ix (ix_two (hu64 hr)) ix2_ok (DA.v (dv 2)) (DA.v de_int) (fun _ _ => rfl))) (DA.v de_int) (fun _ _ => rfl))) (DA.v (df_e (df_lst (DAs.cons (DA.v de_str) (DAs.cons (DA.v de_str) DAs.nil))))) (by rfl)) (dss_one (ds_asg (de_if (dt_cmp (op_eqX (hu64 hr)) eq_ok (DA.v (de_ix (ix_two (hu64 hr)) ix2_ok (DA.v (dv 3)) (DA.v de_int) (fun _ _ => rfl))) (DA.v de_str) (nomark _)) (de_slLo (DA.v (dv 3)) de_int rfl) (de_tup DAs.nil)) (dg_name (i := 4) rfl sc__law_named.nd rfl (by first | exact Or.inl rfl | exact Or.inr rfl)))) dss_nil)
  (dss_one (ds_if (dt_not (dt_truth (de_callB (cr_all rfl) all_ok (by rfl) B.b_all (by decide +kernel) (DAs.cons (DA.v (df_e (dc_lc (own := [("name", 5)]) rfl sc__law_named.nd (di_seq2 (dv 4) rfl) (blkOk_by (by kernel_rfl)) (free_of rfl) (sub_of rfl) (fun _ _ _ _ _ _ => (dg_name (i := 5) rfl sc__law_named.nd rfl (by first | exact Or.inl rfl | exact Or.inr rfl))) (fun _ _ _ _ _ _ => dts_nil) (fun _ _ _ _ _ _ => (de_cmp (op_in3 (hu65 hr)) in3_ok (DA.v (dv 5)) (DA.v (dv 1)) (by rfl)))).pe)) DAs.nil)) rfl)) (dss_one (ds_ret de_bl)) dss_nil)))))))
  (dss_one (ds_ret de_bl)))
theorem cal__law_named (B : Hd K mg) : Cal P w K mg base (xrD K) "_law_named" 2 false 2 [] m__law_named [] := (ok__law_named B).cal fun _ _ _ _ _ _ us hl => match us, hl with | [_, _], _ => rfl
theorem sc__law_says : FnScope ["actual", "due"] ["actual", "due"] (defScope s__law_says) := ⟨rfl, rfl, rfl, by decide +kernel, rfl, by decide +kernel, by decide +kernel⟩
def g__law_says : M Fl := (sRet (eIf (eTru (eV 1)) (appM [.v (eV 0), .v (eC (.bl true))] isD) (appM [.v (eV 0), .v (eC (.bl false))] isD)))
def m__law_says : Fn := mkFn false 2 [] g__law_says
theorem ok__law_says (B : Hd K mg) : Okf P w K mg base (xrD K) "_law_says" s__law_says [] 2 false ["actual", "due"] [] m__law_says :=
  okf_mk (k := 1) (N := ["actual", "due"]) (ps := ["actual", "due"]) (nw := false) (O := fun i => ([] : List Nat).contains i) (g := g__law_says) B.f__law_says sc__law_says (by decide) (by decide) (by decide) fun f cdv A outer s H E F0 R A0 hr =>
  (dss_one (ds_ret (de_if (dt_truth (dv 1) rfl) (de_cmp op_isX is_ok (DA.v (dv 0)) (DA.v de_bl) (nomark _)) (de_cmp op_isX is_ok (DA.v (dv 0)) (DA.v de_bl) (nomark _)))))
theorem cal__law_says (B : Hd K mg) : Cal P w K mg base (xrD K) "_law_says" 2 false 2 [] m__law_says [] := (ok__law_says B).cal fun _ _ _ _ _ _ us hl => match us, hl with | [_, _], _ => rfl
theorem sc_is_plain : FnScope ["statement"] ["statement"] (defScope s_is_plain) := ⟨rfl, rfl, rfl, by decide +kernel, rfl, by decide +kernel, by decide +kernel⟩
def g_is_plain : M Fl := (sRet (appM [.v (appM [.v (eV 0), .v (eC (.int 0))] ix2D), .v (eC c_PLAIN)] in3D))
def m_is_plain : Fn := mkFn false 1 [] g_is_plain
theorem ok_is_plain (B : Hd K mg) : Okf P w K mg base (xrD K) "is_plain" s_is_plain [] 2 false ["statement"] [] m_is_plain :=
  okf_mk (k := 1) (N := ["statement"]) (ps := ["statement"]) (nw := false) (O := fun i => ([] : List Nat).contains i) (g := g_is_plain) B.f_is_plain sc_is_plain (by decide) (by decide) (by decide) fun f cdv A outer s H E F0 R A0 hr =>
  (dss_one (ds_ret (de_cmp (op_in3 (hu65 hr)) in3_ok (DA.v (de_ix (ix_two (hu64 hr)) ix2_ok (DA.v (dv 0)) (DA.v de_int) (fun _ _ => rfl))) (DA.v (dgc B.c_PLAIN)) (by rfl))))
theorem cal_is_plain (B : Hd K mg) : Cal P w K mg base (xrD K) "is_plain" 2 false 1 [] m_is_plain [] := (ok_is_plain B).cal fun _ _ _ _ _ _ us hl => match us, hl with | [_], _ => rfl
theorem sc_ages_within : FnScope ["statement", "term"] ["statement"] (defScope s_ages_within) := ⟨rfl, rfl, rfl, by decide +kernel, rfl, by decide +kernel, by decide +kernel⟩
def g_ages_within : M Fl := (sSeq (sIf (tNotM (eTru (eCall m_is_plain [] [.v (eV 0)] []))) (sRet (eNew (eLst []))) sNx)
  (sRet (eNew (eLc (iSeq2 (appM [.v (eV 0), .v (asInt (eC (.int 1)))] slDlo)) [1] (gV 1) (tAndM (eTst (appM [.v (appM [.v (eV 1), .v (eC (.int 0))] ix2D), .v (eC (.str "age"))] eqD)) (eTst (appM [.v (appM [.v (eV 1), .v (eC (.int 1))] ix2D), .v (eC (.int 0))] gtD))) (appM [.v (eV 1), .v (eC (.int 1))] ix2D)))))
def m_ages_within : Fn := mkFn false 2 [] g_ages_within
theorem ok_ages_within (B : Hd K mg) : Okf P w K mg base (xrD K) "ages_within" s_ages_within [] 4 false ["statement"] [] m_ages_within :=
  okf_mk (k := 3) (N := ["statement", "term"]) (ps := ["statement"]) (nw := false) (O := fun i => ([] : List Nat).contains i) (g := g_ages_within) B.f_ages_within sc_ages_within (by decide) (by decide) (by decide) fun f cdv A outer s H E F0 R A0 hr =>
  (dss_cons (ds_if (dt_not (dt_truth (dcl (cal_is_plain B) (hr.mono (by decide)) (L2N.takes_of rfl rfl rfl rfl) (DAs.cons (DA.v (dv 0)) DAs.nil)) rfl)) (dss_one (ds_ret (df_e (df_lst DAs.nil)))) dss_nil)
  (dss_one (ds_ret (df_e (dc_lc (own := [("term", 1)]) rfl sc_ages_within.nd (di_seq2 (de_slLo (DA.v (dv 0)) de_int rfl) rfl) (blkOk_by (by kernel_rfl)) (free_of rfl) (sub_of rfl) (fun _ _ _ _ _ _ => (dg_name (i := 1) rfl sc_ages_within.nd rfl (by first | exact Or.inl rfl | exact Or.inr rfl))) (fun _ _ _ _ _ _ => (dts_one (dt_w (dw_and (dt_cmp (op_eqX (hu64 hr)) eq_ok (DA.v (de_ix (ix_two (hu64 hr)) ix2_ok (DA.v (dv 1)) (DA.v de_int) (fun _ _ => rfl))) (DA.v de_str) (nomark _)) (dw_and1 (dt_cmp op_gtX gt_ok (DA.v (de_ix (ix_two (hu64 hr)) ix2_ok (DA.v (dv 1)) (DA.v de_int) (fun _ _ => rfl))) (DA.v de_int) (nomark _))))))) (fun _ _ _ _ _ _ => (de_ix (ix_two (hu64 hr)) ix2_ok (DA.v (dv 1)) (DA.v de_int) (fun _ _ => rfl)))).pe))))
theorem cal_ages_within (B : Hd K mg) : Cal P w K mg base (xrD K) "ages_within" 4 false 1 [] m_ages_within [] := (ok_ages_within B).cal fun _ _ _ _ _ _ us hl => match us, hl with | [_], _ => rfl
theorem sc_ages_among : FnScope ["statements", "statement", "age"] ["statements"] (defScope s_ages_among) := ⟨rfl, rfl, rfl, by decide +kernel, rfl, by decide +kernel, by decide +kernel⟩
def g_ages_among : M Fl := (sRet (M.bind (eCp (iSeq2 (eV 0)) [1, 2] (gV 1) tTrue (clB (iSeq2 (eCall m_ages_within [] [.v (eV 1)] [])) [2] (gV 2) tTrue (emS (eV 2))) (.set [])) fun d => M.opt (sorted2D [d])))
def m_ages_among : Fn := mkFn false 3 [] g_ages_among
theorem ok_ages_among (B : Hd K mg) : Okf P w K mg base (xrD K) "ages_among" s_ages_among [] 6 false ["statements"] [] m_ages_among :=
  okf_mk (k := 5) (N := ["statements", "statement", "age"]) (ps := ["statements"]) (nw := false) (O := fun i => ([] : List Nat).contains i) (g := g_ages_among) B.f_ages_among sc_ages_among (by decide) (by decide) (by decide) fun f cdv A outer s H E F0 R A0 hr =>
  (dss_one (ds_ret (de_callN (cr_sort2 rfl) sorted2_ok (by rfl) B.b_sorted (by decide +kernel) (dc_s2 (own := [("statement", 1), ("age", 2)]) rfl sc_ages_among.nd (di_seq2 (dv 0) rfl) (blkOk_by (by kernel_rfl)) (free_of rfl) (sub_of rfl) (fun _ _ _ _ _ _ => (dg_name (i := 1) rfl sc_ages_among.nd rfl (by first | exact Or.inl rfl | exact Or.inr rfl))) (fun _ _ _ _ _ _ => dts_nil) (vs1 := [2]) (free_of rfl) (sub_of rfl) (sub_of rfl) (fun _ _ _ _ _ _ => (di_seq2 (dcl (cal_ages_within B) (hr.mono (by decide)) takesN (DAs.cons (DA.v (dv 1)) DAs.nil)) rfl)) (fun _ _ _ _ _ _ => (dg_name (i := 2) rfl sc_ages_among.nd rfl (by first | exact Or.inl rfl | exact Or.inr rfl))) (fun _ _ _ _ _ _ => dts_nil) rfl (fun _ _ _ _ _ _ => (dv 2))).pe)))
theorem cal_ages_among (B : Hd K mg) : Cal P w K mg base (xrD K) "ages_among" 6 false 1 [] m_ages_among [] := (ok_ages_among B).cal fun _ _ _ _ _ _ us hl => match us, hl with | [_], _ => rfl
theorem sc_are_within_limits : FnScope ["entries", "source", "statement"] ["entries"] (defScope s_are_within_limits) := ⟨rfl, rfl, rfl, by decide +kernel, rfl, by decide +kernel, by decide +kernel⟩
def g_are_within_limits : M Fl := (sRet (eAnd (appM [.v (appM [.v (eV 0)] len3D), .v (eC c_MOST_ENTRIES)] leD) (appM [.v (appM [.v (eCall m_ages_among [] [.v (eNew (eLc (iSeq2 (eV 0)) [1, 2] (gTup 2 (gsC (gV 1) (gsC (gV 2) gsN))) tTrue (eV 2)))] [])] len3D), .v (eC c_MOST_AGES)] leD)))
def m_are_within_limits : Fn := mkFn false 3 [] g_are_within_limits
theorem ok_are_within_limits (B : Hd K mg) : Okf P w K mg base (xrD K) "are_within_limits" s_are_within_limits [] 8 false ["entries"] [] m_are_within_limits :=
  okf_mk (k := 7) (N := ["entries", "source", "statement"]) (ps := ["entries"]) (nw := false) (O := fun i => ([] : List Nat).contains i) (g := g_are_within_limits) B.f_are_within_limits sc_are_within_limits (by decide) (by decide) (by decide) fun f cdv A outer s H E F0 R A0 hr =>
  (dss_one (ds_ret (de_and (de_cmp op_leX le_ok (DA.v (de_callB call_len3 len3_ok (by rfl) B.b_len (by decide +kernel) (DAs.cons (DA.v (dv 0)) DAs.nil))) (DA.v (dgc B.c_MOST_ENTRIES)) (nomark _)) (de_one (de_cmp op_leX le_ok (DA.v (de_callB call_len3 len3_ok (by rfl) B.b_len (by decide +kernel) (DAs.cons (DA.v (dcl (cal_ages_among B) (hr.mono (by decide)) (L2N.takes_of rfl rfl rfl rfl) (DAs.cons (DA.v (df_e (dc_lc (own := [("source", 1), ("statement", 2)]) rfl sc_are_within_limits.nd (di_seq2 (dv 0) rfl) (blkOk_by (by kernel_rfl)) (free_of rfl) (sub_of rfl) (fun _ _ _ _ _ _ => (dg_tup rfl rfl (dgs_cons (dg_name (i := 1) rfl sc_are_within_limits.nd rfl (by first | exact Or.inl rfl | exact Or.inr rfl)) (dgs_cons (dg_name (i := 2) rfl sc_are_within_limits.nd rfl (by first | exact Or.inl rfl | exact Or.inr rfl)) dgs_nil)))) (fun _ _ _ _ _ _ => dts_nil) (fun _ _ _ _ _ _ => (dv 2))).pe)) DAs.nil))) DAs.nil))) (DA.v (dgc B.c_MOST_AGES)) (nomark _))) rfl)))
theorem cal_are_within_limits (B : Hd K mg) : Cal P w K mg base (xrD K) "are_within_limits" 8 false 1 [] m_are_within_limits [] := (ok_are_within_limits B).cal fun _ _ _ _ _ _ us hl => match us, hl with | [_], _ => rfl
theorem sc_is_tuple_of : FnScope ["value", "least", "most"] ["value", "least", "most"] (defScope s_is_tuple_of) := ⟨rfl, rfl, rfl, by decide +kernel, rfl, by decide +kernel, by decide +kernel⟩
def g_is_tuple_of : M Fl := (sRet (eAnd (appM [.v (eV 0), .v (eC (.ty "tuple"))] isiD) (eChain (eV 1) (appM [.v (eV 0)] len3D) (eV 2) leD leD)))
def m_is_tuple_of : Fn := mkFn false 3 [] g_is_tuple_of
theorem ok_is_tuple_of (B : Hd K mg) : Okf P w K mg base (xrD K) "is_tuple_of" s_is_tuple_of [] 2 false ["value", "least", "most"] [] m_is_tuple_of :=
  okf_mk (k := 1) (N := ["value", "least", "most"]) (ps := ["value", "least", "most"]) (nw := false) (O := fun i => ([] : List Nat).contains i) (g := g_is_tuple_of) B.f_is_tuple_of sc_is_tuple_of (by decide) (by decide) (by decide) fun f cdv A outer s H E F0 R A0 hr =>
  (dss_one (ds_ret (de_and (de_callB call_isi isi_ok (by rfl) B.b_isinstance (by decide +kernel) (DAs.cons (DA.v (dv 0)) (DAs.cons (DA.v (de_ty (n := "tuple") (by rfl) B.b_tuple (by decide +kernel))) DAs.nil))) (de_one (de_chain op_leX op_leX le_ok le_ok (dv 1) (de_callB call_len3 len3_ok (by rfl) B.b_len (by decide +kernel) (DAs.cons (DA.v (dv 0)) DAs.nil)) (dv 2))) rfl)))
theorem cal_is_tuple_of (B : Hd K mg) : Cal P w K mg base (xrD K) "is_tuple_of" 2 false 3 [] m_is_tuple_of [] := (ok_is_tuple_of B).cal fun _ _ _ _ _ _ us hl => match us, hl with | [_, _, _], _ => rfl
theorem sc_is_ascending : FnScope ["rows", "at"] ["rows"] (defScope s_is_ascending) := ⟨rfl, rfl, rfl, by decide +kernel, rfl, by decide +kernel, by decide +kernel⟩
def g_is_ascending : M Fl := (sRet (appM [.v (eNew (eLc (iRange1 (appM [.v (appM [.v (eV 0)] len3D), .v (eC (.int 1))] subD)) [1] (gV 1) tTrue (appM [.v (appM [.v (eV 0), .v (eV 1)] ix2D), .v (appM [.v (eV 0), .v (appM [.v (eV 1), .v (eC (.int 1))] addD)] ix2D)] ltD)))] allD))
def m_is_ascending : Fn := mkFn false 2 [] g_is_ascending
theorem ok_is_ascending (B : Hd K mg) : Okf P w K mg base (xrD K) "is_ascending" s_is_ascending [] 2 false ["rows"] [] m_is_ascending :=
  okf_mk (k := 1) (N := ["rows", "at"]) (ps := ["rows"]) (nw := false) (O := fun i => ([] : List Nat).contains i) (g := g_is_ascending) B.f_is_ascending sc_is_ascending (by decide) (by decide) (by decide) fun f cdv A outer s H E F0 R A0 hr =>
  (dss_one (ds_ret (de_callB (cr_all rfl) all_ok (by rfl) B.b_all (by decide +kernel) (DAs.cons (DA.v (df_e (dc_lc (own := [("at", 1)]) rfl sc_is_ascending.nd (di_range1 (by rfl) B.b_range (de_op op_sub sub_ok (DA.v (de_callB call_len3 len3_ok (by rfl) B.b_len (by decide +kernel) (DAs.cons (DA.v (dv 0)) DAs.nil))) (DA.v de_int))) (blkOk_by (by kernel_rfl)) (free_of rfl) (sub_of rfl) (fun _ _ _ _ _ _ => (dg_name (i := 1) rfl sc_is_ascending.nd rfl (by first | exact Or.inl rfl | exact Or.inr rfl))) (fun _ _ _ _ _ _ => dts_nil) (fun _ _ _ _ _ _ => (de_cmp op_ltX lt_ok (DA.v (de_ix (ix_two (hu64 hr)) ix2_ok (DA.v (dv 0)) (DA.v (dv 1)) (fun _ _ => rfl))) (DA.v (de_ix (ix_two (hu64 hr)) ix2_ok (DA.v (dv 0)) (DA.v (de_op op_addD add_ok (DA.v (dv 1)) (DA.v de_int))) (fun _ _ => rfl))) (nomark _)))).pe)) DAs.nil))))
theorem cal_is_ascending (B : Hd K mg) : Cal P w K mg base (xrD K) "is_ascending" 2 false 1 [] m_is_ascending [] := (ok_is_ascending B).cal fun _ _ _ _ _ _ us hl => match us, hl with | [_], _ => rfl
theorem sc_is_kind : FnScope ["value", "sign"] ["value"] (defScope s_is_kind) := ⟨rfl, rfl, rfl, by decide +kernel, rfl, by decide +kernel, by decide +kernel⟩
def g_is_kind : M Fl := (sSeq (sIf (tOrM (tNotM (eTru (appM [.v (eV 0), .v (eC (.ty "str"))] isiD))) (tNotM (eTst (eChain (eC (.int 1)) (appM [.v (eV 0)] len3D) (eC c_MOST_SIGNS) leD leD)))) (sRet (eC (.bl false))) sNx)
  (sRet (eAnd (eChain (eC (.str "a")) (appM [.v (eV 0), .v (eC (.int 0))] ix2D) (eC (.str "z")) leD leD) (appM [.v (eNew (eLc (iSeq2 (eV 0)) [1] (gV 1) tTrue (eOr (eChain (eC (.str "a")) (eV 1) (eC (.str "z")) leD leD) (eChain (eC (.str "0")) (eV 1) (eC (.str "9")) leD leD))))] allD))))
def m_is_kind : Fn := mkFn false 2 [] g_is_kind
theorem ok_is_kind (B : Hd K mg) : Okf P w K mg base (xrD K) "is_kind" s_is_kind [] 2 false ["value"] [] m_is_kind :=
  okf_mk (k := 1) (N := ["value", "sign"]) (ps := ["value"]) (nw := false) (O := fun i => ([] : List Nat).contains i) (g := g_is_kind) B.f_is_kind sc_is_kind (by decide) (by decide) (by decide) fun f cdv A outer s H E F0 R A0 hr =>
  (dss_cons (ds_if (dt_w (dw_or (dt_not (dt_truth (de_callB call_isi isi_ok (by rfl) B.b_isinstance (by decide +kernel) (DAs.cons (DA.v (dv 0)) (DAs.cons (DA.v (de_ty (n := "str") (by rfl) B.b_str (by decide +kernel))) DAs.nil))) rfl)) (dw_or1 (dt_not (dt_chain op_leX op_leX le_ok le_ok de_int (de_callB call_len3 len3_ok (by rfl) B.b_len (by decide +kernel) (DAs.cons (DA.v (dv 0)) DAs.nil)) (dgc B.c_MOST_SIGNS)))))) (dss_one (ds_ret de_bl)) dss_nil)
  (dss_one (ds_ret (de_and (de_chain op_leX op_leX le_ok le_ok de_str (de_ix (ix_two (hu64 hr)) ix2_ok (DA.v (dv 0)) (DA.v de_int) (fun _ _ => rfl)) de_str) (de_one (de_callB (cr_all rfl) all_ok (by rfl) B.b_all (by decide +kernel) (DAs.cons (DA.v (df_e (dc_lc (own := [("sign", 1)]) rfl sc_is_kind.nd (di_seq2 (dv 0) rfl) (blkOk_by (by kernel_rfl)) (free_of rfl) (sub_of rfl) (fun _ _ _ _ _ _ => (dg_name (i := 1) rfl sc_is_kind.nd rfl (by first | exact Or.inl rfl | exact Or.inr rfl))) (fun _ _ _ _ _ _ => dts_nil) (fun _ _ _ _ _ _ => (de_or (de_chain op_leX op_leX le_ok le_ok de_str (dv 1) de_str) (de_one (de_chain op_leX op_leX le_ok le_ok de_str (dv 1) de_str)) rfl))).pe)) DAs.nil))) rfl))))
theorem cal_is_kind (B : Hd K mg) : Cal P w K mg base (xrD K) "is_kind" 2 false 1 [] m_is_kind [] := (ok_is_kind B).cal fun _ _ _ _ _ _ us hl => match us, hl with | [_], _ => rfl
theorem sc_is_kind_row : FnScope ["value", "least", "one"] ["value", "least"] (defScope s_is_kind_row) := ⟨rfl, rfl, rfl, by decide +kernel, rfl, by decide +kernel, by decide +kernel⟩
def g_is_kind_row : M Fl := (sRet (eAnd (eCall m_is_tuple_of [] [.v (eV 0), .v (eV 1), .v (eC c_MOST_KINDS)] []) (eAnd (appM [.v (eNew (eLc (iSeq2 (eV 0)) [2] (gV 2) tTrue (eCall m_is_kind [] [.v (eV 2)] [])))] allD) (eCall m_is_ascending [] [.v (eV 0)] []))))
def m_is_kind_row : Fn := mkFn false 3 [] g_is_kind_row
theorem ok_is_kind_row (B : Hd K mg) : Okf P w K mg base (xrD K) "is_kind_row" s_is_kind_row [] 4 false ["value", "least"] [] m_is_kind_row :=
  okf_mk (k := 3) (N := ["value", "least", "one"]) (ps := ["value", "least"]) (nw := false) (O := fun i => ([] : List Nat).contains i) (g := g_is_kind_row) B.f_is_kind_row sc_is_kind_row (by decide) (by decide) (by decide) fun f cdv A outer s H E F0 R A0 hr =>
  (dss_one (ds_ret (de_and (dcl (cal_is_tuple_of B) (hr.mono (by decide)) (L2N.takes_of rfl rfl rfl rfl) (DAs.cons (DA.v (dv 0)) (DAs.cons (DA.v (dv 1)) (DAs.cons (DA.v (dgc B.c_MOST_KINDS)) DAs.nil)))) (de_and (de_callB (cr_all rfl) all_ok (by rfl) B.b_all (by decide +kernel) (DAs.cons (DA.v (df_e (dc_lc (own := [("one", 2)]) rfl sc_is_kind_row.nd (di_seq2 (dv 0) rfl) (blkOk_by (by kernel_rfl)) (free_of rfl) (sub_of rfl) (fun _ _ _ _ _ _ => (dg_name (i := 2) rfl sc_is_kind_row.nd rfl (by first | exact Or.inl rfl | exact Or.inr rfl))) (fun _ _ _ _ _ _ => dts_nil) (fun _ _ _ _ _ _ => (dcl (cal_is_kind B) (hr.mono (by decide)) takesN (DAs.cons (DA.v (dv 2)) DAs.nil)))).pe)) DAs.nil)) (de_one (dcl (cal_is_ascending B) (hr.mono (by decide)) (L2N.takes_of rfl rfl rfl rfl) (DAs.cons (DA.v (dv 0)) DAs.nil))) rfl) rfl)))
theorem cal_is_kind_row (B : Hd K mg) : Cal P w K mg base (xrD K) "is_kind_row" 4 false 2 [] m_is_kind_row [] := (ok_is_kind_row B).cal fun _ _ _ _ _ _ us hl => match us, hl with | [_, _], _ => rfl
theorem sc_is_kinds : FnScope ["value"] ["value"] (defScope s_is_kinds) := ⟨rfl, rfl, rfl, by decide +kernel, rfl, by decide +kernel, by decide +kernel⟩
def g_is_kinds : M Fl := (sRet (eCall m_is_kind_row [] [.v (eV 0), .v (eC (.int 1))] []))
def m_is_kinds : Fn := mkFn false 1 [] g_is_kinds
theorem ok_is_kinds (B : Hd K mg) : Okf P w K mg base (xrD K) "is_kinds" s_is_kinds [] 6 false ["value"] [] m_is_kinds :=
  okf_mk (k := 5) (N := ["value"]) (ps := ["value"]) (nw := false) (O := fun i => ([] : List Nat).contains i) (g := g_is_kinds) B.f_is_kinds sc_is_kinds (by decide) (by decide) (by decide) fun f cdv A outer s H E F0 R A0 hr =>
  (dss_one (ds_ret (dcl (cal_is_kind_row B) (hr.mono (by decide)) (L2N.takes_of rfl rfl rfl rfl) (DAs.cons (DA.v (dv 0)) (DAs.cons (DA.v de_int) DAs.nil)))))
theorem cal_is_kinds (B : Hd K mg) : Cal P w K mg base (xrD K) "is_kinds" 6 false 1 [] m_is_kinds [] := (ok_is_kinds B).cal fun _ _ _ _ _ _ us hl => match us, hl with | [_], _ => rfl
theorem sc_without_doubles : FnScope ["rows", "found", "row"] ["rows"] (defScope s_without_doubles) := ⟨rfl, rfl, rfl, by decide +kernel, rfl, by decide +kernel, by decide +kernel⟩
def g_without_doubles : M Fl := (sSeq (sAsgO 1 eDct0)
  (sSeq (sFor (iSeq2 (eV 0)) (gV 2) (sPutI 1 (eV 2) (eC (.bl true))))
  (sRet (appM [.p 1] list2D))))
def m_without_doubles : Fn := mkFn false 3 [] g_without_doubles
theorem ok_without_doubles (B : Hd K mg) : Okf P w K mg base (xrD K) "without_doubles" s_without_doubles [] 2 false ["rows"] [] m_without_doubles :=
  okf_mk (k := 1) (N := ["rows", "found", "row"]) (ps := ["rows"]) (nw := false) (O := fun i => ([1] : List Nat).contains i) (g := g_without_doubles) B.f_without_doubles sc_without_doubles (by decide) (by decide) (by decide) fun f cdv A outer s H E F0 R A0 hr =>
  (dss_cons (ds_asgO (i := 1) rfl rfl df_dct0 sc_without_doubles.nd rfl (by first | exact Or.inl rfl | exact Or.inr rfl))
  (dss_cons (ds_for (passes_of rfl) rfl (di_seq2 (dv 0) rfl) (dg_name (i := 2) rfl sc_without_doubles.nd rfl (by first | exact Or.inl rfl | exact Or.inr rfl)) (dss_one (ds_putI rfl rfl rfl de_bl (pg_sub (pv 1) (dv 2) (set_any (hu64 hr))))))
  (dss_one (ds_ret (de_callTy (call_list2 rfl) list2_ok (by rfl) B.b_list (by decide +kernel) (DAs.cons (dp 1) DAs.nil))))))
theorem cal_without_doubles (B : Hd K mg) : Cal P w K mg base (xrD K) "without_doubles" 2 false 1 [] m_without_doubles [] := (ok_without_doubles B).cal fun _ _ _ _ _ _ us hl => match us, hl with | [_], _ => rfl
theorem sc_is_within : FnScope ["some", "many", "one"] ["some", "many"] (defScope s_is_within) := ⟨rfl, rfl, rfl, by decide +kernel, rfl, by decide +kernel, by decide +kernel⟩
def g_is_within : M Fl := (sRet (appM [.v (eNew (eLc (iSeq2 (eV 0)) [2] (gV 2) tTrue (appM [.v (eV 2), .v (eV 1)] in3D)))] allD))
def m_is_within : Fn := mkFn false 3 [] g_is_within
theorem ok_is_within (B : Hd K mg) : Okf P w K mg base (xrD K) "is_within" s_is_within [] 2 false ["some", "many"] [] m_is_within :=
  okf_mk (k := 1) (N := ["some", "many", "one"]) (ps := ["some", "many"]) (nw := false) (O := fun i => ([] : List Nat).contains i) (g := g_is_within) B.f_is_within sc_is_within (by decide) (by decide) (by decide) fun f cdv A outer s H E F0 R A0 hr =>
  (dss_one (ds_ret (de_callB (cr_all rfl) all_ok (by rfl) B.b_all (by decide +kernel) (DAs.cons (DA.v (df_e (dc_lc (own := [("one", 2)]) rfl sc_is_within.nd (di_seq2 (dv 0) rfl) (blkOk_by (by kernel_rfl)) (free_of rfl) (sub_of rfl) (fun _ _ _ _ _ _ => (dg_name (i := 2) rfl sc_is_within.nd rfl (by first | exact Or.inl rfl | exact Or.inr rfl))) (fun _ _ _ _ _ _ => dts_nil) (fun _ _ _ _ _ _ => (de_cmp (op_in3 (hu65 hr)) in3_ok (DA.v (dv 2)) (DA.v (dv 1)) (by rfl)))).pe)) DAs.nil))))
theorem cal_is_within (B : Hd K mg) : Cal P w K mg base (xrD K) "is_within" 2 false 2 [] m_is_within [] := (ok_is_within B).cal fun _ _ _ _ _ _ us hl => match us, hl with | [_, _], _ => rfl
theorem sc_kinds_within : FnScope ["statement", "term", "kind"] ["statement"] (defScope s_kinds_within) := ⟨rfl, rfl, rfl, by decide +kernel, rfl, by decide +kernel, by decide +kernel⟩
def g_kinds_within : M Fl := (sSeq (sIf (eTst (appM [.v (appM [.v (eV 0), .v (eC (.int 0))] ix2D), .v (eC (.str "group"))] eqD)) (sRet (appM [.v (appM [.v (eV 0), .v (eC (.int 1))] ix2D)] list2D)) sNx)
  (sSeq (sIf (eTst (appM [.v (appM [.v (eV 0), .v (eC (.int 0))] ix2D), .v (eC (.str "mark"))] eqD)) (sRet (appM [.v (appM [.v (appM [.v (eV 0), .v (eC (.int 1))] ix2D), .v (appM [.v (eV 0), .v (eC (.int 2))] ix2D)] addD)] list2D)) sNx)
  (sRet (eNew (eCp (iSeq2 (appM [.v (eV 0), .v (asInt (eC (.int 1)))] slDlo)) [1, 2] (gV 1) (eTst (appM [.v (appM [.v (eV 1), .v (eC (.int 0))] ix2D), .v (eC (.str "parting"))] eqD)) (clB (iSeq2 (appM [.v (eV 1), .v (asInt (eC (.int 1)))] slDlo)) [2] (gV 2) tTrue (emL (eV 2))) (.lst []))))))
def m_kinds_within : Fn := mkFn false 3 [] g_kinds_within
theorem ok_kinds_within (B : Hd K mg) : Okf P w K mg base (xrD K) "kinds_within" s_kinds_within [] 2 false ["statement"] [] m_kinds_within :=
  okf_mk (k := 1) (N := ["statement", "term", "kind"]) (ps := ["statement"]) (nw := false) (O := fun i => ([] : List Nat).contains i) (g := g_kinds_within) B.f_kinds_within sc_kinds_within (by decide) (by decide) (by decide) fun f cdv A outer s H E F0 R A0 hr =>
  (dss_cons (ds_if (dt_cmp (op_eqX (hu64 hr)) eq_ok (DA.v (de_ix (ix_two (hu64 hr)) ix2_ok (DA.v (dv 0)) (DA.v de_int) (fun _ _ => rfl))) (DA.v de_str) (nomark _)) (dss_one (ds_ret (de_callTy (call_list2 rfl) list2_ok (by rfl) B.b_list (by decide +kernel) (DAs.cons (DA.v (de_ix (ix_two (hu64 hr)) ix2_ok (DA.v (dv 0)) (DA.v de_int) (fun _ _ => rfl))) DAs.nil)))) dss_nil)
  (dss_cons (ds_if (dt_cmp (op_eqX (hu64 hr)) eq_ok (DA.v (de_ix (ix_two (hu64 hr)) ix2_ok (DA.v (dv 0)) (DA.v de_int) (fun _ _ => rfl))) (DA.v de_str) (nomark _)) (dss_one (ds_ret (de_callTy (call_list2 rfl) list2_ok (by rfl) B.b_list (by decide +kernel) (DAs.cons (DA.v (de_op op_addD add_ok (DA.v (de_ix (ix_two (hu64 hr)) ix2_ok (DA.v (dv 0)) (DA.v de_int) (fun _ _ => rfl))) (DA.v (de_ix (ix_two (hu64 hr)) ix2_ok (DA.v (dv 0)) (DA.v de_int) (fun _ _ => rfl))))) DAs.nil)))) dss_nil)
  (dss_one (ds_ret (df_e (dc_l2 (own := [("term", 1), ("kind", 2)]) rfl sc_kinds_within.nd (di_seq2 (de_slLo (DA.v (dv 0)) de_int rfl) rfl) (blkOk_by (by kernel_rfl)) (free_of rfl) (sub_of rfl) (fun _ _ _ _ _ _ => (dg_name (i := 1) rfl sc_kinds_within.nd rfl (by first | exact Or.inl rfl | exact Or.inr rfl))) (fun _ _ _ _ _ _ => (dts_one (dt_cmp (op_eqX (hu64 hr)) eq_ok (DA.v (de_ix (ix_two (hu64 hr)) ix2_ok (DA.v (dv 1)) (DA.v de_int) (fun _ _ => rfl))) (DA.v de_str) (nomark _)))) (vs1 := [2]) (free_of rfl) (sub_of rfl) (sub_of rfl) (fun _ _ _ _ _ _ => (di_seq2 (de_slLo (DA.v (dv 1)) de_int rfl) rfl)) (fun _ _ _ _ _ _ => (dg_name (i := 2) rfl sc_kinds_within.nd rfl (by first | exact Or.inl rfl | exact Or.inr rfl))) (fun _ _ _ _ _ _ => dts_nil) (fun _ _ _ _ _ _ => (dv 2))).pe)))))
theorem cal_kinds_within (B : Hd K mg) : Cal P w K mg base (xrD K) "kinds_within" 2 false 1 [] m_kinds_within [] := (ok_kinds_within B).cal fun _ _ _ _ _ _ us hl => match us, hl with | [_], _ => rfl
theorem sc_is_integer : FnScope ["value"] ["value"] (defScope s_is_integer) := ⟨rfl, rfl, rfl, by decide +kernel, rfl, by decide +kernel, by decide +kernel⟩
def g_is_integer : M Fl := (sRet (eAnd (appM [.v (eV 0), .v (eC (.ty "int"))] isiD) (appM [.v (appM [.v (eV 0), .v (eC (.ty "bool"))] isiD)] notD)))
def m_is_integer : Fn := mkFn false 1 [] g_is_integer
theorem ok_is_integer (B : Hd K mg) : Okf P w K mg base (xrD K) "is_integer" s_is_integer [] 2 false ["value"] [] m_is_integer :=
  okf_mk (k := 1) (N := ["value"]) (ps := ["value"]) (nw := false) (O := fun i => ([] : List Nat).contains i) (g := g_is_integer) B.f_is_integer sc_is_integer (by decide) (by decide) (by decide) fun f cdv A outer s H E F0 R A0 hr =>
  (dss_one (ds_ret (de_and (de_callB call_isi isi_ok (by rfl) B.b_isinstance (by decide +kernel) (DAs.cons (DA.v (dv 0)) (DAs.cons (DA.v (de_ty (n := "int") (by rfl) B.b_int (by decide +kernel))) DAs.nil))) (de_one (de_not (DA.v (de_callB call_isi isi_ok (by rfl) B.b_isinstance (by decide +kernel) (DAs.cons (DA.v (dv 0)) (DAs.cons (DA.v (de_ty (n := "bool") (by rfl) B.b_bool (by decide +kernel))) DAs.nil)))) rfl)) rfl)))
theorem cal_is_integer (B : Hd K mg) : Cal P w K mg base (xrD K) "is_integer" 2 false 1 [] m_is_integer [] := (ok_is_integer B).cal fun _ _ _ _ _ _ us hl => match us, hl with | [_], _ => rfl
theorem sc_is_from_to : FnScope ["value", "least", "most"] ["value", "least", "most"] (defScope s_is_from_to) := ⟨rfl, rfl, rfl, by decide +kernel, rfl, by decide +kernel, by decide +kernel⟩
def g_is_from_to : M Fl := (sRet (eAnd (eCall m_is_integer [] [.v (eV 0)] []) (eChain (eV 1) (eV 0) (eV 2) leD leD)))
def m_is_from_to : Fn := mkFn false 3 [] g_is_from_to
theorem ok_is_from_to (B : Hd K mg) : Okf P w K mg base (xrD K) "is_from_to" s_is_from_to [] 4 false ["value", "least", "most"] [] m_is_from_to :=
  okf_mk (k := 3) (N := ["value", "least", "most"]) (ps := ["value", "least", "most"]) (nw := false) (O := fun i => ([] : List Nat).contains i) (g := g_is_from_to) B.f_is_from_to sc_is_from_to (by decide) (by decide) (by decide) fun f cdv A outer s H E F0 R A0 hr =>
  (dss_one (ds_ret (de_and (dcl (cal_is_integer B) (hr.mono (by decide)) (L2N.takes_of rfl rfl rfl rfl) (DAs.cons (DA.v (dv 0)) DAs.nil)) (de_one (de_chain op_leX op_leX le_ok le_ok (dv 1) (dv 0) (dv 2))) rfl)))
theorem cal_is_from_to (B : Hd K mg) : Cal P w K mg base (xrD K) "is_from_to" 4 false 3 [] m_is_from_to [] := (ok_is_from_to B).cal fun _ _ _ _ _ _ us hl => match us, hl with | [_, _, _], _ => rfl
theorem sc_is_source : FnScope ["value"] ["value"] (defScope s_is_source) := ⟨rfl, rfl, rfl, by decide +kernel, rfl, by decide +kernel, by decide +kernel⟩
def g_is_source : M Fl := (sRet (eCall m_is_from_to [] [.v (eV 0), .v (eC (.int 0)), .v (eC c_MOST_SOURCE)] []))
def m_is_source : Fn := mkFn false 1 [] g_is_source
theorem ok_is_source (B : Hd K mg) : Okf P w K mg base (xrD K) "is_source" s_is_source [] 6 false ["value"] [] m_is_source :=
  okf_mk (k := 5) (N := ["value"]) (ps := ["value"]) (nw := false) (O := fun i => ([] : List Nat).contains i) (g := g_is_source) B.f_is_source sc_is_source (by decide) (by decide) (by decide) fun f cdv A outer s H E F0 R A0 hr =>
  (dss_one (ds_ret (dcl (cal_is_from_to B) (hr.mono (by decide)) (L2N.takes_of rfl rfl rfl rfl) (DAs.cons (DA.v (dv 0)) (DAs.cons (DA.v de_int) (DAs.cons (DA.v (dgc B.c_MOST_SOURCE)) DAs.nil))))))
theorem cal_is_source (B : Hd K mg) : Cal P w K mg base (xrD K) "is_source" 6 false 1 [] m_is_source [] := (ok_is_source B).cal fun _ _ _ _ _ _ us hl => match us, hl with | [_], _ => rfl
theorem sc_is_group : FnScope ["value"] ["value"] (defScope s_is_group) := ⟨rfl, rfl, rfl, by decide +kernel, rfl, by decide +kernel, by decide +kernel⟩
def g_is_group : M Fl := (sRet (eCall m_is_kind_row [] [.v (eV 0), .v (eC (.int 2))] []))
def m_is_group : Fn := mkFn false 1 [] g_is_group
theorem ok_is_group (B : Hd K mg) : Okf P w K mg base (xrD K) "is_group" s_is_group [] 6 false ["value"] [] m_is_group :=
  okf_mk (k := 5) (N := ["value"]) (ps := ["value"]) (nw := false) (O := fun i => ([] : List Nat).contains i) (g := g_is_group) B.f_is_group sc_is_group (by decide) (by decide) (by decide) fun f cdv A outer s H E F0 R A0 hr =>
  (dss_one (ds_ret (dcl (cal_is_kind_row B) (hr.mono (by decide)) (L2N.takes_of rfl rfl rfl rfl) (DAs.cons (DA.v (dv 0)) (DAs.cons (DA.v de_int) DAs.nil)))))
theorem cal_is_group (B : Hd K mg) : Cal P w K mg base (xrD K) "is_group" 6 false 1 [] m_is_group [] := (ok_is_group B).cal fun _ _ _ _ _ _ us hl => match us, hl with | [_], _ => rfl
theorem sc_is_mark : FnScope ["value", "kind"] ["value"] (defScope s_is_mark) := ⟨rfl, rfl, rfl, by decide +kernel, rfl, by decide +kernel, by decide +kernel⟩
def g_is_mark : M Fl := (sSeq (sIf (tOrM (eTst (appM [.v (appM [.v (eV 0), .v (eC (.int 0))] ix2D), .v (eC (.str "mark"))] neD)) (tOrM (tNotM (eTru (eCall m_is_group [] [.v (appM [.v (eV 0), .v (eC (.int 1))] ix2D)] []))) (tNotM (eTru (eCall m_is_kind_row [] [.v (appM [.v (eV 0), .v (eC (.int 2))] ix2D), .v (eC (.int 0))] []))))) (sRet (eC (.bl false))) sNx)
  (sRet (appM [.v (appM [.v (eNew (eLc (iSeq2 (appM [.v (eV 0), .v (eC (.int 2))] ix2D)) [1] (gV 1) tTrue (appM [.v (eV 1), .v (appM [.v (eV 0), .v (eC (.int 1))] ix2D)] in3D)))] anyD)] notD)))
def m_is_mark : Fn := mkFn false 2 [] g_is_mark
theorem ok_is_mark (B : Hd K mg) : Okf P w K mg base (xrD K) "is_mark" s_is_mark [] 8 false ["value"] [] m_is_mark :=
  okf_mk (k := 7) (N := ["value", "kind"]) (ps := ["value"]) (nw := false) (O := fun i => ([] : List Nat).contains i) (g := g_is_mark) B.f_is_mark sc_is_mark (by decide) (by decide) (by decide) fun f cdv A outer s H E F0 R A0 hr =>
  (dss_cons (ds_if (dt_w (dw_or (dt_cmp (op_neX (hu64 hr)) ne_ok (DA.v (de_ix (ix_two (hu64 hr)) ix2_ok (DA.v (dv 0)) (DA.v de_int) (fun _ _ => rfl))) (DA.v de_str) (nomark _)) (dw_or (dt_not (dt_truth (dcl (cal_is_group B) (hr.mono (by decide)) (L2N.takes_of rfl rfl rfl rfl) (DAs.cons (DA.v (de_ix (ix_two (hu64 hr)) ix2_ok (DA.v (dv 0)) (DA.v de_int) (fun _ _ => rfl))) DAs.nil)) rfl)) (dw_or1 (dt_not (dt_truth (dcl (cal_is_kind_row B) (hr.mono (by decide)) (L2N.takes_of rfl rfl rfl rfl) (DAs.cons (DA.v (de_ix (ix_two (hu64 hr)) ix2_ok (DA.v (dv 0)) (DA.v de_int) (fun _ _ => rfl))) (DAs.cons (DA.v de_int) DAs.nil))) rfl)))))) (dss_one (ds_ret de_bl)) dss_nil)
  (dss_one (ds_ret (de_not (DA.v (de_callB (cr_any rfl) any_ok (by rfl) B.b_any (by decide +kernel) (DAs.cons (DA.v (df_e (dc_lc (own := [("kind", 1)]) rfl sc_is_mark.nd (di_seq2 (de_ix (ix_two (hu64 hr)) ix2_ok (DA.v (dv 0)) (DA.v de_int) (fun _ _ => rfl)) rfl) (blkOk_by (by kernel_rfl)) (free_of rfl) (sub_of rfl) (fun _ _ _ _ _ _ => (dg_name (i := 1) rfl sc_is_mark.nd rfl (by first | exact Or.inl rfl | exact Or.inr rfl))) (fun _ _ _ _ _ _ => dts_nil) (fun _ _ _ _ _ _ => (de_cmp (op_in3 (hu65 hr)) in3_ok (DA.v (dv 1)) (DA.v (de_ix (ix_two (hu64 hr)) ix2_ok (DA.v (dv 0)) (DA.v de_int) (fun _ _ => rfl))) (by rfl)))).pe)) DAs.nil))) rfl))))
theorem cal_is_mark (B : Hd K mg) : Cal P w K mg base (xrD K) "is_mark" 8 false 1 [] m_is_mark [] := (ok_is_mark B).cal fun _ _ _ _ _ _ us hl => match us, hl with | [_], _ => rfl
theorem sc_is_age : FnScope ["value"] ["value"] (defScope s_is_age) := ⟨rfl, rfl, rfl, by decide +kernel, rfl, by decide +kernel, by decide +kernel⟩
def g_is_age : M Fl := (sRet (eCall m_is_from_to [] [.v (eV 0), .v (eC (.int 0)), .v (eC c_MOST_AGE)] []))
def m_is_age : Fn := mkFn false 1 [] g_is_age
theorem ok_is_age (B : Hd K mg) : Okf P w K mg base (xrD K) "is_age" s_is_age [] 6 false ["value"] [] m_is_age :=
  okf_mk (k := 5) (N := ["value"]) (ps := ["value"]) (nw := false) (O := fun i => ([] : List Nat).contains i) (g := g_is_age) B.f_is_age sc_is_age (by decide) (by decide) (by decide) fun f cdv A outer s H E F0 R A0 hr =>
  (dss_one (ds_ret (dcl (cal_is_from_to B) (hr.mono (by decide)) (L2N.takes_of rfl rfl rfl rfl) (DAs.cons (DA.v (dv 0)) (DAs.cons (DA.v de_int) (DAs.cons (DA.v (dgc B.c_MOST_AGE)) DAs.nil))))))
theorem cal_is_age (B : Hd K mg) : Cal P w K mg base (xrD K) "is_age" 6 false 1 [] m_is_age [] := (ok_is_age B).cal fun _ _ _ _ _ _ us hl => match us, hl with | [_], _ => rfl
theorem sc_is_term : FnScope ["value"] ["value"] (defScope s_is_term) := ⟨rfl, rfl, rfl, by decide +kernel, rfl, by decide +kernel, by decide +kernel⟩
def g_is_term : M Fl := (sSeq (sIf (tOrM (tNotM (eTru (eCall m_is_tuple_of [] [.v (eV 0), .v (eC (.int 2)), .v (eC (.int 3))] []))) (tNotM (eTru (appM [.v (appM [.v (eV 0), .v (eC (.int 0))] ix2D), .v (eC (.ty "str"))] isiD)))) (sRet (eC (.bl false))) sNx)
  (sSeq (sIf (eTst (appM [.v (appM [.v (eV 0), .v (eC (.int 0))] ix2D), .v (eC (.str "age"))] eqD)) (sRet (eAnd (appM [.v (appM [.v (eV 0)] len3D), .v (eC (.int 2))] eqD) (eCall m_is_age [] [.v (appM [.v (eV 0), .v (eC (.int 1))] ix2D)] []))) sNx)
  (sRet (eAnd (appM [.v (appM [.v (eV 0), .v (eC (.int 0))] ix2D), .v (eC (.str "parting"))] eqD) (eAnd (appM [.v (appM [.v (eV 0)] len3D), .v (eC (.int 3))] eqD) (eAnd (eCall m_is_kind [] [.v (appM [.v (eV 0), .v (eC (.int 1))] ix2D)] []) (eCall m_is_kind [] [.v (appM [.v (eV 0), .v (eC (.int 2))] ix2D)] [])))))))
def m_is_term : Fn := mkFn false 1 [] g_is_term
theorem ok_is_term (B : Hd K mg) : Okf P w K mg base (xrD K) "is_term" s_is_term [] 8 false ["value"] [] m_is_term :=
  okf_mk (k := 7) (N := ["value"]) (ps := ["value"]) (nw := false) (O := fun i => ([] : List Nat).contains i) (g := g_is_term) B.f_is_term sc_is_term (by decide) (by decide) (by decide) fun f cdv A outer s H E F0 R A0 hr =>
  (dss_cons (ds_if (dt_w (dw_or (dt_not (dt_truth (dcl (cal_is_tuple_of B) (hr.mono (by decide)) (L2N.takes_of rfl rfl rfl rfl) (DAs.cons (DA.v (dv 0)) (DAs.cons (DA.v de_int) (DAs.cons (DA.v de_int) DAs.nil)))) rfl)) (dw_or1 (dt_not (dt_truth (de_callB call_isi isi_ok (by rfl) B.b_isinstance (by decide +kernel) (DAs.cons (DA.v (de_ix (ix_two (hu64 hr)) ix2_ok (DA.v (dv 0)) (DA.v de_int) (fun _ _ => rfl))) (DAs.cons (DA.v (de_ty (n := "str") (by rfl) B.b_str (by decide +kernel))) DAs.nil))) rfl))))) (dss_one (ds_ret de_bl)) dss_nil)
  (dss_cons (ds_if (dt_cmp (op_eqX (hu64 hr)) eq_ok (DA.v (de_ix (ix_two (hu64 hr)) ix2_ok (DA.v (dv 0)) (DA.v de_int) (fun _ _ => rfl))) (DA.v de_str) (nomark _)) (dss_one (ds_ret (de_and (de_cmp (op_eqX (hu64 hr)) eq_ok (DA.v (de_callB call_len3 len3_ok (by rfl) B.b_len (by decide +kernel) (DAs.cons (DA.v (dv 0)) DAs.nil))) (DA.v de_int) (nomark _)) (de_one (dcl (cal_is_age B) (hr.mono (by decide)) (L2N.takes_of rfl rfl rfl rfl) (DAs.cons (DA.v (de_ix (ix_two (hu64 hr)) ix2_ok (DA.v (dv 0)) (DA.v de_int) (fun _ _ => rfl))) DAs.nil))) rfl))) dss_nil)
  (dss_one (ds_ret (de_and (de_cmp (op_eqX (hu64 hr)) eq_ok (DA.v (de_ix (ix_two (hu64 hr)) ix2_ok (DA.v (dv 0)) (DA.v de_int) (fun _ _ => rfl))) (DA.v de_str) (nomark _)) (de_and (de_cmp (op_eqX (hu64 hr)) eq_ok (DA.v (de_callB call_len3 len3_ok (by rfl) B.b_len (by decide +kernel) (DAs.cons (DA.v (dv 0)) DAs.nil))) (DA.v de_int) (nomark _)) (de_and (dcl (cal_is_kind B) (hr.mono (by decide)) (L2N.takes_of rfl rfl rfl rfl) (DAs.cons (DA.v (de_ix (ix_two (hu64 hr)) ix2_ok (DA.v (dv 0)) (DA.v de_int) (fun _ _ => rfl))) DAs.nil)) (de_one (dcl (cal_is_kind B) (hr.mono (by decide)) (L2N.takes_of rfl rfl rfl rfl) (DAs.cons (DA.v (de_ix (ix_two (hu64 hr)) ix2_ok (DA.v (dv 0)) (DA.v de_int) (fun _ _ => rfl))) DAs.nil))) rfl) rfl) rfl)))))
theorem cal_is_term (B : Hd K mg) : Cal P w K mg base (xrD K) "is_term" 8 false 1 [] m_is_term [] := (ok_is_term B).cal fun _ _ _ _ _ _ us hl => match us, hl with | [_], _ => rfl
theorem sc_is_statement : FnScope ["value"] ["value"] (defScope s_is_statement) := ⟨rfl, rfl, rfl, by decide +kernel, rfl, by decide +kernel, by decide +kernel⟩
def g_is_statement : M Fl := (sSeq (sIf (tOrM (tNotM (eTru (eCall m_is_tuple_of [] [.v (eV 0), .v (eC (.int 2)), .v (eC (.int 3))] []))) (tNotM (eTru (appM [.v (appM [.v (eV 0), .v (eC (.int 0))] ix2D), .v (eC (.ty "str"))] isiD)))) (sRet (eC (.bl false))) sNx)
  (sSeq (sIf (eTst (appM [.v (appM [.v (eV 0)] len3D), .v (eC (.int 2))] eqD)) (sRet (eAnd (appM [.v (appM [.v (eV 0), .v (eC (.int 0))] ix2D), .v (eC (.str "group"))] eqD) (eCall m_is_group [] [.v (appM [.v (eV 0), .v (eC (.int 1))] ix2D)] []))) sNx)
  (sSeq (sIf (eTst (appM [.v (appM [.v (eV 0), .v (eC (.int 0))] ix2D), .v (eC c_PLAIN)] in3D)) (sRet (eAnd (eCall m_is_term [] [.v (appM [.v (eV 0), .v (eC (.int 1))] ix2D)] []) (eCall m_is_term [] [.v (appM [.v (eV 0), .v (eC (.int 2))] ix2D)] []))) sNx)
  (sRet (eCall m_is_mark [] [.v (eV 0)] [])))))
def m_is_statement : Fn := mkFn false 1 [] g_is_statement
theorem ok_is_statement (B : Hd K mg) : Okf P w K mg base (xrD K) "is_statement" s_is_statement [] 10 false ["value"] [] m_is_statement :=
  okf_mk (k := 9) (N := ["value"]) (ps := ["value"]) (nw := false) (O := fun i => ([] : List Nat).contains i) (g := g_is_statement) B.f_is_statement sc_is_statement (by decide) (by decide) (by decide) fun f cdv A outer s H E F0 R A0 hr =>
  (dss_cons (ds_if (dt_w (dw_or (dt_not (dt_truth (dcl (cal_is_tuple_of B) (hr.mono (by decide)) (L2N.takes_of rfl rfl rfl rfl) (DAs.cons (DA.v (dv 0)) (DAs.cons (DA.v de_int) (DAs.cons (DA.v de_int) DAs.nil)))) rfl)) (dw_or1 (dt_not (dt_truth (de_callB call_isi isi_ok (by rfl) B.b_isinstance (by decide +kernel) (DAs.cons (DA.v (de_ix (ix_two (hu64 hr)) ix2_ok (DA.v (dv 0)) (DA.v de_int) (fun _ _ => rfl))) (DAs.cons (DA.v (de_ty (n := "str") (by rfl) B.b_str (by decide +kernel))) DAs.nil))) rfl))))) (dss_one (ds_ret de_bl)) dss_nil)
  (dss_cons (ds_if (dt_cmp (op_eqX (hu64 hr)) eq_ok (DA.v (de_callB call_len3 len3_ok (by rfl) B.b_len (by decide +kernel) (DAs.cons (DA.v (dv 0)) DAs.nil))) (DA.v de_int) (nomark _)) (dss_one (ds_ret (de_and (de_cmp (op_eqX (hu64 hr)) eq_ok (DA.v (de_ix (ix_two (hu64 hr)) ix2_ok (DA.v (dv 0)) (DA.v de_int) (fun _ _ => rfl))) (DA.v de_str) (nomark _)) (de_one (dcl (cal_is_group B) (hr.mono (by decide)) (L2N.takes_of rfl rfl rfl rfl) (DAs.cons (DA.v (de_ix (ix_two (hu64 hr)) ix2_ok (DA.v (dv 0)) (DA.v de_int) (fun _ _ => rfl))) DAs.nil))) rfl))) dss_nil)
  (dss_cons (ds_if (dt_cmp (op_in3 (hu65 hr)) in3_ok (DA.v (de_ix (ix_two (hu64 hr)) ix2_ok (DA.v (dv 0)) (DA.v de_int) (fun _ _ => rfl))) (DA.v (dgc B.c_PLAIN)) (by rfl)) (dss_one (ds_ret (de_and (dcl (cal_is_term B) (hr.mono (by decide)) (L2N.takes_of rfl rfl rfl rfl) (DAs.cons (DA.v (de_ix (ix_two (hu64 hr)) ix2_ok (DA.v (dv 0)) (DA.v de_int) (fun _ _ => rfl))) DAs.nil)) (de_one (dcl (cal_is_term B) (hr.mono (by decide)) (L2N.takes_of rfl rfl rfl rfl) (DAs.cons (DA.v (de_ix (ix_two (hu64 hr)) ix2_ok (DA.v (dv 0)) (DA.v de_int) (fun _ _ => rfl))) DAs.nil))) rfl))) dss_nil)
  (dss_one (ds_ret (dcl (cal_is_mark B) (hr.mono (by decide)) (L2N.takes_of rfl rfl rfl rfl) (DAs.cons (DA.v (dv 0)) DAs.nil)))))))
theorem cal_is_statement (B : Hd K mg) : Cal P w K mg base (xrD K) "is_statement" 10 false 1 [] m_is_statement [] := (ok_is_statement B).cal fun _ _ _ _ _ _ us hl => match us, hl with | [_], _ => rfl
theorem sc_is_entry : FnScope ["kinds", "value"] ["kinds", "value"] (defScope s_is_entry) := ⟨rfl, rfl, rfl, by decide +kernel, rfl, by decide +kernel, by decide +kernel⟩
def g_is_entry : M Fl := (sSeq (sIf (tOrM (tNotM (eTru (eCall m_is_tuple_of [] [.v (eV 1), .v (eC (.int 2)), .v (eC (.int 2))] []))) (tOrM (tNotM (eTru (eCall m_is_source [] [.v (appM [.v (eV 1), .v (eC (.int 0))] ix2D)] []))) (tNotM (eTru (eCall m_is_statement [] [.v (appM [.v (eV 1), .v (eC (.int 1))] ix2D)] []))))) (sRet (eC (.bl false))) sNx)
  (sRet (eCall m_is_within [] [.v (eCall m_kinds_within [] [.v (appM [.v (eV 1), .v (eC (.int 1))] ix2D)] []), .v (eV 0)] [])))
def m_is_entry : Fn := mkFn false 2 [] g_is_entry
theorem ok_is_entry (B : Hd K mg) : Okf P w K mg base (xrD K) "is_entry" s_is_entry [] 12 false ["kinds", "value"] [] m_is_entry :=
  okf_mk (k := 11) (N := ["kinds", "value"]) (ps := ["kinds", "value"]) (nw := false) (O := fun i => ([] : List Nat).contains i) (g := g_is_entry) B.f_is_entry sc_is_entry (by decide) (by decide) (by decide) fun f cdv A outer s H E F0 R A0 hr =>
  (dss_cons (ds_if (dt_w (dw_or (dt_not (dt_truth (dcl (cal_is_tuple_of B) (hr.mono (by decide)) (L2N.takes_of rfl rfl rfl rfl) (DAs.cons (DA.v (dv 1)) (DAs.cons (DA.v de_int) (DAs.cons (DA.v de_int) DAs.nil)))) rfl)) (dw_or (dt_not (dt_truth (dcl (cal_is_source B) (hr.mono (by decide)) (L2N.takes_of rfl rfl rfl rfl) (DAs.cons (DA.v (de_ix (ix_two (hu64 hr)) ix2_ok (DA.v (dv 1)) (DA.v de_int) (fun _ _ => rfl))) DAs.nil)) rfl)) (dw_or1 (dt_not (dt_truth (dcl (cal_is_statement B) (hr.mono (by decide)) (L2N.takes_of rfl rfl rfl rfl) (DAs.cons (DA.v (de_ix (ix_two (hu64 hr)) ix2_ok (DA.v (dv 1)) (DA.v de_int) (fun _ _ => rfl))) DAs.nil)) rfl)))))) (dss_one (ds_ret de_bl)) dss_nil)
  (dss_one (ds_ret (dcl (cal_is_within B) (hr.mono (by decide)) (L2N.takes_of rfl rfl rfl rfl) (DAs.cons (DA.v (dcl (cal_kinds_within B) (hr.mono (by decide)) (L2N.takes_of rfl rfl rfl rfl) (DAs.cons (DA.v (de_ix (ix_two (hu64 hr)) ix2_ok (DA.v (dv 1)) (DA.v de_int) (fun _ _ => rfl))) DAs.nil))) (DAs.cons (DA.v (dv 0)) DAs.nil))))))
theorem cal_is_entry (B : Hd K mg) : Cal P w K mg base (xrD K) "is_entry" 12 false 2 [] m_is_entry [] := (ok_is_entry B).cal fun _ _ _ _ _ _ us hl => match us, hl with | [_, _], _ => rfl
theorem sc_is_book : FnScope ["value", "kinds", "entries", "entry"] ["value"] (defScope s_is_book) := ⟨rfl, rfl, rfl, by decide +kernel, rfl, by decide +kernel, by decide +kernel⟩
def g_is_book : M Fl := (sSeq (sIf (tOrM (tNotM (eTru (eCall m_is_tuple_of [] [.v (eV 0), .v (eC (.int 2)), .v (eC (.int 2))] []))) (tOrM (tNotM (eTru (eCall m_is_kinds [] [.v (appM [.v (eV 0), .v (eC (.int 0))] ix2D)] []))) (tNotM (eTru (eCall m_is_tuple_of [] [.v (appM [.v (eV 0), .v (eC (.int 1))] ix2D), .v (eC (.int 0)), .v (eC c_MOST_ENTRIES)] []))))) (sRet (eC (.bl false))) sNx)
  (sSeq (sAsg (eV 0) (gTup 2 (gsC (gV 1) (gsC (gV 2) gsN))))
  (sSeq (sIf (tOrM (eTst (appM [.v (appM [.v (eV 1)] len3D), .v (eC c_MOST_BOOK_KINDS)] gtD)) (tNotM (eTru (appM [.v (eNew (eLc (iSeq2 (eV 2)) [3] (gV 3) tTrue (eCall m_is_entry [] [.v (eV 1), .v (eV 3)] [])))] allD)))) (sRet (eC (.bl false))) sNx)
  (sRet (eAnd (appM [.v (appM [.v (eCall m_without_doubles [] [.v (eV 2)] [])] len3D), .v (appM [.v (eV 2)] len3D)] eqD) (eCall m_are_within_limits [] [.v (eV 2)] []))))))
def m_is_book : Fn := mkFn false 4 [] g_is_book
theorem ok_is_book (B : Hd K mg) : Okf P w K mg base (xrD K) "is_book" s_is_book [] 14 false ["value"] [] m_is_book :=
  okf_mk (k := 13) (N := ["value", "kinds", "entries", "entry"]) (ps := ["value"]) (nw := false) (O := fun i => ([] : List Nat).contains i) (g := g_is_book) B.f_is_book sc_is_book (by decide) (by decide) (by decide) fun f cdv A outer s H E F0 R A0 hr =>
  (dss_cons (ds_if (dt_w (dw_or (dt_not (dt_truth (dcl (cal_is_tuple_of B) (hr.mono (by decide)) (L2N.takes_of rfl rfl rfl rfl) (DAs.cons (DA.v (dv 0)) (DAs.cons (DA.v de_int) (DAs.cons (DA.v de_int) DAs.nil)))) rfl)) (dw_or (dt_not (dt_truth (dcl (cal_is_kinds B) (hr.mono (by decide)) (L2N.takes_of rfl rfl rfl rfl) (DAs.cons (DA.v (de_ix (ix_two (hu64 hr)) ix2_ok (DA.v (dv 0)) (DA.v de_int) (fun _ _ => rfl))) DAs.nil)) rfl)) (dw_or1 (dt_not (dt_truth (dcl (cal_is_tuple_of B) (hr.mono (by decide)) (L2N.takes_of rfl rfl rfl rfl) (DAs.cons (DA.v (de_ix (ix_two (hu64 hr)) ix2_ok (DA.v (dv 0)) (DA.v de_int) (fun _ _ => rfl))) (DAs.cons (DA.v de_int) (DAs.cons (DA.v (dgc B.c_MOST_ENTRIES)) DAs.nil)))) rfl)))))) (dss_one (ds_ret de_bl)) dss_nil)
  (dss_cons (ds_asg (dv 0) (dg_tup rfl rfl (dgs_cons (dg_name (i := 1) rfl sc_is_book.nd rfl (by first | exact Or.inl rfl | exact Or.inr rfl)) (dgs_cons (dg_name (i := 2) rfl sc_is_book.nd rfl (by first | exact Or.inl rfl | exact Or.inr rfl)) dgs_nil))))
  (dss_cons (ds_if (dt_w (dw_or (dt_cmp op_gtX gt_ok (DA.v (de_callB call_len3 len3_ok (by rfl) B.b_len (by decide +kernel) (DAs.cons (DA.v (dv 1)) DAs.nil))) (DA.v (dgc B.c_MOST_BOOK_KINDS)) (nomark _)) (dw_or1 (dt_not (dt_truth (de_callB (cr_all rfl) all_ok (by rfl) B.b_all (by decide +kernel) (DAs.cons (DA.v (df_e (dc_lc (own := [("entry", 3)]) rfl sc_is_book.nd (di_seq2 (dv 2) rfl) (blkOk_by (by kernel_rfl)) (free_of rfl) (sub_of rfl) (fun _ _ _ _ _ _ => (dg_name (i := 3) rfl sc_is_book.nd rfl (by first | exact Or.inl rfl | exact Or.inr rfl))) (fun _ _ _ _ _ _ => dts_nil) (fun _ _ _ _ _ _ => (dcl (cal_is_entry B) (hr.mono (by decide)) takesN (DAs.cons (DA.v (dv 1)) (DAs.cons (DA.v (dv 3)) DAs.nil))))).pe)) DAs.nil)) rfl))))) (dss_one (ds_ret de_bl)) dss_nil)
  (dss_one (ds_ret (de_and (de_cmp (op_eqX (hu64 hr)) eq_ok (DA.v (de_callB call_len3 len3_ok (by rfl) B.b_len (by decide +kernel) (DAs.cons (DA.v (dcl (cal_without_doubles B) (hr.mono (by decide)) (L2N.takes_of rfl rfl rfl rfl) (DAs.cons (DA.v (dv 2)) DAs.nil))) DAs.nil))) (DA.v (de_callB call_len3 len3_ok (by rfl) B.b_len (by decide +kernel) (DAs.cons (DA.v (dv 2)) DAs.nil))) (nomark _)) (de_one (dcl (cal_are_within_limits B) (hr.mono (by decide)) (L2N.takes_of rfl rfl rfl rfl) (DAs.cons (DA.v (dv 2)) DAs.nil))) rfl))))))
theorem cal_is_book (B : Hd K mg) : Cal P w K mg base (xrD K) "is_book" 14 false 1 [] m_is_book [] := (ok_is_book B).cal fun _ _ _ _ _ _ us hl => match us, hl with | [_], _ => rfl
theorem sc_check_book : FnScope ["book", "name"] ["book", "name"] (defScope s_check_book) := ⟨rfl, rfl, rfl, by decide +kernel, rfl, by decide +kernel, by decide +kernel⟩
def g_check_book : M Fl := (sIf (tNotM (eTru (eCall m_is_book [] [.v (eV 0)] []))) (sRaise "BadValue" "name" (eV 1)) sNx)
def m_check_book : Fn := mkFn false 2 [] g_check_book
theorem ok_check_book (B : Hd K mg) : Okf P w K mg base (xrD K) "check_book" s_check_book [(.str "book")] 16 false ["book", "name"] [] m_check_book :=
  okf_mk (k := 15) (N := ["book", "name"]) (ps := ["book", "name"]) (nw := false) (O := fun i => ([] : List Nat).contains i) (g := g_check_book) B.f_check_book sc_check_book (by decide) (by decide) (by decide) fun f cdv A outer s H E F0 R A0 hr =>
  (dss_one (ds_if (dt_not (dt_truth (dcl (cal_is_book B) (hr.mono (by decide)) (L2N.takes_of rfl rfl rfl rfl) (DAs.cons (DA.v (dv 0)) DAs.nil)) rfl)) (dss_one (ds_raise (k := 0) B.k_BadValue ini_BadValue (hr.mono (by decide)) rfl (L2N.takes_of rfl rfl rfl rfl) (dv 1) rfl)) dss_nil))
theorem cal_check_book (B : Hd K mg) : Cal P w K mg base (xrD K) "check_book" 16 false 2 [] m_check_book [] := (ok_check_book B).calD 2 1 [] (by simp) (by simp) (fun _ _ _ _ _ _ _ us its h1 h2 => match us, its, h1, h2 with | [_, _], [_], _, _ => ⟨_, rfl, rfl⟩) (fun _ _ => RpL.nil)
theorem sc_statements_among : FnScope ["book", "source", "statement"] ["book"] (defScope s_statements_among) := ⟨rfl, rfl, rfl, by decide +kernel, rfl, by decide +kernel, by decide +kernel⟩
def g_statements_among : M Fl := (sRet (appM [.v (eCall m_without_doubles [] [.v (eNew (eLc (iSeq2 (appM [.v (eV 0), .v (eC (.int 1))] ix2D)) [1, 2] (gTup 2 (gsC (gV 1) (gsC (gV 2) gsN))) tTrue (eV 2)))] [])] tupleD))
def m_statements_among : Fn := mkFn false 3 [] g_statements_among
theorem ok_statements_among (B : Hd K mg) : Okf P w K mg base (xrD K) "statements_among" s_statements_among [] 4 false ["book"] [] m_statements_among :=
  okf_mk (k := 3) (N := ["book", "source", "statement"]) (ps := ["book"]) (nw := false) (O := fun i => ([] : List Nat).contains i) (g := g_statements_among) B.f_statements_among sc_statements_among (by decide) (by decide) (by decide) fun f cdv A outer s H E F0 R A0 hr =>
  (dss_one (ds_ret (de_callTy call_tuple_of tuple_ok (by rfl) B.b_tuple (by decide +kernel) (DAs.cons (DA.v (dcl (cal_without_doubles B) (hr.mono (by decide)) (L2N.takes_of rfl rfl rfl rfl) (DAs.cons (DA.v (df_e (dc_lc (own := [("source", 1), ("statement", 2)]) rfl sc_statements_among.nd (di_seq2 (de_ix (ix_two (hu64 hr)) ix2_ok (DA.v (dv 0)) (DA.v de_int) (fun _ _ => rfl)) rfl) (blkOk_by (by kernel_rfl)) (free_of rfl) (sub_of rfl) (fun _ _ _ _ _ _ => (dg_tup rfl rfl (dgs_cons (dg_name (i := 1) rfl sc_statements_among.nd rfl (by first | exact Or.inl rfl | exact Or.inr rfl)) (dgs_cons (dg_name (i := 2) rfl sc_statements_among.nd rfl (by first | exact Or.inl rfl | exact Or.inr rfl)) dgs_nil)))) (fun _ _ _ _ _ _ => dts_nil) (fun _ _ _ _ _ _ => (dv 2))).pe)) DAs.nil))) DAs.nil))))
theorem cal_statements_among (B : Hd K mg) : Cal P w K mg base (xrD K) "statements_among" 4 false 1 [] m_statements_among [] := (ok_statements_among B).cal fun _ _ _ _ _ _ us hl => match us, hl with | [_], _ => rfl
theorem cal_check_book_1 (B : Hd K mg) : Cal P w K mg base (xrD K) "check_book" 16 false 2 [] m_check_book [(.str "book")] := (ok_check_book B).calD 1 0 [(.str "book")] (by simp) (by simp) (fun _ _ _ _ _ _ _ us its h1 h2 => match us, its, h1, h2 with | [_], [_], _, _ => ⟨_, rfl, rfl⟩) (fun _ _ => (RpL.cons (by simp only [Rp, He.Dv.v]; exact ⟨trivial, by decide +kernel⟩) RpL.nil))
theorem sc_sizes_of : FnScope ["book"] ["book"] (defScope s_sizes_of) := ⟨rfl, rfl, rfl, by decide +kernel, rfl, by decide +kernel, by decide +kernel⟩
def g_sizes_of : M Fl := (sSeq (sExp (eCall m_check_book [] [.v (eV 0)] [(.str "book")]))
  (sRet (eTup [(appM [.v (appM [.v (eV 0), .v (eC (.int 0))] ix2D)] len3D), (appM [.v (appM [.v (eV 0), .v (eC (.int 1))] ix2D)] len3D), (appM [.v (eCall m_ages_among [] [.v (eCall m_statements_among [] [.v (eV 0)] [])] [])] len3D)])))
def m_sizes_of : Fn := mkFn false 1 [] g_sizes_of
theorem ok_sizes_of (B : Hd K mg) : Okf P w K mg base (xrD K) "sizes_of" s_sizes_of [] 18 false ["book"] [] m_sizes_of :=
  okf_mk (k := 17) (N := ["book"]) (ps := ["book"]) (nw := false) (O := fun i => ([] : List Nat).contains i) (g := g_sizes_of) B.f_sizes_of sc_sizes_of (by decide) (by decide) (by decide) fun f cdv A outer s H E F0 R A0 hr =>
  (dss_cons (ds_expr (dcl (cal_check_book_1 B) (hr.mono (by decide)) (L2N.takes_of rfl rfl rfl rfl) (DAs.cons (DA.v (dv 0)) DAs.nil)))
  (dss_one (ds_ret (de_tup (DAs.cons (DA.v (de_callB call_len3 len3_ok (by rfl) B.b_len (by decide +kernel) (DAs.cons (DA.v (de_ix (ix_two (hu64 hr)) ix2_ok (DA.v (dv 0)) (DA.v de_int) (fun _ _ => rfl))) DAs.nil))) (DAs.cons (DA.v (de_callB call_len3 len3_ok (by rfl) B.b_len (by decide +kernel) (DAs.cons (DA.v (de_ix (ix_two (hu64 hr)) ix2_ok (DA.v (dv 0)) (DA.v de_int) (fun _ _ => rfl))) DAs.nil))) (DAs.cons (DA.v (de_callB call_len3 len3_ok (by rfl) B.b_len (by decide +kernel) (DAs.cons (DA.v (dcl (cal_ages_among B) (hr.mono (by decide)) (L2N.takes_of rfl rfl rfl rfl) (DAs.cons (DA.v (dcl (cal_statements_among B) (hr.mono (by decide)) (L2N.takes_of rfl rfl rfl rfl) (DAs.cons (DA.v (dv 0)) DAs.nil))) DAs.nil))) DAs.nil))) DAs.nil)))))))
theorem cal_sizes_of (B : Hd K mg) : Cal P w K mg base (xrD K) "sizes_of" 18 false 1 [] m_sizes_of [] := (ok_sizes_of B).cal fun _ _ _ _ _ _ us hl => match us, hl with | [_], _ => rfl
theorem sc_ages_in : FnScope ["book"] ["book"] (defScope s_ages_in) := ⟨rfl, rfl, rfl, by decide +kernel, rfl, by decide +kernel, by decide +kernel⟩
def g_ages_in : M Fl := (sSeq (sExp (eCall m_check_book [] [.v (eV 0)] [(.str "book")]))
  (sRet (appM [.v (eCall m_ages_among [] [.v (eCall m_statements_among [] [.v (eV 0)] [])] [])] tupleD)))
def m_ages_in : Fn := mkFn false 1 [] g_ages_in
theorem ok_ages_in (B : Hd K mg) : Okf P w K mg base (xrD K) "ages_in" s_ages_in [] 18 false ["book"] [] m_ages_in :=
  okf_mk (k := 17) (N := ["book"]) (ps := ["book"]) (nw := false) (O := fun i => ([] : List Nat).contains i) (g := g_ages_in) B.f_ages_in sc_ages_in (by decide) (by decide) (by decide) fun f cdv A outer s H E F0 R A0 hr =>
  (dss_cons (ds_expr (dcl (cal_check_book_1 B) (hr.mono (by decide)) (L2N.takes_of rfl rfl rfl rfl) (DAs.cons (DA.v (dv 0)) DAs.nil)))
  (dss_one (ds_ret (de_callTy call_tuple_of tuple_ok (by rfl) B.b_tuple (by decide +kernel) (DAs.cons (DA.v (dcl (cal_ages_among B) (hr.mono (by decide)) (L2N.takes_of rfl rfl rfl rfl) (DAs.cons (DA.v (dcl (cal_statements_among B) (hr.mono (by decide)) (L2N.takes_of rfl rfl rfl rfl) (DAs.cons (DA.v (dv 0)) DAs.nil))) DAs.nil))) DAs.nil)))))
theorem cal_ages_in (B : Hd K mg) : Cal P w K mg base (xrD K) "ages_in" 18 false 1 [] m_ages_in [] := (ok_ages_in B).cal fun _ _ _ _ _ _ us hl => match us, hl with | [_], _ => rfl
theorem sc__law_same : FnScope ["actual", "due", "left", "turn", "one", "other", "at"] ["actual", "due"] (defScope s__law_same) := ⟨rfl, rfl, rfl, by decide +kernel, rfl, by decide +kernel, by decide +kernel⟩
def g__law_same : M Fl := (sSeq (sAsgO 2 (eLst [(eTup [(eV 0), (eV 1)])]))
  (sSeq (sFor (iRange1 (eC (.int 2000000))) (gV 3) (sSeq (sIf (eTst (appM [.v (appM [.p 2] len3D), .v (eC (.int 0))] eqD)) (sRet (eC (.bl true))) sNx)
  (sSeq (sAsg (ePop 2) (gTup 2 (gsC (gV 4) (gsC (gV 5) gsN))))
  (sIf (tOrM (eTru (appM [.v (eV 5), .v (eC (.ty "tuple"))] isiD)) (eTru (appM [.v (eV 5), .v (eC (.ty "list"))] isiD))) (sSeq (sIf (tOrM (eTst (appM [.v (appM [.v (eV 5), .v (eC (.ty "tuple"))] isiD), .v (appM [.v (eV 4), .v (eC (.ty "tuple"))] isiD)] neD)) (eTst (appM [.v (appM [.v (eV 5), .v (eC (.ty "list"))] isiD), .v (appM [.v (eV 4), .v (eC (.ty "list"))] isiD)] neD))) (sRet (eC (.bl false))) sNx)
  (sSeq (sIf (eTst (appM [.v (appM [.v (eV 4)] len3D), .v (appM [.v (eV 5)] len3D)] neD)) (sRet (eC (.bl false))) sNx)
  (sExt 2 (eLc (iRange1 (appM [.v (eV 5)] len3D)) [6] (gV 6) tTrue (eTup [(appM [.v (eV 4), .v (eV 6)] ix2D), (appM [.v (eV 5), .v (eV 6)] ix2D)]))))) (sIf (eTru (appM [.v (eV 5), .v (eC (.ty "bool"))] isiD)) (sIf (tOrM (tNotM (eTru (appM [.v (eV 4), .v (eC (.ty "bool"))] isiD))) (eTst (appM [.v (eV 4), .v (eV 5)] neD))) (sRet (eC (.bl false))) sNx) (sIf (eTru (appM [.v (eV 5), .v (eC (.ty "int"))] isiD)) (sIf (tOrM (tNotM (eTru (appM [.v (eV 4), .v (eC (.ty "int"))] isiD))) (tOrM (eTru (appM [.v (eV 4), .v (eC (.ty "bool"))] isiD)) (eTst (appM [.v (eV 4), .v (eV 5)] neD)))) (sRet (eC (.bl false))) sNx) (sIf (eTru (appM [.v (eV 5), .v (eC (.ty "str"))] isiD)) (sIf (tOrM (tNotM (eTru (appM [.v (eV 4), .v (eC (.ty "str"))] isiD))) (eTst (appM [.v (eV 4), .v (eV 5)] neD))) (sRet (eC (.bl false))) sNx) (sIf (eTst (appM [.v (eV 4), .v (eC .non)] isNotD)) (sRet (eC (.bl false))) sNx))))))))
  (sRet (eC (.bl false)))))
def m__law_same : Fn := mkFn false 7 [] g__law_same
theorem ok__law_same (B : Hd K mg) : Okf P w K mg base (xrD K) "_law_same" s__law_same [] 2 false ["actual", "due"] [] m__law_same :=
  okf_mk (k := 1) (N := ["actual", "due", "left", "turn", "one", "other", "at"]) (ps := ["actual", "due"]) (nw := false) (O := fun i => ([2] : List Nat).contains i) (g := g__law_same) B.f__law_same sc__law_same (by decide) (by decide) (by decide) fun f cdv A outer s H E F0 R A0 hr =>
  (dss_cons (ds_asgO (i := 2) rfl rfl (df_lst (DAs.cons (DA.v (de_tup (DAs.cons (DA.v (dv 0)) (DAs.cons (DA.v (dv 1)) DAs.nil)))) DAs.nil)) sc__law_same.nd rfl (by first | exact Or.inl rfl | exact Or.inr rfl))
  (dss_cons (ds_for (passes_of rfl) rfl (di_range1 (by rfl) B.b_range de_int) (dg_name (i := 3) rfl sc__law_same.nd rfl (by first | exact Or.inl rfl | exact Or.inr rfl)) (dss_cons (ds_if (dt_cmp (op_eqX (hu64 hr)) eq_ok (DA.v (de_callB call_len3 len3_ok (by rfl) B.b_len (by decide +kernel) (DAs.cons (dp 2) DAs.nil))) (DA.v de_int) (nomark _)) (dss_one (ds_ret de_bl)) dss_nil)
  (dss_cons (ds_asg (de_pop (i := 2) rfl (pe_bm0 PySem.F.plainAttrs_list PySem.F.slot_list_pop PySem.F.type_list_pop mt_pop (pv 2))) (dg_tup rfl rfl (dgs_cons (dg_name (i := 4) rfl sc__law_same.nd rfl (by first | exact Or.inl rfl | exact Or.inr rfl)) (dgs_cons (dg_name (i := 5) rfl sc__law_same.nd rfl (by first | exact Or.inl rfl | exact Or.inr rfl)) dgs_nil))))
  (dss_one (ds_if (dt_w (dw_or (dt_truth (de_callB call_isi isi_ok (by rfl) B.b_isinstance (by decide +kernel) (DAs.cons (DA.v (dv 5)) (DAs.cons (DA.v (de_ty (n := "tuple") (by rfl) B.b_tuple (by decide +kernel))) DAs.nil))) rfl) (dw_or1 (dt_truth (de_callB call_isi isi_ok (by rfl) B.b_isinstance (by decide +kernel) (DAs.cons (DA.v (dv 5)) (DAs.cons (DA.v (de_ty (n := "list") (by rfl) B.b_list (by decide +kernel))) DAs.nil))) rfl)))) (dss_cons (ds_if (dt_w (dw_or (dt_cmp (op_neX (hu64 hr)) ne_ok (DA.v (de_callB call_isi isi_ok (by rfl) B.b_isinstance (by decide +kernel) (DAs.cons (DA.v (dv 5)) (DAs.cons (DA.v (de_ty (n := "tuple") (by rfl) B.b_tuple (by decide +kernel))) DAs.nil)))) (DA.v (de_callB call_isi isi_ok (by rfl) B.b_isinstance (by decide +kernel) (DAs.cons (DA.v (dv 4)) (DAs.cons (DA.v (de_ty (n := "tuple") (by rfl) B.b_tuple (by decide +kernel))) DAs.nil)))) (nomark _)) (dw_or1 (dt_cmp (op_neX (hu64 hr)) ne_ok (DA.v (de_callB call_isi isi_ok (by rfl) B.b_isinstance (by decide +kernel) (DAs.cons (DA.v (dv 5)) (DAs.cons (DA.v (de_ty (n := "list") (by rfl) B.b_list (by decide +kernel))) DAs.nil)))) (DA.v (de_callB call_isi isi_ok (by rfl) B.b_isinstance (by decide +kernel) (DAs.cons (DA.v (dv 4)) (DAs.cons (DA.v (de_ty (n := "list") (by rfl) B.b_list (by decide +kernel))) DAs.nil)))) (nomark _))))) (dss_one (ds_ret de_bl)) dss_nil)
  (dss_cons (ds_if (dt_cmp (op_neX (hu64 hr)) ne_ok (DA.v (de_callB call_len3 len3_ok (by rfl) B.b_len (by decide +kernel) (DAs.cons (DA.v (dv 4)) DAs.nil))) (DA.v (de_callB call_len3 len3_ok (by rfl) B.b_len (by decide +kernel) (DAs.cons (DA.v (dv 5)) DAs.nil))) (nomark _)) (dss_one (ds_ret de_bl)) dss_nil)
  (dss_one (ds_extend rfl (pe_bm PySem.F.plainAttrs_list PySem.F.slot_list_extend PySem.F.type_list_extend mt_extend (pv 2) (pa_cons (dc_lc (own := [("at", 6)]) rfl sc__law_same.nd (di_range1 (by rfl) B.b_range (de_callB call_len3 len3_ok (by rfl) B.b_len (by decide +kernel) (DAs.cons (DA.v (dv 5)) DAs.nil))) (blkOk_by (by kernel_rfl)) (free_of rfl) (sub_of rfl) (fun _ _ _ _ _ _ => (dg_name (i := 6) rfl sc__law_same.nd rfl (by first | exact Or.inl rfl | exact Or.inr rfl))) (fun _ _ _ _ _ _ => dts_nil) (fun _ _ _ _ _ _ => (de_tup (DAs.cons (DA.v (de_ix (ix_two (hu64 hr)) ix2_ok (DA.v (dv 4)) (DA.v (dv 6)) (fun _ _ => rfl))) (DAs.cons (DA.v (de_ix (ix_two (hu64 hr)) ix2_ok (DA.v (dv 5)) (DA.v (dv 6)) (fun _ _ => rfl))) DAs.nil))))).pe pa_nil)))))) (dss_one (ds_if (dt_truth (de_callB call_isi isi_ok (by rfl) B.b_isinstance (by decide +kernel) (DAs.cons (DA.v (dv 5)) (DAs.cons (DA.v (de_ty (n := "bool") (by rfl) B.b_bool (by decide +kernel))) DAs.nil))) rfl) (dss_one (ds_if (dt_w (dw_or (dt_not (dt_truth (de_callB call_isi isi_ok (by rfl) B.b_isinstance (by decide +kernel) (DAs.cons (DA.v (dv 4)) (DAs.cons (DA.v (de_ty (n := "bool") (by rfl) B.b_bool (by decide +kernel))) DAs.nil))) rfl)) (dw_or1 (dt_cmp (op_neX (hu64 hr)) ne_ok (DA.v (dv 4)) (DA.v (dv 5)) (nomark _))))) (dss_one (ds_ret de_bl)) dss_nil)) (dss_one (ds_if (dt_truth (de_callB call_isi isi_ok (by rfl) B.b_isinstance (by decide +kernel) (DAs.cons (DA.v (dv 5)) (DAs.cons (DA.v (de_ty (n := "int") (by rfl) B.b_int (by decide +kernel))) DAs.nil))) rfl) (dss_one (ds_if (dt_w (dw_or (dt_not (dt_truth (de_callB call_isi isi_ok (by rfl) B.b_isinstance (by decide +kernel) (DAs.cons (DA.v (dv 4)) (DAs.cons (DA.v (de_ty (n := "int") (by rfl) B.b_int (by decide +kernel))) DAs.nil))) rfl)) (dw_or (dt_truth (de_callB call_isi isi_ok (by rfl) B.b_isinstance (by decide +kernel) (DAs.cons (DA.v (dv 4)) (DAs.cons (DA.v (de_ty (n := "bool") (by rfl) B.b_bool (by decide +kernel))) DAs.nil))) rfl) (dw_or1 (dt_cmp (op_neX (hu64 hr)) ne_ok (DA.v (dv 4)) (DA.v (dv 5)) (nomark _)))))) (dss_one (ds_ret de_bl)) dss_nil)) (dss_one (ds_if (dt_truth (de_callB call_isi isi_ok (by rfl) B.b_isinstance (by decide +kernel) (DAs.cons (DA.v (dv 5)) (DAs.cons (DA.v (de_ty (n := "str") (by rfl) B.b_str (by decide +kernel))) DAs.nil))) rfl) (dss_one (ds_if (dt_w (dw_or (dt_not (dt_truth (de_callB call_isi isi_ok (by rfl) B.b_isinstance (by decide +kernel) (DAs.cons (DA.v (dv 4)) (DAs.cons (DA.v (de_ty (n := "str") (by rfl) B.b_str (by decide +kernel))) DAs.nil))) rfl)) (dw_or1 (dt_cmp (op_neX (hu64 hr)) ne_ok (DA.v (dv 4)) (DA.v (dv 5)) (nomark _))))) (dss_one (ds_ret de_bl)) dss_nil)) (dss_one (ds_if (dt_cmp op_isNotX isNot_ok (DA.v (dv 4)) (DA.v de_non) (nomark _)) (dss_one (ds_ret de_bl)) dss_nil)))))))))))))
  (dss_one (ds_ret de_bl))))
theorem cal__law_same (B : Hd K mg) : Cal P w K mg base (xrD K) "_law_same" 2 false 2 [] m__law_same [] := (ok__law_same B).cal fun _ _ _ _ _ _ us hl => match us, hl with | [_, _], _ => rfl
theorem sc__law_one_class : FnScope ["error", "wanted", "found", "k"] ["error", "wanted"] (defScope s__law_one_class) := ⟨rfl, rfl, rfl, by decide +kernel, rfl, by decide +kernel, by decide +kernel⟩
def hg__law_one_class (a d : Addr) (cls : Str) : M Fl := (sSeq (sAsg (eNew (eLst [(eIsX a d cls 0 (isOf isl cls "BadValue")), (eIsX a d cls 0 (isOf isl cls "NotPossible")), (eIsX a d cls 0 (isOf isl cls "TooLarge")), (eIsX a d cls 0 (isOf isl cls "TextError"))])) (gV 2))
  (sRet (eAnd (appM [.v (eV 2), .v (eNew (eLc (iRange1 (eC (.int 4))) [3] (gV 3) tTrue (appM [.v (eV 1), .v (eV 3)] eqD)))] eqD) (eAnd (eIsX a d cls 0 (isOf isl cls "BranchError")) (eIsX a d cls 0 (isOf isl cls "ValueError"))))))
def hm__law_one_class (a d : Addr) (cls : Str) : Fn := mkFn false 4 [] (hg__law_one_class a d cls)
theorem okh__law_one_class (B : Hd K mg) {a d : Addr} {cls : Str} : OkfH P w K mg base (xrD K) a d cls "_law_one_class" s__law_one_class 2 ["error", "wanted"] (hm__law_one_class a d cls) :=
  okfH_mk (k := 1) (N := ["error", "wanted", "found", "k"]) (ps := ["error", "wanted"]) (g := hg__law_one_class a d cls) B.f__law_one_class sc__law_one_class (by decide) fun f cdv A outer s H E F0 R A0 p hL hot hr =>
  (dss_cons (ds_asg (df_e (df_lst (DAs.cons (DA.v (de_isX (n := "error") (y := "BadValue") (i := 0) (hotX_cxH hL hot) (fun b h => B.x_is _ _ b h) (hm := B.b_isinstance))) (DAs.cons (DA.v (de_isX (n := "error") (y := "NotPossible") (i := 0) (hotX_cxH hL hot) (fun b h => B.x_is _ _ b h) (hm := B.b_isinstance))) (DAs.cons (DA.v (de_isX (n := "error") (y := "TooLarge") (i := 0) (hotX_cxH hL hot) (fun b h => B.x_is _ _ b h) (hm := B.b_isinstance))) (DAs.cons (DA.v (de_isX (n := "error") (y := "TextError") (i := 0) (hotX_cxH hL hot) (fun b h => B.x_is _ _ b h) (hm := B.b_isinstance))) DAs.nil)))))) (dg_name (i := 2) rfl sc__law_one_class.nd rfl (by first | exact Or.inl rfl | exact Or.inr rfl)))
  (dss_one (ds_ret (de_and (de_cmp (op_eqX (hu64H hr)) eq_ok (DA.v (dv 2)) (DA.v (df_e  (df_lcH (own := [("k", 3)]) (hotX_cxH hL hot).hot sc__law_one_class.nd (di_range1H (by rfl) B.b_range de_int) (blkOk_by (by kernel_rfl)) (free_of rfl) (sub_of rfl) (fun _ _ _ _ _ _ => (dg_name (i := 3) rfl sc__law_one_class.nd rfl (by first | exact Or.inl rfl | exact Or.inr rfl))) (fun _ _ _ _ _ _ => (de_cmp (op_eqX (hu64H hr)) eq_ok (DA.v (dv 1)) (DA.v (dv 3)) (nomark _)))))) (nomark _)) (de_and (de_isX (n := "error") (y := "BranchError") (i := 0) (hotX_cxH hL hot) (fun b h => B.x_is _ _ b h) (hm := B.b_isinstance)) (de_one (de_isX (n := "error") (y := "ValueError") (i := 0) (hotX_cxH hL hot) (fun b h => B.x_is _ _ b h) (hm := B.b_isinstance))) rfl) rfl))))
theorem calh__law_one_class (B : Hd K mg) {a d : Addr} {cls : Str} : CalH P w K mg base (xrD K) a d cls "_law_one_class" 2 2 (hm__law_one_class a d cls) := (okh__law_one_class B).cal fun _ _ _ _ _ _ us hl => match us, hl with | [_, _], _ => rfl
theorem sc__law_bad : FnScope ["error", "name"] ["error", "name"] (defScope s__law_bad) := ⟨rfl, rfl, rfl, by decide +kernel, rfl, by decide +kernel, by decide +kernel⟩
def hg__law_bad (a d : Addr) (cls : Str) : M Fl := (sRet (eAnd (eCall (hm__law_one_class a d cls) [] [.v (eV 0), .v (eC (.int 0))] []) (eAnd (appM [.v (eAtX a d cls 0 (fdl.contains (cls, "name")) "name"), .v (eC (.ty "str"))] isiD) (appM [.v (eAtX a d cls 0 (fdl.contains (cls, "name")) "name"), .v (eV 1)] eqD))))
def hm__law_bad (a d : Addr) (cls : Str) : Fn := mkFn false 2 [] (hg__law_bad a d cls)
theorem okh__law_bad (B : Hd K mg) {a d : Addr} {cls : Str} : OkfH P w K mg base (xrD K) a d cls "_law_bad" s__law_bad 4 ["error", "name"] (hm__law_bad a d cls) :=
  okfH_mk (k := 3) (N := ["error", "name"]) (ps := ["error", "name"]) (g := hg__law_bad a d cls) B.f__law_bad sc__law_bad (by decide) fun f cdv A outer s H E F0 R A0 p hL hot hr =>
  (dss_one (ds_ret (de_and (dclH (calh__law_one_class B) (hr.mono (by decide)) (hotX_cxH hL hot) (L2N.takes_of rfl rfl rfl rfl) (DAs.cons (DA.v (dv 0)) (DAs.cons (DA.v de_int) DAs.nil))) (de_and (de_callB call_isi isi_ok (by rfl) B.b_isinstance (by decide +kernel) (DAs.cons (DA.v (de_atX (n := "error") (i := 0) (f := "name") (hotX_cxH hL hot) (fun h => B.x_fd _ _ h))) (DAs.cons (DA.v (de_ty (n := "str") (by rfl) B.b_str (by decide +kernel))) DAs.nil))) (de_one (de_cmp (op_eqX (hu64H hr)) eq_ok (DA.v (de_atX (n := "error") (i := 0) (f := "name") (hotX_cxH hL hot) (fun h => B.x_fd _ _ h))) (DA.v (dv 1)) (nomark _))) rfl) rfl)))
theorem calh__law_bad (B : Hd K mg) {a d : Addr} {cls : Str} : CalH P w K mg base (xrD K) a d cls "_law_bad" 4 2 (hm__law_bad a d cls) := (okh__law_bad B).cal fun _ _ _ _ _ _ us hl => match us, hl with | [_, _], _ => rfl
theorem sc__law_told : FnScope ["value", "due", "sizes", "error", "ages"] ["value", "due"] (defScope s__law_told) := ⟨rfl, rfl, rfl, by decide +kernel, rfl, by decide +kernel, by decide +kernel⟩
def g__law_told : M Fl := (sSeq (sTry (sAsg (eCall m_sizes_of [] [.v (eV 0)] []) (gV 2)) (fun x => isOf exl x "BranchError") 3 (fun a d cls => (sSeq (sAsg (eC .non) (gV 2))
  (sIf (tOrM (eTst (appM [.v (eV 1), .v (eC .non)] isNotD)) (tNotM (eTru (eCall (hm__law_bad a d cls) [] [.v (eV 3), .v (eC (.str "book"))] [])))) (sRet (eC (.bl false))) sNx))))
  (sSeq (sTry (sAsg (eCall m_ages_in [] [.v (eV 0)] []) (gV 4)) (fun x => isOf exl x "BranchError") 3 (fun a d cls => (sRet (eAnd (appM [.v (eV 1), .v (eC .non)] isD) (eAnd (appM [.v (eV 2), .v (eC .non)] isD) (eCall (hm__law_bad a d cls) [] [.v (eV 3), .v (eC (.str "book"))] []))))))
  (sRet (eAnd (appM [.v (eV 1), .v (eC .non)] isNotD) (eCall m__law_same [] [.v (eTup [(eV 2), (eV 4)]), .v (eV 1)] [])))))
def m__law_told : Fn := mkFn false 5 [] g__law_told
theorem ok__law_told (B : Hd K mg) : Okf P w K mg base (xrD K) "_law_told" s__law_told [] 20 false ["value", "due"] [] m__law_told :=
  okf_mk0 (k := 19) (N := ["value", "due", "sizes", "error", "ages"]) (ps := ["value", "due"]) (nw := false) (O := fun i => ([] : List Nat).contains i) (g := g__law_told) B.f__law_told sc__law_told (by decide) (by decide) (by decide) fun f cdv A outer s H E F0 R A0 hr =>
  (dss0_cons (ds0_try (n := "error") (xc := "BranchError") (i := 3) rfl rfl sc__law_told.nd rfl rfl ⟨rfl, by decide, .inl B.g_BranchError⟩ (L2N.takes_of rfl rfl rfl rfl) rfl (fun _ h => h) rfl (fun x b h => B.x_ex _ _ b h)
  (fun W pn xe tk po => dss0_of (dss_one (ds_asg (dcl (cal_sizes_of B) (hr.mono (by decide)) tk (DAs.cons (DA.v (dv 0)) DAs.nil)) (dg_name (i := 2) rfl sc__law_told.nd rfl (by first | exact Or.inl rfl | exact Or.inr rfl)))))
  (fun a d cls oe pn hz hf => dss0_of (dss_cons (ds_asg de_non (dg_name (i := 2) rfl sc__law_told.nd rfl (by first | exact Or.inl rfl | exact Or.inr rfl)))
  (dss_one (ds_if (dt_w (dw_or (dt_cmp op_isNotX isNot_ok (DA.v (dv 1)) (DA.v de_non) (nomark _)) (dw_or1 (dt_not (dt_truth (dclH (calh__law_bad B) ((L2H.roomH_mark hr _).mono (by decide)) (hotX_suite hz hf) takesN (DAs.cons (DA.v (dv 3)) (DAs.cons (DA.v de_str) DAs.nil))) rfl))))) (dss_one (ds_ret de_bl)) dss_nil)))))
  (dss0_cons (ds0_try (n := "error") (xc := "BranchError") (i := 3) rfl rfl sc__law_told.nd rfl rfl ⟨rfl, by decide, .inl B.g_BranchError⟩ (L2N.takes_of rfl rfl rfl rfl) rfl (fun _ h => h) rfl (fun x b h => B.x_ex _ _ b h)
  (fun W pn xe tk po => dss0_of (dss_one (ds_asg (dcl (cal_ages_in B) (hr.mono (by decide)) tk (DAs.cons (DA.v (dv 0)) DAs.nil)) (dg_name (i := 4) rfl sc__law_told.nd rfl (by first | exact Or.inl rfl | exact Or.inr rfl)))))
  (fun a d cls oe pn hz hf => dss0_of (dss_one (ds_ret (de_and (de_cmp op_isX is_ok (DA.v (dv 1)) (DA.v de_non) (nomark _)) (de_and (de_cmp op_isX is_ok (DA.v (dv 2)) (DA.v de_non) (nomark _)) (de_one (dclH (calh__law_bad B) ((L2H.roomH_mark hr _).mono (by decide)) (hotX_suite hz hf) takesN (DAs.cons (DA.v (dv 3)) (DAs.cons (DA.v de_str) DAs.nil)))) rfl) rfl)))))
  (dss0_one (ds0_of (ds_ret (de_and (de_cmp op_isNotX isNot_ok (DA.v (dv 1)) (DA.v de_non) (nomark _)) (de_one (dcl (cal__law_same B) (hr.mono (by decide)) (L2N.takes_of rfl rfl rfl rfl) (DAs.cons (DA.v (de_tup (DAs.cons (DA.v (dv 2)) (DAs.cons (DA.v (dv 4)) DAs.nil)))) (DAs.cons (DA.v (dv 1)) DAs.nil)))) rfl))))))
theorem cal__law_told (B : Hd K mg) : Cal P w K mg base (xrD K) "_law_told" 20 false 2 [] m__law_told [] := (ok__law_told B).cal fun _ _ _ _ _ _ us hl => match us, hl with | [_, _], _ => rfl
theorem sc__law_kept : FnScope ["kinds", "entries", "ages", "good", "value", "due"] ["kinds", "entries"] (defScope s__law_kept) := ⟨rfl, rfl, rfl, by decide +kernel, rfl, by decide +kernel, by decide +kernel⟩
def g__law_kept : M Fl := (sSeq (sAsg (eCall m__law_ages_due [] [.v (eV 1)] []) (gV 2))
  (sSeq (sAsg (eAnd (appM [.v (appM [.v (eV 1)] len3D), .v (eC (.int 150))] leD) (eAnd (appM [.v (appM [.v (eV 2)] len3D), .v (eC (.int 12))] leD) (eAnd (eCall m__law_named [] [.v (eV 1), .v (eV 0)] []) (eChain (eC (.int 1)) (appM [.v (eV 0)] len3D) (eC (.int 16)) leD leD)))) (gV 3))
  (sSeq (sAsg (eTup [(appM [.v (eV 0)] tupleD), (appM [.v (eV 1)] tupleD)]) (gV 4))
  (sSeq (sAsg (eIf (eTru (eV 3)) (eTup [(eTup [(appM [.v (eV 0)] len3D), (appM [.v (eV 1)] len3D), (appM [.v (eV 2)] len3D)]), (appM [.v (eV 2)] tupleD)]) (eC .non)) (gV 5))
  (sRet (eAnd (eCall m__law_says [] [.v (eCall m_is_book [] [.v (eV 4)] []), .v (eV 3)] []) (eCall m__law_told [] [.v (eV 4), .v (eV 5)] [])))))))
def m__law_kept : Fn := mkFn false 6 [] g__law_kept
theorem ok__law_kept (B : Hd K mg) : Okf P w K mg base (xrD K) "_law_kept" s__law_kept [] 22 false ["kinds", "entries"] [] m__law_kept :=
  okf_mk (k := 21) (N := ["kinds", "entries", "ages", "good", "value", "due"]) (ps := ["kinds", "entries"]) (nw := false) (O := fun i => ([] : List Nat).contains i) (g := g__law_kept) B.f__law_kept sc__law_kept (by decide) (by decide) (by decide) fun f cdv A outer s H E F0 R A0 hr =>
  (dss_cons (ds_asg (dcl (cal__law_ages_due B) (hr.mono (by decide)) (L2N.takes_of rfl rfl rfl rfl) (DAs.cons (DA.v (dv 1)) DAs.nil)) (dg_name (i := 2) rfl sc__law_kept.nd rfl (by first | exact Or.inl rfl | exact Or.inr rfl)))
  (dss_cons (ds_asg (de_and (de_cmp op_leX le_ok (DA.v (de_callB call_len3 len3_ok (by rfl) B.b_len (by decide +kernel) (DAs.cons (DA.v (dv 1)) DAs.nil))) (DA.v de_int) (nomark _)) (de_and (de_cmp op_leX le_ok (DA.v (de_callB call_len3 len3_ok (by rfl) B.b_len (by decide +kernel) (DAs.cons (DA.v (dv 2)) DAs.nil))) (DA.v de_int) (nomark _)) (de_and (dcl (cal__law_named B) (hr.mono (by decide)) (L2N.takes_of rfl rfl rfl rfl) (DAs.cons (DA.v (dv 1)) (DAs.cons (DA.v (dv 0)) DAs.nil))) (de_one (de_chain op_leX op_leX le_ok le_ok de_int (de_callB call_len3 len3_ok (by rfl) B.b_len (by decide +kernel) (DAs.cons (DA.v (dv 0)) DAs.nil)) de_int)) rfl) rfl) rfl) (dg_name (i := 3) rfl sc__law_kept.nd rfl (by first | exact Or.inl rfl | exact Or.inr rfl)))
  (dss_cons (ds_asg (de_tup (DAs.cons (DA.v (de_callTy call_tuple_of tuple_ok (by rfl) B.b_tuple (by decide +kernel) (DAs.cons (DA.v (dv 0)) DAs.nil))) (DAs.cons (DA.v (de_callTy call_tuple_of tuple_ok (by rfl) B.b_tuple (by decide +kernel) (DAs.cons (DA.v (dv 1)) DAs.nil))) DAs.nil))) (dg_name (i := 4) rfl sc__law_kept.nd rfl (by first | exact Or.inl rfl | exact Or.inr rfl)))
  (dss_cons (ds_asg (de_if (dt_truth (dv 3) rfl) (de_tup (DAs.cons (DA.v (de_tup (DAs.cons (DA.v (de_callB call_len3 len3_ok (by rfl) B.b_len (by decide +kernel) (DAs.cons (DA.v (dv 0)) DAs.nil))) (DAs.cons (DA.v (de_callB call_len3 len3_ok (by rfl) B.b_len (by decide +kernel) (DAs.cons (DA.v (dv 1)) DAs.nil))) (DAs.cons (DA.v (de_callB call_len3 len3_ok (by rfl) B.b_len (by decide +kernel) (DAs.cons (DA.v (dv 2)) DAs.nil))) DAs.nil))))) (DAs.cons (DA.v (de_callTy call_tuple_of tuple_ok (by rfl) B.b_tuple (by decide +kernel) (DAs.cons (DA.v (dv 2)) DAs.nil))) DAs.nil))) de_non) (dg_name (i := 5) rfl sc__law_kept.nd rfl (by first | exact Or.inl rfl | exact Or.inr rfl)))
  (dss_one (ds_ret (de_and (dcl (cal__law_says B) (hr.mono (by decide)) (L2N.takes_of rfl rfl rfl rfl) (DAs.cons (DA.v (dcl (cal_is_book B) (hr.mono (by decide)) (L2N.takes_of rfl rfl rfl rfl) (DAs.cons (DA.v (dv 4)) DAs.nil))) (DAs.cons (DA.v (dv 3)) DAs.nil))) (de_one (dcl (cal__law_told B) (hr.mono (by decide)) (L2N.takes_of rfl rfl rfl rfl) (DAs.cons (DA.v (dv 4)) (DAs.cons (DA.v (dv 5)) DAs.nil)))) rfl)))))))
theorem cal__law_kept (B : Hd K mg) : Cal P w K mg base (xrD K) "_law_kept" 22 false 2 [] m__law_kept [] := (ok__law_kept B).cal fun _ _ _ _ _ _ us hl => match us, hl with | [_, _], _ => rfl
theorem sc__law_spoilt : FnScope ["stream", "kinds", "entries", "row", "way", "beside", "at", "source", "statement", "place", "wrong"] ["stream", "kinds", "entries"] (defScope s__law_spoilt) := ⟨rfl, rfl, rfl, by decide +kernel, rfl, by decide +kernel, by decide +kernel⟩
def g__law_spoilt : M Fl := (sSeq (sAsg (appM [.v (eV 1)] tupleD) (gV 3))
  (sSeq (sAsg (eCall m__law_next [0] [.p 0, .v (eC (.int 6))] []) (gV 4))
  (sSeq (sIf (eTst (appM [.v (eV 4), .v (eC (.int 0))] eqD)) (sSeq (sAsg (eCall m__law_pick [0] [.p 0, .v (eNew (eLst [(eTup []), (appM [.v (eV 1)] list2D), (appM [.v (eV 3), .v (appM [.v (eV 3), .v (asInt (eC (.int 1)))] slDhi)] addD), (appM [.v (appM [.v (eV 3)] backD), .v (eTup [(eC (.str "a")), (eC (.str "a"))])] addD), (appM [.v (eV 3), .v (eC (.int 0))] ix2D), (eC .non), (appM [.v (eTup [(eC (.str "A"))]), .v (eV 3)] addD), (appM [.v (eCall m__law_kinds [0] [.p 0, .v (eC (.int 17))] [])] tupleD)]))] []) (gV 5))
  (sRet (eTup [(eV 5), (appM [.v (eV 2)] tupleD)]))) sNx)
  (sSeq (sIf (eTst (appM [.v (eV 4), .v (eC (.int 1))] eqD)) (sRet (eCall m__law_pick [0] [.p 0, .v (eNew (eLst [(eTup [(eV 3)]), (eTup [(eV 3), (appM [.v (eV 2)] list2D)]), (eNew (eLst [(eV 3), (appM [.v (eV 2)] tupleD)])), (eTup [(eV 3), (appM [.v (eV 2)] tupleD), (eTup [])]), (eTup [(appM [.v (eV 2)] tupleD), (eV 3)]), (eV 3), (eC .non)]))] [])) sNx)
  (sSeq (sIf (eTst (appM [.v (appM [.v (eV 2)] len3D), .v (eC (.int 0))] eqD)) (sRet (eTup [(eV 3), (eTup [(eTup [(eC (.int 6)), (eTup [(eC (.str "older")), (eTup [(eC (.str "age")), (eC (.int 1))]), (eTup [(eC (.str "age")), (eC (.int 0))])])])])])) sNx)
  (sSeq (sAsg (eCall m__law_next [0] [.p 0, .v (appM [.v (eV 2)] len3D)] []) (gV 6))
  (sSeq (sAsg (appM [.v (eV 2), .v (eV 6)] ix2D) (gTup 2 (gsC (gV 7) (gsC (gV 8) gsN))))
  (sSeq (sIf (eTst (appM [.v (eV 4), .v (eC (.int 2))] eqD)) (sSeq (sAsg (eCall m__law_next [0] [.p 0, .v (appM [.v (appM [.v (eV 2)] len3D), .v (eC (.int 1))] addD)] []) (gV 9))
  (sRet (eTup [(eV 3), (appM [.v (appM [.v (appM [.v (appM [.v (eV 2), .v (asInt (eV 9))] slDhi), .v (eNew (eLst [(appM [.v (eV 2), .v (eV 6)] ix2D)]))] addD), .v (appM [.v (eV 2), .v (asInt (eV 9))] slDlo)] addD)] tupleD)]))) sNx)
  (sSeq (sAsg (eNew (eLst [(eTup [(eC (.int 6)), (eV 8)]), (eTup [(appM [.v (eC (.int 1))] negD), (eV 8)]), (eTup [(eC (.bl true)), (eV 8)]), (eTup [(eC .non), (eV 8)]), (eTup [(eV 7), (eV 8), (eC (.int 0))]), (eNew (eLst [(eV 7), (eV 8)])), (eTup [(eV 8), (eV 7)])])) (gV 10))
  (sSeq (sAsg (appM [.v (eV 10), .v (eNew (eLst [(eTup [(eV 7), (appM [.v (eV 8)] list2D)]), (eTup [(eV 7)]), (eV 8), (eC .non), (eTup [(eV 7), (appM [.v (eV 8), .v (asInt (eC (.int 1)))] slDhi)]), (eTup [(eV 7), (eTup [(eC (.str "group")), (appM [.v (eV 3), .v (asInt (eC (.int 1)))] slDhi)])]), (eTup [(eV 7), (eTup [])])]))] addD) (gV 10))
  (sSeq (sAsg (appM [.v (eV 10), .v (eNew (eLst [(eTup [(eV 7), (eTup [(eTup [(eC (.str "older")), (eTup [(eC (.str "age")), (eC (.int 1))]), (eTup [(eC (.str "age")), (eC (.int 0))])])])]), (eTup [(eC (.str "0")), (eV 8)]), (eTup [(eV 7), (eTup [(eC (.str "older")), (eTup [(eC (.str "age")), (eC (.int 10000))]), (eTup [(eC (.str "age")), (eC (.int 0))])])])]))] addD) (gV 10))
  (sRet (eTup [(eV 3), (appM [.v (appM [.v (appM [.v (appM [.v (eV 2), .v (asInt (eV 6))] slDhi), .v (eNew (eLst [(eCall m__law_pick [0] [.p 0, .v (eV 10)] [])]))] addD), .v (appM [.v (eV 2), .v (asInt (appM [.v (eV 6), .v (eC (.int 1))] addD))] slDlo)] addD)] tupleD)])))))))))))))
def m__law_spoilt : Fn := mkFn false 11 [0] g__law_spoilt
theorem ok__law_spoilt (B : Hd K mg) : Okf P w K mg base (xrD K) "_law_spoilt" s__law_spoilt [] 10 false ["stream", "kinds", "entries"] [0] m__law_spoilt :=
  okf_mk (k := 9) (N := ["stream", "kinds", "entries", "row", "way", "beside", "at", "source", "statement", "place", "wrong"]) (ps := ["stream", "kinds", "entries"]) (nw := false) (O := fun i => ([0] : List Nat).contains i) (g := g__law_spoilt) B.f__law_spoilt sc__law_spoilt (by decide) (by decide) (by decide) fun f cdv A outer s H E F0 R A0 hr =>
  (dss_cons (ds_asg (de_callTy call_tuple_of tuple_ok (by rfl) B.b_tuple (by decide +kernel) (DAs.cons (DA.v (dv 1)) DAs.nil)) (dg_name (i := 3) rfl sc__law_spoilt.nd rfl (by first | exact Or.inl rfl | exact Or.inr rfl)))
  (dss_cons (ds_asg (dcl (cal__law_next B) (hr.mono (by decide)) (L2N.takes_of rfl rfl rfl rfl) (DAs.cons (dp 0) (DAs.cons (DA.v de_int) DAs.nil))) (dg_name (i := 4) rfl sc__law_spoilt.nd rfl (by first | exact Or.inl rfl | exact Or.inr rfl)))
  (dss_cons (ds_if (dt_cmp (op_eqX (hu64 hr)) eq_ok (DA.v (dv 4)) (DA.v de_int) (nomark _)) (dss_cons (ds_asg (dcl (cal__law_pick B) (hr.mono (by decide)) (L2N.takes_of rfl rfl rfl rfl) (DAs.cons (dp 0) (DAs.cons (DA.v (df_e (df_lst (DAs.cons (DA.v (de_tup DAs.nil)) (DAs.cons (DA.v (de_callTy (call_list2 rfl) list2_ok (by rfl) B.b_list (by decide +kernel) (DAs.cons (DA.v (dv 1)) DAs.nil))) (DAs.cons (DA.v (de_op op_addD add_ok (DA.v (dv 3)) (DA.v (de_slHi (DA.v (dv 3)) de_int rfl)))) (DAs.cons (DA.v (de_op op_addD add_ok (DA.v (de_back (DA.v (dv 3)))) (DA.v (de_tup (DAs.cons (DA.v de_str) (DAs.cons (DA.v de_str) DAs.nil)))))) (DAs.cons (DA.v (de_ix (ix_two (hu64 hr)) ix2_ok (DA.v (dv 3)) (DA.v de_int) (fun _ _ => rfl))) (DAs.cons (DA.v de_non) (DAs.cons (DA.v (de_op op_addD add_ok (DA.v (de_tup (DAs.cons (DA.v de_str) DAs.nil))) (DA.v (dv 3)))) (DAs.cons (DA.v (de_callTy call_tuple_of tuple_ok (by rfl) B.b_tuple (by decide +kernel) (DAs.cons (DA.v (dcl (cal__law_kinds B) (hr.mono (by decide)) (L2N.takes_of rfl rfl rfl rfl) (DAs.cons (dp 0) (DAs.cons (DA.v de_int) DAs.nil)))) DAs.nil))) DAs.nil))))))))))) DAs.nil))) (dg_name (i := 5) rfl sc__law_spoilt.nd rfl (by first | exact Or.inl rfl | exact Or.inr rfl)))
  (dss_one (ds_ret (de_tup (DAs.cons (DA.v (dv 5)) (DAs.cons (DA.v (de_callTy call_tuple_of tuple_ok (by rfl) B.b_tuple (by decide +kernel) (DAs.cons (DA.v (dv 2)) DAs.nil))) DAs.nil)))))) dss_nil)
  (dss_cons (ds_if (dt_cmp (op_eqX (hu64 hr)) eq_ok (DA.v (dv 4)) (DA.v de_int) (nomark _)) (dss_one (ds_ret (dcl (cal__law_pick B) (hr.mono (by decide)) (L2N.takes_of rfl rfl rfl rfl) (DAs.cons (dp 0) (DAs.cons (DA.v (df_e (df_lst (DAs.cons (DA.v (de_tup (DAs.cons (DA.v (dv 3)) DAs.nil))) (DAs.cons (DA.v (de_tup (DAs.cons (DA.v (dv 3)) (DAs.cons (DA.v (de_callTy (call_list2 rfl) list2_ok (by rfl) B.b_list (by decide +kernel) (DAs.cons (DA.v (dv 2)) DAs.nil))) DAs.nil)))) (DAs.cons (DA.v (df_e (df_lst (DAs.cons (DA.v (dv 3)) (DAs.cons (DA.v (de_callTy call_tuple_of tuple_ok (by rfl) B.b_tuple (by decide +kernel) (DAs.cons (DA.v (dv 2)) DAs.nil))) DAs.nil))))) (DAs.cons (DA.v (de_tup (DAs.cons (DA.v (dv 3)) (DAs.cons (DA.v (de_callTy call_tuple_of tuple_ok (by rfl) B.b_tuple (by decide +kernel) (DAs.cons (DA.v (dv 2)) DAs.nil))) (DAs.cons (DA.v (de_tup DAs.nil)) DAs.nil))))) (DAs.cons (DA.v (de_tup (DAs.cons (DA.v (de_callTy call_tuple_of tuple_ok (by rfl) B.b_tuple (by decide +kernel) (DAs.cons (DA.v (dv 2)) DAs.nil))) (DAs.cons (DA.v (dv 3)) DAs.nil)))) (DAs.cons (DA.v (dv 3)) (DAs.cons (DA.v de_non) DAs.nil)))))))))) DAs.nil))))) dss_nil)
  (dss_cons (ds_if (dt_cmp (op_eqX (hu64 hr)) eq_ok (DA.v (de_callB call_len3 len3_ok (by rfl) B.b_len (by decide +kernel) (DAs.cons (DA.v (dv 2)) DAs.nil))) (DA.v de_int) (nomark _)) (dss_one (ds_ret (de_tup (DAs.cons (DA.v (dv 3)) (DAs.cons (DA.v (de_tup (DAs.cons (DA.v (de_tup (DAs.cons (DA.v de_int) (DAs.cons (DA.v (de_tup (DAs.cons (DA.v de_str) (DAs.cons (DA.v (de_tup (DAs.cons (DA.v de_str) (DAs.cons (DA.v de_int) DAs.nil)))) (DAs.cons (DA.v (de_tup (DAs.cons (DA.v de_str) (DAs.cons (DA.v de_int) DAs.nil)))) DAs.nil))))) DAs.nil)))) DAs.nil))) DAs.nil))))) dss_nil)
  (dss_cons (ds_asg (dcl (cal__law_next B) (hr.mono (by decide)) (L2N.takes_of rfl rfl rfl rfl) (DAs.cons (dp 0) (DAs.cons (DA.v (de_callB call_len3 len3_ok (by rfl) B.b_len (by decide +kernel) (DAs.cons (DA.v (dv 2)) DAs.nil))) DAs.nil))) (dg_name (i := 6) rfl sc__law_spoilt.nd rfl (by first | exact Or.inl rfl | exact Or.inr rfl)))
  (dss_cons (ds_asg (de_ix (ix_two (hu64 hr)) ix2_ok (DA.v (dv 2)) (DA.v (dv 6)) (fun _ _ => rfl)) (dg_tup rfl rfl (dgs_cons (dg_name (i := 7) rfl sc__law_spoilt.nd rfl (by first | exact Or.inl rfl | exact Or.inr rfl)) (dgs_cons (dg_name (i := 8) rfl sc__law_spoilt.nd rfl (by first | exact Or.inl rfl | exact Or.inr rfl)) dgs_nil))))
  (dss_cons (ds_if (dt_cmp (op_eqX (hu64 hr)) eq_ok (DA.v (dv 4)) (DA.v de_int) (nomark _)) (dss_cons (ds_asg (dcl (cal__law_next B) (hr.mono (by decide)) (L2N.takes_of rfl rfl rfl rfl) (DAs.cons (dp 0) (DAs.cons (DA.v (de_op op_addD add_ok (DA.v (de_callB call_len3 len3_ok (by rfl) B.b_len (by decide +kernel) (DAs.cons (DA.v (dv 2)) DAs.nil))) (DA.v de_int))) DAs.nil))) (dg_name (i := 9) rfl sc__law_spoilt.nd rfl (by first | exact Or.inl rfl | exact Or.inr rfl)))
  (dss_one (ds_ret (de_tup (DAs.cons (DA.v (dv 3)) (DAs.cons (DA.v (de_callTy call_tuple_of tuple_ok (by rfl) B.b_tuple (by decide +kernel) (DAs.cons (DA.v (de_op op_addD add_ok (DA.v (de_op op_addD add_ok (DA.v (de_slHi (DA.v (dv 2)) (dv 9) rfl)) (DA.v (df_e (df_lst (DAs.cons (DA.v (de_ix (ix_two (hu64 hr)) ix2_ok (DA.v (dv 2)) (DA.v (dv 6)) (fun _ _ => rfl))) DAs.nil)))))) (DA.v (de_slLo (DA.v (dv 2)) (dv 9) rfl)))) DAs.nil))) DAs.nil)))))) dss_nil)
  (dss_cons (ds_asg (df_e (df_lst (DAs.cons (DA.v (de_tup (DAs.cons (DA.v de_int) (DAs.cons (DA.v (dv 8)) DAs.nil)))) (DAs.cons (DA.v (de_tup (DAs.cons (DA.v (de_un un_neg neg_ok (DA.v de_int))) (DAs.cons (DA.v (dv 8)) DAs.nil)))) (DAs.cons (DA.v (de_tup (DAs.cons (DA.v de_bl) (DAs.cons (DA.v (dv 8)) DAs.nil)))) (DAs.cons (DA.v (de_tup (DAs.cons (DA.v de_non) (DAs.cons (DA.v (dv 8)) DAs.nil)))) (DAs.cons (DA.v (de_tup (DAs.cons (DA.v (dv 7)) (DAs.cons (DA.v (dv 8)) (DAs.cons (DA.v de_int) DAs.nil))))) (DAs.cons (DA.v (df_e (df_lst (DAs.cons (DA.v (dv 7)) (DAs.cons (DA.v (dv 8)) DAs.nil))))) (DAs.cons (DA.v (de_tup (DAs.cons (DA.v (dv 8)) (DAs.cons (DA.v (dv 7)) DAs.nil)))) DAs.nil))))))))) (dg_name (i := 10) rfl sc__law_spoilt.nd rfl (by first | exact Or.inl rfl | exact Or.inr rfl)))
  (dss_cons (ds_asg (de_op op_addD add_ok (DA.v (dv 10)) (DA.v (df_e (df_lst (DAs.cons (DA.v (de_tup (DAs.cons (DA.v (dv 7)) (DAs.cons (DA.v (de_callTy (call_list2 rfl) list2_ok (by rfl) B.b_list (by decide +kernel) (DAs.cons (DA.v (dv 8)) DAs.nil))) DAs.nil)))) (DAs.cons (DA.v (de_tup (DAs.cons (DA.v (dv 7)) DAs.nil))) (DAs.cons (DA.v (dv 8)) (DAs.cons (DA.v de_non) (DAs.cons (DA.v (de_tup (DAs.cons (DA.v (dv 7)) (DAs.cons (DA.v (de_slHi (DA.v (dv 8)) de_int rfl)) DAs.nil)))) (DAs.cons (DA.v (de_tup (DAs.cons (DA.v (dv 7)) (DAs.cons (DA.v (de_tup (DAs.cons (DA.v de_str) (DAs.cons (DA.v (de_slHi (DA.v (dv 3)) de_int rfl)) DAs.nil)))) DAs.nil)))) (DAs.cons (DA.v (de_tup (DAs.cons (DA.v (dv 7)) (DAs.cons (DA.v (de_tup DAs.nil)) DAs.nil)))) DAs.nil))))))))))) (dg_name (i := 10) rfl sc__law_spoilt.nd rfl (by first | exact Or.inl rfl | exact Or.inr rfl)))
  (dss_cons (ds_asg (de_op op_addD add_ok (DA.v (dv 10)) (DA.v (df_e (df_lst (DAs.cons (DA.v (de_tup (DAs.cons (DA.v (dv 7)) (DAs.cons (DA.v (de_tup (DAs.cons (DA.v (de_tup (DAs.cons (DA.v de_str) (DAs.cons (DA.v (de_tup (DAs.cons (DA.v de_str) (DAs.cons (DA.v de_int) DAs.nil)))) (DAs.cons (DA.v (de_tup (DAs.cons (DA.v de_str) (DAs.cons (DA.v de_int) DAs.nil)))) DAs.nil))))) DAs.nil))) DAs.nil)))) (DAs.cons (DA.v (de_tup (DAs.cons (DA.v de_str) (DAs.cons (DA.v (dv 8)) DAs.nil)))) (DAs.cons (DA.v (de_tup (DAs.cons (DA.v (dv 7)) (DAs.cons (DA.v (de_tup (DAs.cons (DA.v de_str) (DAs.cons (DA.v (de_tup (DAs.cons (DA.v de_str) (DAs.cons (DA.v de_int) DAs.nil)))) (DAs.cons (DA.v (de_tup (DAs.cons (DA.v de_str) (DAs.cons (DA.v de_int) DAs.nil)))) DAs.nil))))) DAs.nil)))) DAs.nil))))))) (dg_name (i := 10) rfl sc__law_spoilt.nd rfl (by first | exact Or.inl rfl | exact Or.inr rfl)))
  (dss_one (ds_ret (de_tup (DAs.cons (DA.v (dv 3)) (DAs.cons (DA.v (de_callTy call_tuple_of tuple_ok (by rfl) B.b_tuple (by decide +kernel) (DAs.cons (DA.v (de_op op_addD add_ok (DA.v (de_op op_addD add_ok (DA.v (de_slHi (DA.v (dv 2)) (dv 6) rfl)) (DA.v (df_e (df_lst (DAs.cons (DA.v (dcl (cal__law_pick B) (hr.mono (by decide)) (L2N.takes_of rfl rfl rfl rfl) (DAs.cons (dp 0) (DAs.cons (DA.v (dv 10)) DAs.nil)))) DAs.nil)))))) (DA.v (de_slLo (DA.v (dv 2)) (de_op op_addD add_ok (DA.v (dv 6)) (DA.v de_int)) rfl)))) DAs.nil))) DAs.nil))))))))))))))))
theorem cal__law_spoilt (B : Hd K mg) : Cal P w K mg base (xrD K) "_law_spoilt" 10 false 3 [0] m__law_spoilt [] := (ok__law_spoilt B).cal fun _ _ _ _ _ _ us hl => match us, hl with | [_, _, _], _ => rfl
theorem sc_law : FnScope ["script", "stream", "kinds", "entries", "left", "turn", "value", "kind"] ["script"] (defScope s_law) := ⟨rfl, rfl, rfl, by decide +kernel, rfl, by decide +kernel, by decide +kernel⟩
def g_law : M Fl := (sSeq (sAsgO 1 (eCall m__law_stream [] [.v (eV 0)] []))
  (sSeq (sAsg (eCall m__law_kinds [0] [.p 1, .v (eCall m__law_pick [0] [.p 1, .v (eNew (eLst [(eC (.int 1)), (eC (.int 2)), (eC (.int 15)), (eC (.int 16)), (eC (.int 16)), (eC (.int 17)), (appM [.v (eC (.int 1)), .v (eCall m__law_next [0] [.p 1, .v (eC (.int 16))] [])] addD)]))] [])] []) (gV 2))
  (sSeq (sAsg (eCall m__law_entries [0] [.p 1, .v (eV 2)] []) (gV 3))
  (sSeq (sIf (tOrM (tNotM (eTru (eCall m__law_kept [] [.v (eV 2), .v (eV 3)] []))) (tNotM (eTru (eCall m__law_kept [] [.v (eV 2), .v (appM [.v (eV 3), .v (asInt (eC (.int 150)))] slDhi)] [])))) (sRet (eC (.bl false))) sNx)
  (sSeq (sAsg (eCall m__law_pick [0] [.p 1, .v (eV 2)] []) (gV 4))
  (sSeq (sIf (tNotM (eTru (eCall m__law_kept [] [.v (eNew (eLc (iSeq2 (eV 2)) [7] (gV 7) (eTst (appM [.v (eV 7), .v (eV 4)] neD)) (eV 7))), .v (appM [.v (eV 3), .v (asInt (eCall m__law_pick [0] [.p 1, .v (eNew (eLst [(eC (.int 3)), (eC (.int 40)), (eC (.int 150))]))] []))] slDhi)] []))) (sRet (eC (.bl false))) sNx)
  (sSeq (sFor (iRange1 (eC (.int 3))) (gV 5) (sSeq (sAsg (eCall m__law_spoilt [0] [.p 1, .v (eV 2), .v (appM [.v (eV 3), .v (asInt (eCall m__law_pick [0] [.p 1, .v (eNew (eLst [(eC (.int 1)), (eC (.int 20)), (eC (.int 150))]))] []))] slDhi)] []) (gV 6))
  (sIf (tOrM (eTst (appM [.v (eCall m_is_book [] [.v (eV 6)] []), .v (eC (.bl false))] isNotD)) (tNotM (eTru (eCall m__law_told [] [.v (eV 6), .v (eC .non)] [])))) (sRet (eC (.bl false))) sNx)))
  (sRet (eAnd (eCall m__law_kept [] [.v (eV 2), .v (eNew (eLst []))] []) (eCall m__law_says [] [.v (eCall m_is_book [] [.v (eCall m__law_pick [0] [.p 1, .v (eNew (eLst [(eC .non), (eC (.int 0)), (eC (.str "a")), (eTup []), (eNew (eLst [])), (eTup [(eTup []), (eTup [])])]))] [])] []), .v (eC (.bl false))] []))))))))))
def m_law : Fn := mkFn false 8 [] g_law
theorem ok_law (B : Hd K mg) : Okf P w K mg base (xrD K) "law" s_law [] 24 false ["script"] [] m_law :=
  okf_mk (k := 23) (N := ["script", "stream", "kinds", "entries", "left", "turn", "value", "kind"]) (ps := ["script"]) (nw := false) (O := fun i => ([1] : List Nat).contains i) (g := g_law) B.f_law sc_law (by decide) (by decide) (by decide) fun f cdv A outer s H E F0 R A0 hr =>
  (dss_cons (ds_asgO (i := 1) rfl rfl (dclF (cal__law_stream B) (hr.mono (by decide)) (L2N.takes_of rfl rfl rfl rfl) (DAs.cons (DA.v (dv 0)) DAs.nil)) sc_law.nd rfl (by first | exact Or.inl rfl | exact Or.inr rfl))
  (dss_cons (ds_asg (dcl (cal__law_kinds B) (hr.mono (by decide)) (L2N.takes_of rfl rfl rfl rfl) (DAs.cons (dp 1) (DAs.cons (DA.v (dcl (cal__law_pick B) (hr.mono (by decide)) (L2N.takes_of rfl rfl rfl rfl) (DAs.cons (dp 1) (DAs.cons (DA.v (df_e (df_lst (DAs.cons (DA.v de_int) (DAs.cons (DA.v de_int) (DAs.cons (DA.v de_int) (DAs.cons (DA.v de_int) (DAs.cons (DA.v de_int) (DAs.cons (DA.v de_int) (DAs.cons (DA.v (de_op op_addD add_ok (DA.v de_int) (DA.v (dcl (cal__law_next B) (hr.mono (by decide)) (L2N.takes_of rfl rfl rfl rfl) (DAs.cons (dp 1) (DAs.cons (DA.v de_int) DAs.nil)))))) DAs.nil)))))))))) DAs.nil)))) DAs.nil))) (dg_name (i := 2) rfl sc_law.nd rfl (by first | exact Or.inl rfl | exact Or.inr rfl)))
  (dss_cons (ds_asg (dcl (cal__law_entries B) (hr.mono (by decide)) (L2N.takes_of rfl rfl rfl rfl) (DAs.cons (dp 1) (DAs.cons (DA.v (dv 2)) DAs.nil))) (dg_name (i := 3) rfl sc_law.nd rfl (by first | exact Or.inl rfl | exact Or.inr rfl)))
  (dss_cons (ds_if (dt_w (dw_or (dt_not (dt_truth (dcl (cal__law_kept B) (hr.mono (by decide)) (L2N.takes_of rfl rfl rfl rfl) (DAs.cons (DA.v (dv 2)) (DAs.cons (DA.v (dv 3)) DAs.nil))) rfl)) (dw_or1 (dt_not (dt_truth (dcl (cal__law_kept B) (hr.mono (by decide)) (L2N.takes_of rfl rfl rfl rfl) (DAs.cons (DA.v (dv 2)) (DAs.cons (DA.v (de_slHi (DA.v (dv 3)) de_int rfl)) DAs.nil))) rfl))))) (dss_one (ds_ret de_bl)) dss_nil)
  (dss_cons (ds_asg (dcl (cal__law_pick B) (hr.mono (by decide)) (L2N.takes_of rfl rfl rfl rfl) (DAs.cons (dp 1) (DAs.cons (DA.v (dv 2)) DAs.nil))) (dg_name (i := 4) rfl sc_law.nd rfl (by first | exact Or.inl rfl | exact Or.inr rfl)))
  (dss_cons (ds_if (dt_not (dt_truth (dcl (cal__law_kept B) (hr.mono (by decide)) (L2N.takes_of rfl rfl rfl rfl) (DAs.cons (DA.v (df_e (dc_lc (own := [("kind", 7)]) rfl sc_law.nd (di_seq2 (dv 2) rfl) (blkOk_by (by kernel_rfl)) (free_of rfl) (sub_of rfl) (fun _ _ _ _ _ _ => (dg_name (i := 7) rfl sc_law.nd rfl (by first | exact Or.inl rfl | exact Or.inr rfl))) (fun _ _ _ _ _ _ => (dts_one (dt_cmp (op_neX (hu64 hr)) ne_ok (DA.v (dv 7)) (DA.v (dv 4)) (nomark _)))) (fun _ _ _ _ _ _ => (dv 7))).pe)) (DAs.cons (DA.v (de_slHi (DA.v (dv 3)) (dcl (cal__law_pick B) (hr.mono (by decide)) (L2N.takes_of rfl rfl rfl rfl) (DAs.cons (dp 1) (DAs.cons (DA.v (df_e (df_lst (DAs.cons (DA.v de_int) (DAs.cons (DA.v de_int) (DAs.cons (DA.v de_int) DAs.nil)))))) DAs.nil))) rfl)) DAs.nil))) rfl)) (dss_one (ds_ret de_bl)) dss_nil)
  (dss_cons (ds_for (passes_of rfl) rfl (di_range1 (by rfl) B.b_range de_int) (dg_name (i := 5) rfl sc_law.nd rfl (by first | exact Or.inl rfl | exact Or.inr rfl)) (dss_cons (ds_asg (dcl (cal__law_spoilt B) (hr.mono (by decide)) (L2N.takes_of rfl rfl rfl rfl) (DAs.cons (dp 1) (DAs.cons (DA.v (dv 2)) (DAs.cons (DA.v (de_slHi (DA.v (dv 3)) (dcl (cal__law_pick B) (hr.mono (by decide)) (L2N.takes_of rfl rfl rfl rfl) (DAs.cons (dp 1) (DAs.cons (DA.v (df_e (df_lst (DAs.cons (DA.v de_int) (DAs.cons (DA.v de_int) (DAs.cons (DA.v de_int) DAs.nil)))))) DAs.nil))) rfl)) DAs.nil)))) (dg_name (i := 6) rfl sc_law.nd rfl (by first | exact Or.inl rfl | exact Or.inr rfl)))
  (dss_one (ds_if (dt_w (dw_or (dt_cmp op_isNotX isNot_ok (DA.v (dcl (cal_is_book B) (hr.mono (by decide)) (L2N.takes_of rfl rfl rfl rfl) (DAs.cons (DA.v (dv 6)) DAs.nil))) (DA.v de_bl) (nomark _)) (dw_or1 (dt_not (dt_truth (dcl (cal__law_told B) (hr.mono (by decide)) (L2N.takes_of rfl rfl rfl rfl) (DAs.cons (DA.v (dv 6)) (DAs.cons (DA.v de_non) DAs.nil))) rfl))))) (dss_one (ds_ret de_bl)) dss_nil))))
  (dss_one (ds_ret (de_and (dcl (cal__law_kept B) (hr.mono (by decide)) (L2N.takes_of rfl rfl rfl rfl) (DAs.cons (DA.v (dv 2)) (DAs.cons (DA.v (df_e (df_lst DAs.nil))) DAs.nil))) (de_one (dcl (cal__law_says B) (hr.mono (by decide)) (L2N.takes_of rfl rfl rfl rfl) (DAs.cons (DA.v (dcl (cal_is_book B) (hr.mono (by decide)) (L2N.takes_of rfl rfl rfl rfl) (DAs.cons (DA.v (dcl (cal__law_pick B) (hr.mono (by decide)) (L2N.takes_of rfl rfl rfl rfl) (DAs.cons (dp 1) (DAs.cons (DA.v (df_e (df_lst (DAs.cons (DA.v de_non) (DAs.cons (DA.v de_int) (DAs.cons (DA.v de_str) (DAs.cons (DA.v (de_tup DAs.nil)) (DAs.cons (DA.v (df_e (df_lst DAs.nil))) (DAs.cons (DA.v (de_tup (DAs.cons (DA.v (de_tup DAs.nil)) (DAs.cons (DA.v (de_tup DAs.nil)) DAs.nil)))) DAs.nil))))))))) DAs.nil)))) DAs.nil))) (DAs.cons (DA.v de_bl) DAs.nil)))) rfl))))))))))
theorem cal_law (B : Hd K mg) : Cal P w K mg base (xrD K) "law" 24 false 1 [] m_law [] := (ok_law B).cal fun _ _ _ _ _ _ us hl => match us, hl with | [_], _ => rfl
end
def fa0 : List He.Fa := [.free "list",
  .free "len",
  .free "abs",
  .free "int",
  .free "range",
  .free "sorted",
  .free "max",
  .free "tuple",
  .free "all",
  .free "isinstance",
  .free "str",
  .free "bool",
  .free "any",
  .free "ValueError",
  .glo "_law_stream",
  .glo "_law_next",
  .glo "_law_pick",
  .glo "_law_kind",
  .glo "_law_kinds",
  .glo "_law_ages",
  .glo "_law_terms",
  .glo "_law_some",
  .glo "_law_term",
  .glo "_law_statement",
  .glo "_law_entries",
  .glo "_law_ages_due",
  .glo "_law_named",
  .glo "_law_says",
  .glo "is_plain",
  .glo "ages_within"]
def fa1 : List He.Fa := [.glo "ages_among",
  .glo "are_within_limits",
  .glo "is_tuple_of",
  .glo "is_ascending",
  .glo "is_kind",
  .glo "is_kind_row",
  .glo "is_kinds",
  .glo "without_doubles",
  .glo "is_within",
  .glo "kinds_within",
  .glo "is_integer",
  .glo "is_from_to",
  .glo "is_source",
  .glo "is_group",
  .glo "is_mark",
  .glo "is_age",
  .glo "is_term",
  .glo "is_statement",
  .glo "is_entry",
  .glo "is_book",
  .glo "check_book",
  .glo "statements_among",
  .glo "sizes_of",
  .glo "ages_in",
  .glo "_law_same",
  .glo "_law_told",
  .glo "_law_kept",
  .glo "_law_spoilt",
  .glo "law",
  .glo "_law_one_class"]
def fa2 : List He.Fa := [.glo "_law_bad",
  .glo "BranchError"]
def fa : List He.Fa := fa0 ++ fa1 ++ fa2
def fn0 : List He.DefD := [⟨("_law_stream", none), "_law_stream", "_law_stream", defArgs s__law_stream, defBody s__law_stream, defScope s__law_stream, [], []⟩,
  ⟨("_law_next", none), "_law_next", "_law_next", defArgs s__law_next, defBody s__law_next, defScope s__law_next, [], []⟩,
  ⟨("_law_pick", none), "_law_pick", "_law_pick", defArgs s__law_pick, defBody s__law_pick, defScope s__law_pick, [], []⟩,
  ⟨("_law_kind", none), "_law_kind", "_law_kind", defArgs s__law_kind, defBody s__law_kind, defScope s__law_kind, [], []⟩,
  ⟨("_law_kinds", none), "_law_kinds", "_law_kinds", defArgs s__law_kinds, defBody s__law_kinds, defScope s__law_kinds, [], []⟩,
  ⟨("_law_ages", none), "_law_ages", "_law_ages", defArgs s__law_ages, defBody s__law_ages, defScope s__law_ages, [], []⟩,
  ⟨("_law_terms", none), "_law_terms", "_law_terms", defArgs s__law_terms, defBody s__law_terms, defScope s__law_terms, [], []⟩,
  ⟨("_law_some", none), "_law_some", "_law_some", defArgs s__law_some, defBody s__law_some, defScope s__law_some, [], []⟩,
  ⟨("_law_term", none), "_law_term", "_law_term", defArgs s__law_term, defBody s__law_term, defScope s__law_term, [], []⟩,
  ⟨("_law_statement", none), "_law_statement", "_law_statement", defArgs s__law_statement, defBody s__law_statement, defScope s__law_statement, [], []⟩,
  ⟨("_law_entries", none), "_law_entries", "_law_entries", defArgs s__law_entries, defBody s__law_entries, defScope s__law_entries, [], []⟩,
  ⟨("_law_ages_due", none), "_law_ages_due", "_law_ages_due", defArgs s__law_ages_due, defBody s__law_ages_due, defScope s__law_ages_due, [], []⟩,
  ⟨("_law_named", none), "_law_named", "_law_named", defArgs s__law_named, defBody s__law_named, defScope s__law_named, [], []⟩,
  ⟨("_law_says", none), "_law_says", "_law_says", defArgs s__law_says, defBody s__law_says, defScope s__law_says, [], []⟩,
  ⟨("is_plain", none), "is_plain", "is_plain", defArgs s_is_plain, defBody s_is_plain, defScope s_is_plain, [], []⟩,
  ⟨("ages_within", none), "ages_within", "ages_within", defArgs s_ages_within, defBody s_ages_within, defScope s_ages_within, [], []⟩,
  ⟨("ages_among", none), "ages_among", "ages_among", defArgs s_ages_among, defBody s_ages_among, defScope s_ages_among, [], []⟩,
  ⟨("are_within_limits", none), "are_within_limits", "are_within_limits", defArgs s_are_within_limits, defBody s_are_within_limits, defScope s_are_within_limits, [], []⟩,
  ⟨("is_tuple_of", none), "is_tuple_of", "is_tuple_of", defArgs s_is_tuple_of, defBody s_is_tuple_of, defScope s_is_tuple_of, [], []⟩,
  ⟨("is_ascending", none), "is_ascending", "is_ascending", defArgs s_is_ascending, defBody s_is_ascending, defScope s_is_ascending, [], []⟩,
  ⟨("is_kind", none), "is_kind", "is_kind", defArgs s_is_kind, defBody s_is_kind, defScope s_is_kind, [], []⟩,
  ⟨("is_kind_row", none), "is_kind_row", "is_kind_row", defArgs s_is_kind_row, defBody s_is_kind_row, defScope s_is_kind_row, [], []⟩,
  ⟨("is_kinds", none), "is_kinds", "is_kinds", defArgs s_is_kinds, defBody s_is_kinds, defScope s_is_kinds, [], []⟩,
  ⟨("without_doubles", none), "without_doubles", "without_doubles", defArgs s_without_doubles, defBody s_without_doubles, defScope s_without_doubles, [], []⟩,
  ⟨("is_within", none), "is_within", "is_within", defArgs s_is_within, defBody s_is_within, defScope s_is_within, [], []⟩,
  ⟨("kinds_within", none), "kinds_within", "kinds_within", defArgs s_kinds_within, defBody s_kinds_within, defScope s_kinds_within, [], []⟩,
  ⟨("is_integer", none), "is_integer", "is_integer", defArgs s_is_integer, defBody s_is_integer, defScope s_is_integer, [], []⟩,
  ⟨("is_from_to", none), "is_from_to", "is_from_to", defArgs s_is_from_to, defBody s_is_from_to, defScope s_is_from_to, [], []⟩,
  ⟨("is_source", none), "is_source", "is_source", defArgs s_is_source, defBody s_is_source, defScope s_is_source, [], []⟩,
  ⟨("is_group", none), "is_group", "is_group", defArgs s_is_group, defBody s_is_group, defScope s_is_group, [], []⟩]
def fn1 : List He.DefD := [⟨("is_mark", none), "is_mark", "is_mark", defArgs s_is_mark, defBody s_is_mark, defScope s_is_mark, [], []⟩,
  ⟨("is_age", none), "is_age", "is_age", defArgs s_is_age, defBody s_is_age, defScope s_is_age, [], []⟩,
  ⟨("is_term", none), "is_term", "is_term", defArgs s_is_term, defBody s_is_term, defScope s_is_term, [], []⟩,
  ⟨("is_statement", none), "is_statement", "is_statement", defArgs s_is_statement, defBody s_is_statement, defScope s_is_statement, [], []⟩,
  ⟨("is_entry", none), "is_entry", "is_entry", defArgs s_is_entry, defBody s_is_entry, defScope s_is_entry, [], []⟩,
  ⟨("is_book", none), "is_book", "is_book", defArgs s_is_book, defBody s_is_book, defScope s_is_book, [], []⟩,
  ⟨("check_book", none), "check_book", "check_book", defArgs s_check_book, defBody s_check_book, defScope s_check_book, [(.str "book")], []⟩,
  ⟨("statements_among", none), "statements_among", "statements_among", defArgs s_statements_among, defBody s_statements_among, defScope s_statements_among, [], []⟩,
  ⟨("sizes_of", none), "sizes_of", "sizes_of", defArgs s_sizes_of, defBody s_sizes_of, defScope s_sizes_of, [], []⟩,
  ⟨("ages_in", none), "ages_in", "ages_in", defArgs s_ages_in, defBody s_ages_in, defScope s_ages_in, [], []⟩,
  ⟨("_law_same", none), "_law_same", "_law_same", defArgs s__law_same, defBody s__law_same, defScope s__law_same, [], []⟩,
  ⟨("_law_told", none), "_law_told", "_law_told", defArgs s__law_told, defBody s__law_told, defScope s__law_told, [], []⟩,
  ⟨("_law_kept", none), "_law_kept", "_law_kept", defArgs s__law_kept, defBody s__law_kept, defScope s__law_kept, [], []⟩,
  ⟨("_law_spoilt", none), "_law_spoilt", "_law_spoilt", defArgs s__law_spoilt, defBody s__law_spoilt, defScope s__law_spoilt, [], []⟩,
  ⟨("law", none), "law", "law", defArgs s_law, defBody s_law, defScope s_law, [], []⟩,
  ⟨("_law_one_class", none), "_law_one_class", "_law_one_class", defArgs s__law_one_class, defBody s__law_one_class, defScope s__law_one_class, [], []⟩,
  ⟨("_law_bad", none), "_law_bad", "_law_bad", defArgs s__law_bad, defBody s__law_bad, defScope s__law_bad, [], []⟩,
  ⟨("BadValue", some "__init__"), "__init__", "BadValue.__init__", defArgs (inClass (topS 2) 0), defBody (inClass (topS 2) 0), defScope (inClass (topS 2) 0), [], []⟩]
def fn : List He.DefD := fn0 ++ fn1
def ks0 : List (PySem.W.Frag → Bool) := [clxB "BadValue" "name",
  exB exl,
  isB isl,
  fdB fdl]
def ks : List (PySem.W.Frag → Bool) := ks0
def cs0 : List (Str × D) := [("MOST_SIGNS", c_MOST_SIGNS),
  ("MOST_AGE", c_MOST_AGE),
  ("MOST_SOURCE", c_MOST_SOURCE),
  ("MOST_KINDS", c_MOST_KINDS),
  ("PLAIN", c_PLAIN),
  ("MOST_BOOK_KINDS", c_MOST_BOOK_KINDS),
  ("MOST_ENTRIES", c_MOST_ENTRIES),
  ("MOST_AGES", c_MOST_AGES)]
def cs : List (Str × D) := cs0
def names0 : List PySem.Str := ["BranchError",
  "BadValue",
  "NotPossible",
  "TooLarge",
  "TextError",
  "MOST_SIGNS",
  "MOST_AGE",
  "MOST_SOURCE",
  "MOST_KINDS",
  "is_integer",
  "is_from_to",
  "is_tuple_of",
  "is_ascending",
  "without_doubles",
  "is_within",
  "is_kind",
  "is_age",
  "is_source",
  "is_kind_row",
  "is_kinds",
  "is_group",
  "PLAIN",
  "is_term",
  "is_mark",
  "is_statement",
  "is_plain",
  "kinds_within",
  "ages_within",
  "MOST_BOOK_KINDS",
  "MOST_ENTRIES"]
def names1 : List PySem.Str := ["MOST_AGES",
  "is_entry",
  "ages_among",
  "are_within_limits",
  "is_book",
  "check_book",
  "statements_among",
  "ages_in",
  "sizes_of",
  "_law_stream",
  "_law_next",
  "_law_pick",
  "_law_says",
  "_law_same",
  "_law_one_class",
  "_law_bad",
  "_law_kind",
  "_law_kinds",
  "_law_some",
  "_law_term",
  "_law_statement",
  "_law_ages",
  "_law_terms",
  "_law_entries",
  "_law_ages_due",
  "_law_named",
  "_law_told",
  "_law_kept",
  "_law_spoilt"]
def names : List PySem.Str := names0 ++ names1
abbrev R : PySem.W.OpenRow := PySem.W.OpenLaw.row PySem.Challenge.rw_branchsure_k05_whole_books_and_their_lim
abbrev hk : PySem.W.Hook := hookG 5 fa fn cs ks
def ob (s : PySem.W.SharedT) : AlG := obsGG 5 fa fn cs ks (HandSHeadRun.getT s)
theorem ob_eq (s : PySem.W.SharedT) : ob s = hk.obs s.abs := obsGG_eq (HandSHeadRun.getT_eq s)
set_option maxHeartbeats 0 in
theorem run (w : World) : HandSHeadRun.RunEq R (PySem.W.view R.prog [64]) hk ob 4000 names w := by
  intro os
  kernel_rfl
theorem hd {K : PySem.W.Frag} {h : Heap} {mg : Str → Option Value} (X : K.In h) (G : h.Ns mainGlobals mg) (c : SaysG fa fn cs ks K) : Hd K mg :=
  ⟨c.free X G 0, c.free X G 1, c.free X G 2, c.free X G 3, c.free X G 4, c.free X G 5, c.free X G 6, c.free X G 7, c.free X G 8, c.free X G 9, c.free X G 10, c.free X G 11, c.free X G 12, c.free X G 13, c.con X G 0, c.con X G 1, c.con X G 2, c.con X G 3, c.con X G 4, c.con X G 5, c.con X G 6, c.con X G 7, c.fd X G 0 14, c.fd X G 1 15, c.fd X G 2 16, c.fd X G 3 17, c.fd X G 4 18, c.fd X G 5 19, c.fd X G 6 20, c.fd X G 7 21, c.fd X G 8 22, c.fd X G 9 23, c.fd X G 10 24, c.fd X G 11 25, c.fd X G 12 26, c.fd X G 13 27, c.fd X G 14 28, c.fd X G 15 29, c.fd X G 16 30, c.fd X G 17 31, c.fd X G 18 32, c.fd X G 19 33, c.fd X G 20 34, c.fd X G 21 35, c.fd X G 22 36, c.fd X G 23 37, c.fd X G 24 38, c.fd X G 25 39, c.fd X G 26 40, c.fd X G 27 41, c.fd X G 28 42, c.fd X G 29 43, c.fd X G 30 44, c.fd X G 31 45, c.fd X G 32 46, c.fd X G 33 47, c.fd X G 34 48, c.fd X G 35 49, c.fd X G 36 50, c.fd X G 37 51, c.fd X G 38 52, c.fd X G 39 53, c.fd X G 40 54, c.fd X G 41 55, c.fd X G 42 56, c.fd X G 43 57, c.fd X G 44 58, c.fd X G 45 59, c.fd X G 46 60, c.clx X G 47 0, He.glo_ok X G (c.d.fact 61), fun _ _ _ h => exB_ok (c.k 1) h, fun _ _ _ h => isB_ok (c.k 2) X G h, fun _ _ h => fdB_ok (c.k 3) h⟩
end Gx
end
section
namespace Gm
open PySem DL Gx
def isInt : D → Bool
  | .int _ => true
  | _ => false
theorem is_integer_eq (d : D) (h : d.isPy = true) : m_is_integer [d] = .ok (.bl (isInt d)) [] := by
  have h1 := isi_py d "int" h (by decide)
  have h2 := isi_py d "bool" h (by decide)
  cases d <;> first | (cases h; done) | (simp [m_is_integer, g_is_integer, truthD, notD, h1, h2, isInt, isTy, tyNm]; try decide)
def inR (d : D) (a b : Int) : Bool := match d with
  | .int i => decide (a ≤ i) && decide (i ≤ b)
  | _ => false
theorem is_from_to_eq (d : D) (a b : Int) (h : d.isPy = true) : m_is_from_to [d, .int a, .int b] = .ok (.bl (inR d a b)) [] := by
  have h1 := is_integer_eq d h
  simp [m_is_from_to, g_is_from_to, truthD, h1, evalA, fillA]
  cases d <;> simp [isInt, inR, leD]
theorem is_age_eq (d : D) (h : d.isPy = true) : m_is_age [d] = .ok (.bl (inR d 0 9999)) [] := by
  simp [m_is_age, g_is_age, evalA, fillA, c_MOST_AGE, is_from_to_eq d _ _ h]
theorem is_source_eq (d : D) (h : d.isPy = true) : m_is_source [d] = .ok (.bl (inR d 0 5)) [] := by
  simp [m_is_source, g_is_source, evalA, fillA, c_MOST_SOURCE, is_from_to_eq d _ _ h]
end Gm
end
section
namespace Gm
open PySem DL Gx
def low (c : Nat) : Bool := decide (97 ≤ c) && decide (c ≤ 122)
def alnum (c : Nat) : Bool := low c || (decide (48 ≤ c) && decide (c ≤ 57))
def kS (x : Str) : Bool := decide (1 ≤ x.length) && decide (x.length ≤ 12) && (match x.cps.toList with | c :: _ => low c | [] => false) && x.cps.toList.all alnum
def kD : D → Bool
  | .str x => kS x
  | _ => false
theorem s_a : (Str.ofString "a") = ⟨#[97]⟩ := by decide
theorem s_z : (Str.ofString "z") = ⟨#[122]⟩ := by decide
theorem s_0 : (Str.ofString "0") = ⟨#[48]⟩ := by decide
theorem s_9 : (Str.ofString "9") = ⟨#[57]⟩ := by decide
theorem str_cons (x : Str) (c : Nat) (cs : List Nat) (e : x.cps.toList = c :: cs) : x.length = cs.length + 1 := by
  show x.cps.size = _
  rw [← Array.length_toList, e]
  rfl
@[simp] theorem ix0 (x : Str) (c : Nat) (cs : List Nat) (e : x.cps.toList = c :: cs) : ix2D [.str x, .int 0] = some (.str ⟨#[c]⟩) := by
  show ixD [.str x, .int 0] = _
  simp [ixD, e, L2.atI, L2.ixN]
theorem signs_len (x : Str) : (signs x).length = x.length := by
  simp [signs]
  rfl
theorem alnum_row (x : Str) (hl : x.length ≤ 16777216) (ρ : DL.Env) (i j : Nat) (hi : ρ[i]? = some (some (.str x))) (hj : j < ρ.length) (hij : i ≠ j) (te : M D) (ht : ∀ c, te (ρ.set j (some (.str ⟨#[c]⟩))) = .ok (.bl (alnum c)) (ρ.set j (some (.str ⟨#[c]⟩)))) :
    eLc (iSeq2 (eV i)) [j] (gV j) tTrue te ρ = .ok (.lst ((x.cps.toList.map fun c => .bl (alnum c)))) ρ := by
  have := eLc_all (i := j) (ρ := ρ) (f := iSeq2 (eV i)) (te := te) (F := fun d => match d with | .str y => .bl (alnum (y.cps.toList.headD 0)) | d => d) (ds := signs x) (by simp [hi]) (by rw [signs_len]; omega) hj (by
    intro d hd
    simp only [signs, List.mem_map] at hd
    obtain ⟨c', _, rfl⟩ := hd
    rw [ht]
    rfl)
  rw [this]
  simp [signs, List.map_map]
theorem is_kind_eq (d : D) (h : d.isPy = true) : m_is_kind [d] = .ok (.bl (kD d)) [] := by
  have h1 := isi_py d "str" h (by decide)
  cases d with
  | str x =>
    have tt : isTy "str" "str" = true := by decide
    by_cases hb : 1 ≤ x.length ∧ x.length ≤ 12
    · obtain ⟨hb1, hb2⟩ := hb
      cases e : x.cps.toList with
      | nil =>
        have hl : x.length = 0 := by show x.cps.size = 0; rw [← Array.length_toList, e]; rfl
        omega
      | cons c cs =>
        have hr := alnum_row x (by omega) [some (.str x), none] 0 1 rfl (by simp) (by simp) (eOr (eChain (eC (.str "a")) (eV 1) (eC (.str "z")) leD leD) (eChain (eC (.str "0")) (eV 1) (eC (.str "9")) leD leD)) (by
          intro c'
          simp [s_a, s_z, s_0, s_9, le_sign, alnum, low])
        have e1 : (1 : Int) ≤ (x.length : Int) := by omega
        have e2 : (x.length : Int) ≤ 12 := by omega
        simp [m_is_kind, g_is_kind, h1, tyNm, tt, c_MOST_SIGNS, e1, e2, ix0 x c cs e, s_a, s_z, le_sign]
        simp [s_a, s_z] at hr
        simp only [hr, Res.bind_ok, M.pure_app, all_bl, M.opt_some, fnE_rt, fr_and2]
        simp [kD, kS, e, hb1, hb2, low]
    · have hk : kD (.str x) = false := by
        simp only [kD, kS]
        by_cases h0 : 1 ≤ x.length
        · have : ¬ x.length ≤ 12 := fun z => hb ⟨h0, z⟩
          simp [this]
        · simp [h0]
      rw [hk]
      by_cases h0 : 1 ≤ x.length
      · have e1 : (1 : Int) ≤ (x.length : Int) := by omega
        have e2 : ¬ (x.length : Int) ≤ 12 := by omega
        simp [m_is_kind, g_is_kind, h1, tyNm, tt, c_MOST_SIGNS, e1, e2]
      · have e1 : ¬ (1 : Int) ≤ (x.length : Int) := by omega
        simp [m_is_kind, g_is_kind, h1, tyNm, tt, c_MOST_SIGNS, e1]
  | _ => first | (cases h; done) | (simp [m_is_kind, g_is_kind, h1, isTy, tyNm, kD])
end Gm
end
section
namespace Gm
open PySem DL Gx
def aL : List Nat := [97,98,99,100,101,102,103,104,105,106,107,108,109,110,111,112,113,114,115,116,117,118,119,120,121,122]
def nL : List Nat := [48,49,50,51,52,53,54,55,56,57]
theorem s36 : (Str.ofString "abcdefghijklmnopqrstuvwxyz0123456789") = ⟨(aL ++ nL).toArray⟩ := by decide
theorem s26 : (Str.ofString "abcdefghijklmnopqrstuvwxyz") = ⟨aL.toArray⟩ := by decide
theorem cut26 : slDhi [.str ⟨(aL ++ nL).toArray⟩, .int 26] = some (.str ⟨aL.toArray⟩) := by rfl
theorem mem26 (c : Nat) : decide (c ∈ aL) = low c := by
  by_cases h : c < 128
  · exact (by decide : ∀ c : Fin 128, decide (c.val ∈ aL) = low c.val) ⟨c, h⟩
  · have h1 : low c = false := by simp [low]; omega
    rw [h1, decide_eq_false]
    intro z
    have := (by decide : ∀ c ∈ aL, c < 128) c z
    omega
theorem mem36 (c : Nat) : decide (c ∈ aL ++ nL) = alnum c := by
  by_cases h : c < 128
  · exact (by decide : ∀ c : Fin 128, decide (c.val ∈ aL ++ nL) = alnum c.val) ⟨c, h⟩
  · have h1 : alnum c = false := by simp [alnum, low]; omega
    rw [h1, decide_eq_false]
    intro z
    have := (by decide : ∀ c ∈ aL ++ nL, c < 128) c z
    omega
theorem in_sign (c : Nat) (l : List Nat) : in3D [.str ⟨#[c]⟩, .str ⟨l.toArray⟩] = some (.bl (decide (c ∈ l))) := by
  show inD [.str ⟨#[c]⟩, .str ⟨l.toArray⟩] = _
  have : (⟨#[c]⟩ : Str).length = 1 := rfl
  simp [inD, this]
end Gm
end
section
namespace Gm
open PySem DL Gx
def ltP (a b : Option D) : Bool := match a, b with
  | some (.str x), some (.str y) => ltS x y
  | _, _ => false
def ascD (vs : List D) : Bool := (List.range (vs.length - 1)).all fun i => ltP vs[i]? vs[i + 1]?
def rowD (d : D) (least : Int) : Bool := match d with
  | .tup vs => decide (least ≤ vs.length) && decide (vs.length ≤ 24) && vs.all kD && ascD vs
  | _ => false
theorem kD_str {d : D} (h : kD d = true) : ∃ x, d = .str x := by
  cases d <;> first | exact ⟨_, rfl⟩ | cases h
theorem isPyL_mem : ∀ {vs : List D}, D.isPyL vs = true → ∀ v ∈ vs, v.isPy = true
  | [], _, v, h => by cases h
  | x :: xs, h, v, hv => by
    simp only [D.isPyL, Bool.and_eq_true] at h
    rcases List.mem_cons.mp hv with rfl | hv
    · exact h.1
    · exact isPyL_mem h.2 v hv
theorem ixT (vs : List D) (i : Nat) (d : D) (h : vs[i]? = some d) : ix2D [.tup vs, .int (i : Nat)] = some d := by
  show ixD [.tup vs, .int i] = _
  simp only [ixD]
  exact L2.atI_nat h
theorem asc_core (vs : List D) (hk : vs.all kD = true) (hl : vs.length ≤ 24) (ρ : DL.Env) (i : Nat) (h0 : ρ[0]? = some (some (.tup vs))) (hi : i < ρ.length) (hi0 : i ≠ 0) :
    eLc (iRange1 (appM [.v (appM [.v (eV 0)] len3D), .v (eC (.int 1))] subD)) [i] (gV i) tTrue (appM [.v (appM [.v (eV 0), .v (eV i)] ix2D), .v (appM [.v (eV 0), .v (appM [.v (eV i), .v (eC (.int 1))] addD)] ix2D)] ltD) ρ =
      .ok (.lst ((List.range (vs.length - 1)).map fun j => .bl (ltP vs[j]? vs[j + 1]?))) ρ := by
  have := eLc_all (i := i) (ρ := ρ) (f := iRange1 (appM [.v (appM [.v (eV 0)] len3D), .v (eC (.int 1))] subD)) (te := appM [.v (appM [.v (eV 0), .v (eV i)] ix2D), .v (appM [.v (eV 0), .v (appM [.v (eV i), .v (eC (.int 1))] addD)] ix2D)] ltD)
    (F := fun d => match d with | .int j => .bl (ltP vs[j.toNat]? vs[j.toNat + 1]?) | d => d) (ds := rangeL 0 (vs.length - 1)) (by
      simp only [iRange1, M.bind_app, ev_app2v, ev_app1v, ev_eV, h0, Res.bind_ok, len_tup, M.opt_some, eC_app, subD_int]
      have c1 : decide (-4611686018427387904 ≤ (vs.length : Int) - 1) = true := decide_eq_true (by omega)
      have c2 : decide ((vs.length : Int) - 1 < 4611686018427387904) = true := decide_eq_true (by omega)
      have c3 : ((vs.length : Int) - 1).toNat = vs.length - 1 := by omega
      simp [c1, c2, c3]) (by rw [rangeL_len]; omega) hi (by
      intro d hd
      simp only [rangeL, List.mem_map, List.mem_range] at hd
      obtain ⟨j, hj, rfl⟩ := hd
      have c0 : (0 + (j : Int)) = ((j : Nat) : Int) := by omega
      rw [c0]
      have a0 : (ρ.set i (some (.int (j : Int))))[0]? = some (some (.tup vs)) := by rw [List.getElem?_set_ne hi0]; exact h0
      have ai : (ρ.set i (some (.int (j : Int))))[i]? = some (some (.int (j : Int))) := List.getElem?_set_self hi
      have hj1 : j < vs.length := by omega
      have hj2 : j + 1 < vs.length := by omega
      have e1 : vs[j]? = some vs[j] := List.getElem?_eq_getElem hj1
      have e2 : vs[j + 1]? = some vs[j + 1] := List.getElem?_eq_getElem hj2
      rw [List.all_eq_true] at hk
      obtain ⟨x, hx⟩ := kD_str (hk vs[j] (List.getElem_mem hj1))
      obtain ⟨y, hy⟩ := kD_str (hk vs[j + 1] (List.getElem_mem hj2))
      have i1 := ixT vs j _ e1
      have i2 := ixT vs (j + 1) _ e2
      have c1 : (j : Int) + 1 = ((j + 1 : Nat) : Int) := by omega
      have c3 : ((j : Int)).toNat = j := by omega
      simp only [ev_app2v, ev_eV, a0, ai, Res.bind_ok, eC_app, addD_int, M.opt_some, c1, i1, i2, hx, hy, ltD_str, c3, e1, e2, ltP])
  rw [this]
  simp only [rangeL, List.map_map]
  congr 2
  apply List.map_congr_left
  intro j _
  simp only [Function.comp]
  have c3 : ((0 + (j : Int))).toNat = j := by omega
  rw [c3]
theorem is_ascending_eq (vs : List D) (hk : vs.all kD = true) (hl : vs.length ≤ 24) : m_is_ascending [.tup vs] = .ok (.bl (ascD vs)) [] := by
  have h := asc_core vs hk hl [some (.tup vs), none] 1 rfl (by simp) (by simp)
  simp only [m_is_ascending, g_is_ascending, fn_nw0, List.map_cons, List.map_nil]
  simp [h, all_bl, ascD]
theorem is_tuple_of_eq (d : D) (a b : Int) (h : d.isPy = true) : m_is_tuple_of [d, .int a, .int b] = .ok (.bl (match d with | .tup vs => decide (a ≤ vs.length) && decide ((vs.length : Int) ≤ b) | _ => false)) [] := by
  have h1 := isi_py d "tuple" h (by decide)
  have tt : isTy "tuple" "tuple" = true := by decide
  cases d with
  | tup vs => simp [m_is_tuple_of, g_is_tuple_of, h1, tyNm, tt]
  | _ => first | (cases h; done) | (simp [m_is_tuple_of, g_is_tuple_of, h1, isTy, tyNm])
/-- all([f(one) for one in value]) -/
theorem all_core (vs : List D) (hp : D.isPyL vs = true) (hl : vs.length ≤ 16777216) (m : Fn) (p : D → Bool) (hm : ∀ d, d.isPy = true → m [d] = .ok (.bl (p d)) []) (ρ : DL.Env) (i : Nat) (h0 : ρ[0]? = some (some (.tup vs))) (hi : i < ρ.length) :
    eLc (iSeq2 (eV 0)) [i] (gV i) tTrue (eCall m [] [.v (eV i)] []) ρ = .ok (.lst (vs.map fun d => .bl (p d))) ρ := by
  refine eLc_all (F := fun d => .bl (p d)) (by simp [h0]) hl hi fun d hd => ?_
  simp [evalA, fillA, hi, hm d (isPyL_mem hp d hd)]
theorem is_kind_row_eq (d : D) (least : Int) (h : d.isPy = true) (hL : ∀ vs, d = .tup vs → vs.length ≤ 16777216) : m_is_kind_row [d, .int least] = .ok (.bl (rowD d least)) [] := by
  have h1 := is_tuple_of_eq d least 24 h
  cases d with
  | tup vs =>
    have hp : D.isPyL vs = true := by simpa only [D.isPy] using h
    have hr := all_core vs hp (hL vs rfl) m_is_kind kD is_kind_eq [some (.tup vs), some (.int least), none] 2 rfl (by simp)
    simp only [m_is_kind_row, g_is_kind_row, fn_nw0, List.map_cons, List.map_nil]
    simp [evalA, fillA, c_MOST_KINDS, h1]
    cases c : decide (least ≤ vs.length) && decide ((vs.length : Int) ≤ 24) with
    | true =>
      simp only [cnd_t, hr, Res.bind_ok, M.pure_app, all_bl, M.opt_some, tr_bl, tK_some]
      rw [Bool.and_eq_true, decide_eq_true_eq, decide_eq_true_eq] at c
      have c1 : decide (least ≤ (vs.length : Int)) = true := decide_eq_true c.1
      have c2 : decide (vs.length ≤ 24) = true := decide_eq_true (by omega)
      cases hall : vs.all kD with
      | true =>
        have ha := is_ascending_eq vs hall (by omega)
        simp [fillA, ha, rowD, c1, c2, hall]
      | false => simp [rowD, hall]
    | false =>
      have : rowD (.tup vs) least = false := by
        simp only [rowD]
        have e : decide (vs.length ≤ 24) = decide ((vs.length : Int) ≤ 24) := by
          by_cases z : vs.length ≤ 24
          · rw [decide_eq_true z, decide_eq_true (by omega)]
          · rw [decide_eq_false z, decide_eq_false (by omega)]
        rw [e, c]
        rfl
      rw [this]
      rfl
  | _ => first | (cases h; done) | (simp [m_is_kind_row, g_is_kind_row, evalA, fillA, c_MOST_KINDS, h1, rowD])
end Gm
end
section
namespace Gm
open PySem DL Gx
/-- a value of plain data, its tuples not too long -/
def Ok (d : D) : Prop := d.isPy = true ∧ ∀ vs, d = .tup vs → vs.length ≤ 16777216
theorem is_kinds_eq (d : D) (h : Ok d) : m_is_kinds [d] = .ok (.bl (rowD d 1)) [] := by
  simp [m_is_kinds, g_is_kinds, evalA, fillA, is_kind_row_eq d 1 h.1 h.2]
theorem is_group_eq (d : D) (h : Ok d) : m_is_group [d] = .ok (.bl (rowD d 2)) [] := by
  simp [m_is_group, g_is_group, evalA, fillA, is_kind_row_eq d 2 h.1 h.2]
theorem okEq_ss (x y : Str) : okEq (.str x) (.str y) = true := rfl
theorem eqB_ss (x y : Str) : eqB (.str x) (.str y) = decide (x = y) := by
  simp only [eqB, D.toPy, PyData.eqv]
  first | exact beq_eq_decide _ _ | (rw [Bool.eq_iff_iff]; simp)
theorem eqB_ii (x y : Int) : eqB (.int x) (.int y) = decide (x = y) := by
  simp only [eqB, D.toPy, PyData.eqv]
  first | exact beq_eq_decide _ _ | (rw [Bool.eq_iff_iff]; simp)
@[simp] theorem eq_strs (x y : Str) : eqD [.str x, .str y] = some (.bl (decide (x = y))) := by
  have : eqD [.str x, .str y] = some (.bl (eqB (.str x) (.str y))) := rfl
  rw [this, eqB_ss]
@[simp] theorem ne_strs (x y : Str) : neD [.str x, .str y] = some (.bl (!decide (x = y))) := by
  have : neD [.str x, .str y] = some (.bl (!eqB (.str x) (.str y))) := rfl
  rw [this, eqB_ss]
@[simp] theorem eq_ints (x y : Int) : eqD [.int x, .int y] = some (.bl (decide (x = y))) := by
  have : eqD [.int x, .int y] = some (.bl (eqB (.int x) (.int y))) := rfl
  rw [this, eqB_ii]
end Gm
end
section
namespace Gm
open PySem DL Gx
def isStr : D → Bool
  | .str _ => true
  | _ => false
def termD : D → Bool
  | .tup [.str x, b] => decide (x = "age") && inR b 0 9999
  | .tup [.str x, b, c] => !decide (x = "age") && (decide (x = "parting") && (kD b && kD c))
  | _ => false
theorem isi_str (d : D) (h : d.isPy = true) : isiD [d, .ty "str"] = some (.bl (isStr d)) := by
  rw [isi_py d "str" h (by decide)]
  cases d <;> first | (cases h; done) | rfl
@[simp] theorem ixT0 (a : D) (vs : List D) : ix2D [.tup (a :: vs), .int 0] = some a := ixT _ 0 a rfl
@[simp] theorem ixT1 (a b : D) (vs : List D) : ix2D [.tup (a :: b :: vs), .int 1] = some b := ixT _ 1 b rfl
@[simp] theorem ixT2 (a b c : D) (vs : List D) : ix2D [.tup (a :: b :: c :: vs), .int 2] = some c := ixT _ 2 c rfl
theorem pyL_cons {a : D} {vs : List D} (h : D.isPyL (a :: vs) = true) : a.isPy = true ∧ D.isPyL vs = true := by
  simpa only [D.isPyL, Bool.and_eq_true] using h
theorem is_term_eq (d : D) (h : d.isPy = true) : m_is_term [d] = .ok (.bl (termD d)) [] := by
  have h1 := is_tuple_of_eq d 2 3 h
  cases d with
  | tup vs =>
    have hp : D.isPyL vs = true := by simpa only [D.isPy] using h
    match vs, hp with
    | [], _ => simp [m_is_term, g_is_term, evalA, fillA, h1, termD]
    | [a], _ => simp [m_is_term, g_is_term, evalA, fillA, h1, termD]
    | [a, b], hp =>
      obtain ⟨ha, hp⟩ := pyL_cons hp
      obtain ⟨hb, hp⟩ := pyL_cons hp
      have h2 := isi_str a ha
      have h3 := is_age_eq b hb
      cases a with
      | str x => simp [m_is_term, g_is_term, evalA, fillA, h1, h2, h3, termD, isStr]; try trace_state
      | _ => first | (cases ha; done) | (simp [m_is_term, g_is_term, evalA, fillA, h1, h2, termD, isStr])
    | [a, b, c], hp =>
      obtain ⟨ha, hp⟩ := pyL_cons hp
      obtain ⟨hb, hp⟩ := pyL_cons hp
      obtain ⟨hc, hp⟩ := pyL_cons hp
      have h2 := isi_str a ha
      have h3 := is_kind_eq b hb
      have h4 := is_kind_eq c hc
      cases a with
      | str x => simp [m_is_term, g_is_term, evalA, fillA, h1, h2, h3, h4, termD, isStr]; try trace_state
      | _ => first | (cases ha; done) | (simp [m_is_term, g_is_term, evalA, fillA, h1, h2, termD, isStr])
    | a :: b :: c :: e :: vs, _ =>
      have c1 : ¬ ((vs.length : Int) + 1 + 1 + 1 + 1 ≤ 3) := by omega
      simp [m_is_term, g_is_term, evalA, fillA, h1, termD, c1]
  | _ => first | (cases h; done) | (simp [m_is_term, g_is_term, evalA, fillA, h1, termD])
end Gm
end
section
namespace Gm
open PySem DL Gx
/-- the stream's state -/
def Sm (ns : List Int) (c : Int) (k : Nat) : D := .lst [.lst (ns.map .int), .int c, .int k]
theorem ixLn (vs : List D) (i : Nat) (d : D) (h : vs[i]? = some d) : ix2D [.lst vs, .int (i : Nat)] = some d := by
  show ixD [.lst vs, .int i] = _
  simp only [ixD]
  exact L2.atI_nat h
@[simp] theorem ixL0 (a : D) (vs : List D) : ix2D [.lst (a :: vs), .int 0] = some a := ixLn _ 0 a rfl
@[simp] theorem ixL1 (a b : D) (vs : List D) : ix2D [.lst (a :: b :: vs), .int 1] = some b := ixLn _ 1 b rfl
@[simp] theorem ixL2 (a b c : D) (vs : List D) : ix2D [.lst (a :: b :: c :: vs), .int 2] = some c := ixLn _ 2 c rfl
@[simp] theorem modD_pos (i j : Int) (h : 0 < j) : modD [.int i, .int j] = some (.int (i % j)) := by simp [modD, h]
@[simp] theorem mulD_r (i j : Int) (h : j.natAbs < 2 ^ 64) : mulD [.int i, .int j] = some (.int (i * j)) := by
  simp only [mulD, decide_eq_true h, Bool.or_true, if_true]
@[simp] theorem intD_int (i : Int) : intD [.int i] = some (.int i) := rfl
@[simp] theorem absD_int (i : Int) : absD [.int i] = some (.int (if i < 0 then -i else i)) := rfl
theorem put1 (f : M D) (ρ ρ' : DL.Env) (d x y z : D) (hf : f ρ = .ok d ρ') (h : ρ'[0]? = some (some (.lst [x, y, z]))) : sPutI 0 (eC (.int 1)) f ρ = .ok .nx (ρ'.set 0 (some (.lst [x, d, z]))) := by
  simp [sPutI, hf, h]
  rfl
theorem put2 (f : M D) (ρ ρ' : DL.Env) (d x y z : D) (hf : f ρ = .ok d ρ') (h : ρ'[0]? = some (some (.lst [x, y, z]))) : sPutI 0 (eC (.int 2)) f ρ = .ok .nx (ρ'.set 0 (some (.lst [x, y, d]))) := by
  simp [sPutI, hf, h]
  rfl
theorem p18 : powD [.int 10, .int 18] = some (.int 1000000000000000000) := by rfl
def mixA : M Fl := (sAsg (appM [.v (appM [.v (appM [.v (appM [.v (appM [.v (eV 3), .v (eC (.int 48271))] mulD), .v (appM [.v (eV 2), .v (eC (.int 69621))] mulD)] addD), .v (eC (.int 11))] addD)] intD), .v (eC (.int 2147483647))] modD) (gV 3))
def mixB : M Fl := (sAsg (appM [.v (appM [.v (appM [.v (appM [.v (appM [.v (appM [.v (eV 3), .v (eC (.int 16807))] mulD), .v (eC (.int 13))] addD)] intD), .v (eC (.int 2147483647))] modD), .v (eC (.int 65537))] mulD), .v (eV 3)] addD) (gV 3))
theorem mul_lit (i j : Int) (h : decide (j.natAbs < 2 ^ 64) = true) : mulD [.int i, .int j] = some (.int (i * j)) := by
  simp only [mulD, h, Bool.or_true, if_true]
theorem mod_lit (i j : Int) (h : decide (0 < j) = true) : modD [.int i, .int j] = some (.int (i % j)) := by
  simp only [modD, h, if_true]
theorem mixA_ex (a b : Option D) (k x : Int) : ∃ y, mixA [a, b, some (.int k), some (.int x), none] = .ok .nx [a, b, some (.int k), some (.int y), none] := by
  have m1 := mul_lit x 48271 (by decide +kernel)
  have m2 := mul_lit k 69621 (by decide +kernel)
  have m3 := mod_lit (x * 48271 + k * 69621 + 11) 2147483647 (by decide +kernel)
  generalize (x * 48271 + k * 69621 + 11) % 2147483647 = r at m3
  refine ⟨r, ?_⟩
  simp only [mixA, ev_asg, ev_app2v, ev_app1v, ev_eV, eC_app, Res.bind_ok, List.getElem?_cons_succ, List.getElem?_cons_zero, m1, m2, m3, M.opt_some, addD_int, intD_int, ev_gV]
  rfl
theorem mixB_ex (a b : Option D) (k x : Int) : ∃ y, mixB [a, b, some (.int k), some (.int x), none] = .ok .nx [a, b, some (.int k), some (.int y), none] := by
  have m1 := mul_lit x 16807 (by decide +kernel)
  have m3 := mod_lit (x * 16807 + 13) 2147483647 (by decide +kernel)
  generalize (x * 16807 + 13) % 2147483647 = r at m3
  have m2 := mul_lit r 65537 (by decide +kernel)
  refine ⟨r * 65537 + x, ?_⟩
  simp only [mixB, ev_asg, ev_app2v, ev_app1v, ev_eV, eC_app, Res.bind_ok, List.getElem?_cons_succ, List.getElem?_cons_zero, m1, m2, m3, M.opt_some, addD_int, intD_int, ev_gV]
  rfl
def mixT : M Fl := (sIf (eTst (appM [.v (eV 3), .v (appM [.v (eC (.int 10)), .v (eC (.int 18))] powD)] ltD)) (sSeq mixA mixB) sNx)
theorem mixT_ex (a b : Option D) (k x : Int) : ∃ y, mixT [a, b, some (.int k), some (.int x), none] = .ok .nx [a, b, some (.int k), some (.int y), none] := by
  have e : mixT [a, b, some (.int k), some (.int x), none] = cnd (decide (x < 1000000000000000000)) (sSeq mixA mixB [a, b, some (.int k), some (.int x), none]) (.ok .nx [a, b, some (.int k), some (.int x), none]) := by
    simp only [mixT, ev_sif, ev_tst, ev_app2v, ev_eV, eC_app, Res.bind_ok, List.getElem?_cons_succ, List.getElem?_cons_zero, p18, M.opt_some, ltD_int, M.pure_app, ev_nx]
  rw [e]
  cases decide (x < 1000000000000000000) with
  | false => exact ⟨x, rfl⟩
  | true =>
    obtain ⟨y, hy⟩ := mixA_ex a b k x
    obtain ⟨z, hz⟩ := mixB_ex a b k y
    refine ⟨z, ?_⟩
    simp only [cnd_t, ev_seq, hy, hz, Res.bind_ok]
def putT : M Fl := (sSeq (sPutI 0 (eC (.int 1)) (eV 3)) (sPutI 0 (eC (.int 2)) (appM [.v (eV 2), .v (eC (.int 1))] addD)))
theorem putT_eq (ns : List Int) (c : Int) (k : Nat) (b : Option D) (y : Int) : putT [some (Sm ns c k), b, some (.int k), some (.int y), none] = .ok .nx [some (Sm ns y (k + 1)), b, some (.int k), some (.int y), none] := by
  rw [putT, ev_seq, put1 (eV 3) _ [some (Sm ns c k), b, some (.int k), some (.int y), none] (.int y) (.lst (ns.map .int)) (.int c) (.int k) rfl rfl]
  simp only [Res.bind_ok]
  rw [put2 (appM [.v (eV 2), .v (eC (.int 1))] addD) _ _ (.int (k + 1)) (.lst (ns.map .int)) (.int y) (.int k) rfl rfl]
  rfl
def nx1 : M Fl := (sIf (eTst (appM [.v (appM [.p 0, .v (eC (.int 1))] ix2D), .v (eC (.int 0))] eqD)) (sSeq (sAsg (appM [.p 0, .v (eC (.int 2))] ix2D) (gV 2))
  (sSeq (sAsg (appM [.v (eC (.int 7)), .v (eV 2)] addD) (gV 3))
  (sSeq (sIf (eTst (appM [.v (eV 2), .v (appM [.v (appM [.p 0, .v (eC (.int 0))] ix2D)] len3D)] ltD)) (sAsg (appM [.v (appM [.v (appM [.p 0, .v (eC (.int 0))] ix2D), .v (eV 2)] ix2D)] absD) (gV 3)) sNx)
  (sSeq mixT putT)))) sNx)
def nx2 : M Fl := (sSeq (sAsg (appM [.v (appM [.v (appM [.p 0, .v (eC (.int 1))] ix2D)] intD), .v (eV 1)] modD) (gV 4))
  (sSeq (sPutI 0 (eC (.int 1)) (appM [.v (appM [.p 0, .v (eC (.int 1))] ix2D), .v (eV 1)] fdivD))
  (sRet (eV 4))))
theorem next_parts : g__law_next = sSeq nx1 nx2 := by
  simp only [g__law_next, nx1, nx2, mixT, mixA, mixB, putT]
theorem tail_ex (ns : List Int) (c : Int) (k : Nat) (many : D) (x : Int) : ∃ c' k' a b, (sSeq mixT putT) [some (Sm ns c k), some many, some (.int k), some (.int x), none] = .ok .nx [some (Sm ns c' k'), some many, a, b, none] := by
  obtain ⟨y, hy⟩ := mixT_ex (some (Sm ns c k)) (some many) k x
  refine ⟨y, k + 1, some (.int k), some (.int y), ?_⟩
  rw [ev_seq, hy, Res.bind_ok]
  exact putT_eq ns c k _ y
def nxG (T : M Fl) : M Fl := (sIf (eTst (appM [.v (appM [.p 0, .v (eC (.int 1))] ix2D), .v (eC (.int 0))] eqD)) (sSeq (sAsg (appM [.p 0, .v (eC (.int 2))] ix2D) (gV 2))
  (sSeq (sAsg (appM [.v (eC (.int 7)), .v (eV 2)] addD) (gV 3))
  (sSeq (sIf (eTst (appM [.v (eV 2), .v (appM [.v (appM [.p 0, .v (eC (.int 0))] ix2D)] len3D)] ltD)) (sAsg (appM [.v (appM [.v (appM [.p 0, .v (eC (.int 0))] ix2D), .v (eV 2)] ix2D)] absD) (gV 3)) sNx)
  T))) sNx)
theorem nxG_far (T : M Fl) (ns : List Int) (k : Nat) (many : D) (hk : ¬ (k : Int) < ns.length) : nxG T [some (Sm ns 0 k), some many, none, none, none] = T [some (Sm ns 0 k), some many, some (.int k), some (.int (7 + k)), none] := by
  simp [nxG, Sm, hk]
theorem nxG_in (T : M Fl) (ns : List Int) (k : Nat) (many : D) (hk : (k : Int) < ns.length) (z : Int) (hi : ix2D [.lst (ns.map .int), .int k] = some (.int z)) : nxG T [some (Sm ns 0 k), some many, none, none, none] = T [some (Sm ns 0 k), some many, some (.int k), some (.int (if z < 0 then -z else z)), none] := by
  simp [nxG, Sm, hk, hi]
theorem nxG_skip (T : M Fl) (ns : List Int) (c : Int) (k : Nat) (many : D) (h : ¬ c = 0) : nxG T [some (Sm ns c k), some many, none, none, none] = .ok .nx [some (Sm ns c k), some many, none, none, none] := by
  simp [nxG, Sm, h]
theorem nx1_G : nx1 = nxG (sSeq mixT putT) := by
  unfold nx1 nxG
  rfl
theorem nx1_ex (ns : List Int) (c : Int) (k : Nat) (many : D) : ∃ c' k' a b, nx1 [some (Sm ns c k), some many, none, none, none] = .ok .nx [some (Sm ns c' k'), some many, a, b, none] := by
  rw [nx1_G]
  by_cases h : c = 0
  · subst h
    by_cases hk : k < ns.length
    · have hk' : (k : Int) < ns.length := by omega
      have hi : ix2D [.lst (ns.map .int), .int k] = some (.int ns[k]) := ixLn _ k _ (by simp [hk])
      rw [nxG_in _ ns k many hk' _ hi]
      exact tail_ex ..
    · have hk' : ¬ (k : Int) < ns.length := by omega
      rw [nxG_far _ ns k many hk']
      exact tail_ex ..
  · exact ⟨c, k, none, none, nxG_skip _ ns c k many h⟩
theorem nx2_ex (ns : List Int) (c : Int) (k : Nat) (many : Int) (a b : Option D) (h : 0 < many) (h2 : many < 1073741824) : nx2 [some (Sm ns c k), some (.int many), a, b, none] = .ok (.rt (.int (c % many))) [some (Sm ns (c / many) k), some (.int many), a, b, some (.int (c % many))] := by
  have m1 := modD_pos c many h
  have m2 : fdivD [.int c, .int many] = some (.int (c / many)) := by simp [fdivD, h, h2]
  have e1 : (sAsg (appM [.v (appM [.v (appM [.p 0, .v (eC (.int 1))] ix2D)] intD), .v (eV 1)] modD) (gV 4)) [some (Sm ns c k), some (.int many), a, b, none] = .ok .nx [some (Sm ns c k), some (.int many), a, b, some (.int (c % many))] := by
    simp [Sm, m1]
  have e2 : (appM [.v (appM [.p 0, .v (eC (.int 1))] ix2D), .v (eV 1)] fdivD) [some (Sm ns c k), some (.int many), a, b, some (.int (c % many))] = .ok (.int (c / many)) [some (Sm ns c k), some (.int many), a, b, some (.int (c % many))] := by
    simp [Sm, m2]
  rw [nx2, ev_seq, e1]
  simp only [Res.bind_ok]
  rw [ev_seq, put1 _ _ _ _ (.lst (ns.map .int)) (.int c) (.int k) e2 rfl]
  rfl
theorem next_ex (ns : List Int) (c : Int) (k : Nat) (many : Int) (h : 0 < many) (h2 : many < 1073741824) : ∃ c' k' v, 0 ≤ v ∧ v < many ∧ m__law_next [Sm ns c k, .int many] = .ok (.int v) [Sm ns c' k'] := by
  obtain ⟨c', k', a, b, e⟩ := nx1_ex ns c k (.int many)
  refine ⟨c' / many, k', c' % many, Int.emod_nonneg _ (by omega), Int.emod_lt_of_pos _ h, ?_⟩
  have e2 := nx2_ex ns c' k' many a b h h2
  have : g__law_next [some (Sm ns c k), some (.int many), none, none, none] = .ok (.rt (.int (c' % many))) [some (Sm ns (c' / many) k'), some (.int many), a, b, some (.int (c' % many))] := by
    rw [next_parts, ev_seq, e, Res.bind_ok]
    exact e2
  unfold m__law_next mkFn
  simp only [List.map_cons, List.map_nil, List.length_cons, List.length_nil]
  have e3 : ([some (Sm ns c k), some (D.int many)] ++ List.replicate (5 - (0 + 1 + 1)) none) = [some (Sm ns c k), some (D.int many), none, none, none] := by rfl
  rw [e3, this]
  rfl
end Gm
end
section
namespace Gm
open PySem DL Gx
/-! ### a stream in slot 0: what a text does, whatever the stream holds -/
def SM {α : Type} (p : Nat) (ns : List Int) (f : M α) (r : DL.Env) (Q : α → DL.Env → Prop) : Prop :=
  ∀ c k, ∃ c' k' a r', f (r.set p (some (Sm ns c k))) = .ok a (r'.set p (some (Sm ns c' k'))) ∧ Q a r'
def SF (ns : List Int) (m : Fn) (ds : List D) (P : D → Prop) : Prop := ∀ c k, ∃ c' k' v, m (Sm ns c k :: ds) = .ok v [Sm ns c' k'] ∧ P v
section
variable {p : Nat} {ns : List Int} {α β : Type} {r : DL.Env}
theorem SM.mono {f : M α} {Q Q' : α → DL.Env → Prop} (h : SM p ns f r Q) (hq : ∀ a r', Q a r' → Q' a r') : SM p ns f r Q' := fun c k =>
  let ⟨c', k', a, r', e, q⟩ := h c k
  ⟨c', k', a, r', e, hq a r' q⟩
theorem SF.mono {m : Fn} {ds : List D} {P P' : D → Prop} (h : SF ns m ds P) (hp : ∀ v, P v → P' v) : SF ns m ds P' := fun c k =>
  let ⟨c', k', v, e, q⟩ := h c k
  ⟨c', k', v, e, hp v q⟩
/-- the stream stays as it is -/
theorem SM.det {f : M α} {Q : α → DL.Env → Prop} (a : α) (r' : DL.Env) (h : ∀ s, f (r.set p (some s)) = .ok a (r'.set p (some s))) (q : Q a r') : SM p ns f r Q := fun c k =>
  ⟨c, k, a, r', h _, q⟩
theorem SM.bind {f : M α} {g : α → M β} {Q : β → DL.Env → Prop} (h : SM p ns f r fun a r' => SM p ns (g a) r' Q) : SM p ns (f.bind g) r Q := fun c k => by
  obtain ⟨c', k', a, r', e, q⟩ := h c k
  obtain ⟨c2, k2, b, r2, e2, q2⟩ := q c' k'
  exact ⟨c2, k2, b, r2, by rw [M.bind_app, e, Res.bind_ok, e2], q2⟩
theorem SM.pure {a : α} {Q : α → DL.Env → Prop} (q : Q a r) : SM p ns (M.pure a) r Q := fun c k => ⟨c, k, a, r, rfl, q⟩
theorem SM.opt {o : Option α} {Q : α → DL.Env → Prop} (a : α) (h : o = some a) (q : Q a r) : SM p ns (M.opt o) r Q := fun c k => ⟨c, k, a, r, by subst h; rfl, q⟩
theorem SM.congr {f g : M α} {Q : α → DL.Env → Prop} (h : ∀ ρ, f ρ = g ρ) (hg : SM p ns g r Q) : SM p ns f r Q := by
  have : f = g := funext h
  rw [this]; exact hg
theorem SM.v {i : Nat} {d : D} {Q : D → DL.Env → Prop} (h : r[i]? = some (some d)) (q : Q d r) (hi : p ≠ i := by decide) : SM p ns (eV i) r Q :=
  SM.det d r (fun s => by simp [List.getElem?_set_ne hi, h]) q
theorem SM.c {d : D} {Q : D → DL.Env → Prop} (q : Q d r) : SM p ns (eC d) r Q := SM.pure q
theorem SM.app1 {f : M D} {g : List D → Option D} {Q : D → DL.Env → Prop} (h : SM p ns f r fun a r1 => ∃ d, g [a] = some d ∧ Q d r1) : SM p ns (appM [.v f] g) r Q :=
  SM.congr (g := f.bind fun a => M.opt (g [a])) (fun ρ => by simp) (SM.bind (h.mono fun a r1 ⟨d, e, q⟩ => SM.opt d e q))
theorem SM.app2 {f h : M D} {g : List D → Option D} {Q : D → DL.Env → Prop} (hf : SM p ns f r fun a r1 => SM p ns h r1 fun b r2 => ∃ d, g [a, b] = some d ∧ Q d r2) : SM p ns (appM [.v f, .v h] g) r Q :=
  SM.congr (g := f.bind fun a => h.bind fun b => M.opt (g [a, b])) (fun ρ => by simp; rfl) (SM.bind (hf.mono fun a r1 q1 => SM.bind (q1.mono fun b r2 ⟨d, e, q⟩ => SM.opt d e q)))
theorem SM.tst {f : M D} {Q : Bool → DL.Env → Prop} (h : SM p ns f r fun d r1 => ∃ b, d = .bl b ∧ Q b r1) : SM p ns (eTst f) r Q :=
  SM.bind (h.mono fun d r1 ⟨b, e, q⟩ => by subst e; exact SM.pure q)
theorem SM.tru {f : M D} {Q : Bool → DL.Env → Prop} (h : SM p ns f r fun d r1 => ∃ b, truthD d = some b ∧ Q b r1) : SM p ns (eTru f) r Q :=
  SM.bind (h.mono fun d r1 ⟨b, e, q⟩ => SM.opt b e q)
theorem SM.tnot {f : M Bool} {Q : Bool → DL.Env → Prop} (h : SM p ns f r fun b r1 => Q (!b) r1) : SM p ns (tNotM f) r Q :=
  SM.bind (h.mono fun d r1 q => SM.pure q)
theorem SM.tand {f g : M Bool} {Q : Bool → DL.Env → Prop} (h : SM p ns f r fun b r1 => (b = true → SM p ns g r1 Q) ∧ (b = false → Q false r1)) : SM p ns (tAndM f g) r Q :=
  SM.bind (h.mono fun b r1 q => match b, q with
    | true, q => q.1 rfl
    | false, q => SM.pure (q.2 rfl))
theorem SM.tor {f g : M Bool} {Q : Bool → DL.Env → Prop} (h : SM p ns f r fun b r1 => (b = true → Q true r1) ∧ (b = false → SM p ns g r1 Q)) : SM p ns (tOrM f g) r Q :=
  SM.bind (h.mono fun b r1 q => match b, q with
    | true, q => SM.pure (q.1 rfl)
    | false, q => q.2 rfl)
theorem SM.sif {t : M Bool} {s u : M Fl} {Q : Fl → DL.Env → Prop} (h : SM p ns t r fun b r1 => (b = true → SM p ns s r1 Q) ∧ (b = false → SM p ns u r1 Q)) : SM p ns (sIf t s u) r Q :=
  SM.congr (g := t.bind fun b => if b then s else u) (fun ρ => by simp [cnd_ite]; congr 1; funext c ρ; cases c <;> rfl) (SM.bind (h.mono fun b r1 q => match b, q with
    | true, q => q.1 rfl
    | false, q => q.2 rfl))
theorem SM.eif {t : M Bool} {s u : M D} {Q : D → DL.Env → Prop} (h : SM p ns t r fun b r1 => (b = true → SM p ns s r1 Q) ∧ (b = false → SM p ns u r1 Q)) : SM p ns (eIf t s u) r Q :=
  SM.congr (g := t.bind fun b => if b then s else u) (fun ρ => by simp [cnd_ite]; congr 1; funext c ρ; cases c <;> rfl) (SM.bind (h.mono fun b r1 q => match b, q with
    | true, q => q.1 rfl
    | false, q => q.2 rfl))
theorem SM.nx {Q : Fl → DL.Env → Prop} (q : Q .nx r) : SM p ns sNx r Q := SM.pure q
theorem SM.bk {Q : Fl → DL.Env → Prop} (q : Q .bk r) : SM p ns sBk r Q := SM.pure q
theorem SM.ret {f : M D} {Q : Fl → DL.Env → Prop} (h : SM p ns f r fun d r1 => Q (.rt d) r1) : SM p ns (sRet f) r Q :=
  SM.bind (h.mono fun d r1 q => SM.pure q)
theorem SM.seq {s t : M Fl} {Q : Fl → DL.Env → Prop} (h : SM p ns s r fun fl r1 => match fl with | .nx => SM p ns t r1 Q | fl => Q fl r1) : SM p ns (sSeq s t) r Q := fun c k => by
  obtain ⟨c', k', a, r', e, q⟩ := h c k
  rw [ev_seq, e, Res.bind_ok]
  cases a with
  | nx => exact q c' k'
  | _ => exact ⟨c', k', _, r', rfl, q⟩
theorem SM.asg {f : M D} {i : Nat} {Q : Fl → DL.Env → Prop} (h : SM p ns f r fun d r1 => Q .nx (r1.set i (some d))) (hi : p ≠ i := by decide) : SM p ns (sAsg f (gV i)) r Q := fun c k => by
  obtain ⟨c', k', a, r', e, q⟩ := h c k
  exact ⟨c', k', _, _, by simp only [ev_asg, e, Res.bind_ok, ev_gV, List.set_comm _ _ hi], q⟩
theorem SM.asgO {f : M D} {i : Nat} {Q : Fl → DL.Env → Prop} (h : SM p ns f r fun d r1 => Q .nx (r1.set i (some d))) (hi : p ≠ i := by decide) : SM p ns (sAsgO i f) r Q := fun c k => by
  obtain ⟨c', k', a, r', e, q⟩ := h c k
  exact ⟨c', k', _, _, by simp only [ev_asgO, e, Res.bind_ok, List.set_comm _ _ hi], q⟩
/-! operands -/
theorem SM.V0 {Q : List D → DL.Env → Prop} (q : Q [] r) : SM p ns (evalV []) r Q := SM.pure q
theorem SM.V1 {f : M D} {fs : List (M D)} {Q : List D → DL.Env → Prop} (h : SM p ns f r fun d r1 => SM p ns (evalV fs) r1 fun ds r2 => Q (d :: ds) r2) : SM p ns (evalV (f :: fs)) r Q :=
  SM.congr (g := f.bind fun d => (evalV fs).bind fun ds => M.pure (d :: ds)) (fun ρ => by simp; rfl) (SM.bind (h.mono fun d r1 q => SM.bind (q.mono fun ds r2 q => SM.pure q)))
theorem SM.lst {fs : List (M D)} {Q : D → DL.Env → Prop} (h : SM p ns (evalV fs) r fun ds r1 => lenOk ds.length = true ∧ Q (.lst ds) r1) : SM p ns (eLst fs) r Q :=
  SM.congr (g := (evalV fs).bind fun ds => M.opt (if lenOk ds.length then some (.lst ds) else none)) (fun ρ => by simp) (SM.bind (h.mono fun ds r1 ⟨e, q⟩ => SM.opt (.lst ds) (by rw [e]; rfl) q))
theorem SM.tup {fs : List (M D)} {Q : D → DL.Env → Prop} (h : SM p ns (evalV fs) r fun ds r1 => lenOk ds.length = true ∧ Q (.tup ds) r1) : SM p ns (eTup fs) r Q :=
  SM.congr (g := (evalV fs).bind fun ds => M.opt (if lenOk ds.length then some (.tup ds) else none)) (fun ρ => by simp) (SM.bind (h.mono fun ds r1 ⟨e, q⟩ => SM.opt (.tup ds) (by rw [e]; rfl) q))
theorem SM.new {f : M D} {Q : D → DL.Env → Prop} (h : SM p ns f r fun d r1 => ∃ ds, d = .lst ds ∧ Q (.lst ds) r1) : SM p ns (eNew f) r Q :=
  SM.bind (h.mono fun d r1 ⟨ds, e, q⟩ => by subst e; exact SM.pure q)
theorem SM.asInt {f : M D} {Q : D → DL.Env → Prop} (h : SM p ns f r fun d r1 => ∃ i, d = .int i ∧ Q (.int i) r1) : SM p ns (asInt f) r Q :=
  SM.bind (h.mono fun d r1 ⟨ds, e, q⟩ => by subst e; exact SM.pure q)
theorem SM.asStr {f : M D} {Q : D → DL.Env → Prop} (h : SM p ns f r fun d r1 => ∃ i, d = .str i ∧ Q (.str i) r1) : SM p ns (asStr f) r Q :=
  SM.bind (h.mono fun d r1 ⟨ds, e, q⟩ => by subst e; exact SM.pure q)
/-! calls with the stream -/
theorem SM.call0 {m : Fn} {Q : D → DL.Env → Prop} (hp : p < r.length) (hm : SF ns m [] fun v => Q v r) : SM p ns (eCall m [0] [.p p] []) r Q := fun c k => by
  obtain ⟨c2, k2, v, em, q⟩ := hm c k
  refine ⟨c2, k2, v, r, ?_, q⟩
  simp [eCall, evalA, fillA, em, putOuts, hp]
theorem SM.call1 {m : Fn} {f : M D} {Q : D → DL.Env → Prop} (hp : p < r.length) (h : SM p ns f r fun d r1 => p < r1.length ∧ SF ns m [d] fun v => Q v r1) : SM p ns (eCall m [0] [.p p, .v f] []) r Q := fun c k => by
  obtain ⟨c', k', d, r', e, hp', q⟩ := h c k
  obtain ⟨c2, k2, v, em, q⟩ := q c' k'
  refine ⟨c2, k2, v, r', ?_, q⟩
  simp [eCall, evalA, fillA, e, em, putOuts, hp, hp']
theorem SF.mk {n : Nat} {g : M Fl} {ds : List D} {P : D → Prop} (h : SM 0 ns g (none :: (ds.map some ++ List.replicate (n - (ds.length + 1)) none)) fun fl r' => 0 < r'.length ∧ ∃ v, fl = .rt v ∧ P v) : SF ns (mkFn false n [0] g) ds P := fun c k => by
  obtain ⟨c', k', a, r', e, hl, v, rfl, p⟩ := h c k
  refine ⟨c', k', v, ?_, p⟩
  unfold mkFn
  have : ((Sm ns c k :: ds).map some ++ List.replicate (n - (Sm ns c k :: ds).length) none) = (none :: (ds.map some ++ List.replicate (n - (ds.length + 1)) none)).set 0 (some (Sm ns c k)) := by simp
  rw [this, e]
  cases r' with
  | nil => cases hl
  | cons x xs => rfl
/-! walks -/
theorem SM.forL {i : Nat} {b : M Fl} (hi : p ≠ i) (I : List D → DL.Env → Prop) {Q : Fl → DL.Env → Prop} (hs : ∀ d ds r, I (d :: ds) r → SM p ns b (r.set i (some d)) fun fl r1 => match fl with
    | .nx => I ds r1
    | .ct => I ds r1
    | .bk => Q .nx r1
    | fl => Q fl r1) (hn : ∀ r, I [] r → Q .nx r) : ∀ ds r, I ds r → SM p ns (DL.forL (gV i) b ds) r Q
  | [], r, h => fun c k => ⟨c, k, .nx, r, rfl, hn r h⟩
  | d :: ds, r, h => fun c k => by
    obtain ⟨c', k', a, r', e, q⟩ := hs d ds r h c k
    have ih := SM.forL hi I hs hn ds
    have e0 : (r.set p (some (Sm ns c k))).set i (some d) = (r.set i (some d)).set p (some (Sm ns c k)) := List.set_comm _ _ hi
    cases a with
    | nx =>
      obtain ⟨c2, k2, a2, r2, e2, q2⟩ := ih r' q c' k'
      exact ⟨c2, k2, a2, r2, by simp only [DL.forL, ev_gV, e0, e, e2], q2⟩
    | ct =>
      obtain ⟨c2, k2, a2, r2, e2, q2⟩ := ih r' q c' k'
      exact ⟨c2, k2, a2, r2, by simp only [DL.forL, ev_gV, e0, e, e2], q2⟩
    | bk => exact ⟨c', k', .nx, r', by simp only [DL.forL, ev_gV, e0, e], q⟩
    | rt v => exact ⟨c', k', .rt v, r', by simp only [DL.forL, ev_gV, e0, e], q⟩
    | rf v => exact ⟨c', k', .rf v, r', by simp only [DL.forL, ev_gV, e0, e], q⟩
theorem SM.sFor {i : Nat} {b : M Fl} {fl : M (List D)} {Q : Fl → DL.Env → Prop} (h : SM p ns fl r fun ds r1 => SM p ns (DL.forL (gV i) b ds) r1 Q) : SM p ns (sFor fl (gV i) b) r Q := SM.bind h
end
theorem sf_next (ns : List Int) (many : Int) (h : 0 < many) (h2 : many < 1073741824) : SF ns m__law_next [.int many] fun v => ∃ i, v = .int i ∧ 0 ≤ i ∧ i < many := fun c k =>
  let ⟨c', k', v, h0, h1, e⟩ := next_ex ns c k many h h2
  ⟨c', k', _, e, v, rfl, h0, h1⟩
theorem sf_pick (ns : List Int) (vs : List D) (h : 0 < vs.length) (h2 : vs.length < 1073741824) : SF ns m__law_pick [.lst vs] fun v => v ∈ vs := by
  refine SF.mk (SM.ret (SM.app2 (SM.v (d := .lst vs) rfl (SM.call1 (by simp) (SM.app1 (SM.v (d := .lst vs) rfl ⟨_, len_lst vs, by simp, ?_⟩))))))
  refine (sf_next ns vs.length (by omega) (by omega)).mono ?_
  rintro _ ⟨i, rfl, h0, h1⟩
  have hi : i.toNat < vs.length := by omega
  have e : (i : Int) = (i.toNat : Nat) := by omega
  refine ⟨vs[i.toNat], ?_, by simp, _, rfl, List.getElem_mem hi⟩
  have := ixLn vs i.toNat _ (List.getElem?_eq_getElem hi)
  rwa [← e] at this
end Gm
end
section
namespace Gm
open PySem DL Gx
def texts : List String := ["parting","age","older","group","mark","world","held","bottom","false","near","sure","a","b","z","a0","az"]
def textsD : List D := texts.map fun s => D.str (Str.ofString s)
theorem split_texts : Txt.split (Str.ofString "parting age older group mark world held bottom false near sure a b z a0 az") (Str.ofString " ") = texts.map Str.ofString := by decide +kernel
theorem texts_ok : ∀ d ∈ textsD, kD d = true := by decide +kernel
theorem splitD_texts : splitD [.str "parting age older group mark world held bottom false near sure a b z a0 az", .str " "] = some (.lst textsD) := by
  have e : (!((Str.ofString " ").length == 0) && lenOk ((Str.ofString "parting age older group mark world held bottom false near sure a b z a0 az").length + 2) && lenOk (texts.map Str.ofString).length && (texts.map Str.ofString).all fun z => lenOk z.length) = true := by decide +kernel
  simp only [splitD, split_texts, e, if_true, textsD, List.map_map]
  rfl
theorem ixS (l : List Nat) (i c : Nat) (h : l[i]? = some c) : ix2D [.str ⟨l.toArray⟩, .int (i : Nat)] = some (.str ⟨#[c]⟩) := by
  show ixD [.str ⟨l.toArray⟩, .int i] = _
  simp only [ixD]
  have : L2.atI l (i : Int) = some c := L2.atI_nat h
  simp [this]
theorem low_mem {c : Nat} (h : c ∈ aL) : low c = true := by rw [← mem26]; exact decide_eq_true h
theorem alnum_mem {c : Nat} (h : c ∈ aL ++ nL) : alnum c = true := by rw [← mem36]; exact decide_eq_true h
theorem low_alnum {c : Nat} (h : low c = true) : alnum c = true := by simp [alnum, h]
/-- one of a row's signs, by a digit -/
theorem pick_sign (l : List Nat) (i : Int) (h0 : 0 ≤ i) (h1 : i < l.length) : ∃ c, ix2D [.str ⟨l.toArray⟩, .int i] = some (.str ⟨#[c]⟩) ∧ c ∈ l := by
  have hi : i.toNat < l.length := by omega
  have := ixS l i.toNat _ (List.getElem?_eq_getElem hi)
  have e : ((i.toNat : Nat) : Int) = i := by omega
  rw [e] at this
  exact ⟨_, this, List.getElem_mem hi⟩
theorem addS (x y : Str) (h : x.length + y.length ≤ 16777216) : addD [.str x, .str y] = some (.str (x ++ y)) := by
  simp only [addD, lenOk_lit h, if_true]
theorem app_list (x y : Str) : (x ++ y).cps.toList = x.cps.toList ++ y.cps.toList := by
  show (x.cps ++ y.cps).toList = _
  exact Array.toList_append
/-- a kind that may grow -/
def gS (x : Str) : Prop := (∃ c cs, x.cps.toList = c :: cs ∧ low c = true) ∧ x.cps.toList.all alnum = true
theorem gS_kS {x : Str} (h : gS x) (hl : x.length ≤ 12) : kS x = true := by
  obtain ⟨⟨c, cs, e, hc⟩, ha⟩ := h
  have := str_cons x c cs e
  simp only [kS, Bool.and_eq_true, decide_eq_true_eq]
  rw [e] at ha ⊢
  exact ⟨⟨⟨by omega, hl⟩, hc⟩, ha⟩
theorem gS_one {c : Nat} (h : low c = true) : gS ⟨#[c]⟩ := ⟨⟨c, [], rfl, h⟩, by simp [low_alnum h]⟩
theorem gS_app {x : Str} {c : Nat} (h : gS x) (hc : alnum c = true) : gS (x ++ ⟨#[c]⟩) := by
  obtain ⟨⟨d, cs, e, hd⟩, ha⟩ := h
  refine ⟨⟨d, cs ++ [c], by rw [app_list, e]; rfl, hd⟩, ?_⟩
  rw [app_list, List.all_append, ha]
  simp [hc]
theorem len_one (c : Nat) : (⟨#[c]⟩ : Str).length = 1 := rfl
theorem rangeL_len0 (n : Nat) : (rangeL 0 n).length = n := rangeL_len ..
theorem sf_kind (ns : List Int) : SF ns m__law_kind [] fun v => kD v = true := by
  refine SF.mk (SM.seq (SM.sif (SM.tst (SM.app2 (SM.call1 (by simp) (SM.c ⟨by simp, ?_⟩))))))
  refine (sf_next ns 5 (by decide) (by decide)).mono ?_
  rintro _ ⟨i, rfl, h0, h1⟩
  refine SM.c ⟨_, eq_ints i 0, _, rfl, fun _ => ?_, fun _ => ?_⟩
  · refine SM.seq (SM.asg (SM.c (SM.ret (SM.call1 (by simp) (SM.app2 (SM.asStr (SM.v rfl ⟨_, rfl, SM.c ⟨_, splitD_texts, by simp, ?_⟩⟩)))))))
    exact (sf_pick ns textsD (by decide) (by decide)).mono fun v hv => ⟨by simp, v, rfl, texts_ok v hv⟩
  refine SM.nx (SM.seq (SM.asg (SM.app2 (SM.c (SM.call1 (by simp) (SM.c ⟨by simp, ?_⟩))))))
  refine (sf_next ns 26 (by decide) (by decide)).mono ?_
  rintro _ ⟨i, rfl, h0, h1⟩
  obtain ⟨c, e, hc⟩ := pick_sign aL i h0 (by exact h1)
  refine ⟨_, by rw [s26]; exact e, ?_⟩
  refine SM.seq (SM.sFor (SM.bind ?_))
  refine SM.call1 (by simp) ?_
  refine (SM.new (SM.lst (SM.V1 (SM.c (SM.V1 (SM.c (SM.V1 (SM.c (SM.V1 (SM.c (SM.V1 (SM.c (SM.V0 ⟨by decide, _, rfl, by simp, ?_⟩)))))))))))))
  refine (sf_pick ns _ (by decide) (by decide)).mono ?_
  intro v hv
  have hv' : ∃ n : Nat, v = .int n ∧ n ≤ 11 := by
    simp only [List.mem_cons, List.not_mem_nil, or_false] at hv
    rcases hv with rfl | rfl | rfl | rfl | rfl
    · exact ⟨0, rfl, by decide⟩
    · exact ⟨1, rfl, by decide⟩
    · exact ⟨2, rfl, by decide⟩
    · exact ⟨5, rfl, by decide⟩
    · exact ⟨11, rfl, by decide⟩
  obtain ⟨n, rfl, hn⟩ := hv'
  have c1 : decide (-4611686018427387904 ≤ (n : Int)) = true := decide_eq_true (by omega)
  have c2 : decide ((n : Int) < 4611686018427387904) = true := decide_eq_true (by omega)
  refine SM.opt (rangeL 0 n) (by simp [c1, c2]) ?_
  refine SM.forL (by decide) (fun ds r => ∃ x o, r = [none, none, some (.str x), o] ∧ gS x ∧ x.length + ds.length ≤ 12) ?_ ?_ _ _ ⟨_, _, rfl, gS_one (low_mem hc), by rw [len_one, rangeL_len0]; omega⟩
  · rintro d ds r ⟨x, o, rfl, hx, hl⟩
    refine SM.asg (SM.app2 (SM.v rfl (SM.app2 (SM.c (SM.call1 (by simp) (SM.c ⟨by simp, ?_⟩))))))
    refine (sf_next ns 36 (by decide) (by decide)).mono ?_
    rintro _ ⟨i, rfl, h0, h1⟩
    obtain ⟨c, e, hc⟩ := pick_sign (aL ++ nL) i h0 (by exact h1)
    simp only [List.length_cons] at hl
    refine ⟨_, by rw [s36]; exact e, _, addS x _ (by rw [len_one]; omega), ?_⟩
    exact ⟨_, _, rfl, gS_app hx (alnum_mem hc), by rw [str_app_len, len_one]; omega⟩
  · rintro r ⟨x, o, rfl, hx, hl⟩
    exact SM.ret (SM.v rfl ⟨by simp, _, rfl, gS_kS hx (by simp at hl; omega)⟩)
end Gm
end
section
namespace Gm
open PySem DL Gx
theorem cutS_hi (x : Str) (i : Int) : ∃ y : Str, slDhi [.str x, .int i] = some (.str y) ∧ y.length ≤ x.length := by
  refine ⟨_, rfl, ?_⟩
  have := cutL_len x.cps.toList none (some i)
  show (cutL x.cps.toList none (some i)).toArray.size ≤ _
  rw [List.size_toArray]
  exact this
theorem cutS_lo (x : Str) (i : Int) : ∃ y : Str, slDlo [.str x, .int i] = some (.str y) ∧ y.length ≤ x.length := by
  refine ⟨_, rfl, ?_⟩
  have := cutL_len x.cps.toList (some i) none
  show (cutL x.cps.toList (some i) none).toArray.size ≤ _
  rw [List.size_toArray]
  exact this
theorem kS_len {x : Str} (h : kS x = true) : 1 ≤ x.length ∧ x.length ≤ 12 := by
  simp only [kS, Bool.and_eq_true, decide_eq_true_eq] at h
  exact ⟨h.1.1.1, h.1.1.2⟩
theorem SM.same {p : Nat} {ns : List Int} {r : DL.Env} {α : Type} {f : M α} {Q : α → DL.Env → Prop} (a : α) (h : ∀ s, f (r.set p (some s)) = .ok a (r.set p (some s))) (q : Q a r) : SM p ns f r Q := SM.det a r h q
/-- a drawn digit -/
theorem SM.digit {p : Nat} {ns : List Int} {r : DL.Env} {f : M D} {Q : D → DL.Env → Prop} (hp : p < r.length) (many : Int) (h : 0 < many) (h2 : many < 1073741824) (hf : SM p ns f r fun d r1 => d = .int many ∧ p < r1.length ∧ ∀ i, 0 ≤ i → i < many → Q (.int i) r1) : SM p ns (eCall m__law_next [0] [.p p, .v f] []) r Q := by
  refine SM.call1 hp (hf.mono ?_)
  rintro d r1 ⟨rfl, hp1, q⟩
  refine ⟨hp1, (sf_next ns many h h2).mono ?_⟩
  rintro _ ⟨i, rfl, h0, h1⟩
  exact q i h0 h1
/-- a drawn item of a new row -/
theorem SM.item {p : Nat} {ns : List Int} {r : DL.Env} {fs : List (M D)} {Q : D → DL.Env → Prop} (hp : p < r.length) (hf : SM p ns (evalV fs) r fun ds r1 => (0 < ds.length ∧ ds.length < 1000000) ∧ p < r1.length ∧ ∀ v ∈ ds, Q v r1) : SM p ns (eCall m__law_pick [0] [.p p, .v (eNew (eLst fs))] []) r Q := by
  refine SM.call1 hp (SM.new (SM.lst (hf.mono ?_)))
  rintro ds r1 ⟨⟨l0, l1⟩, hp1, q⟩
  exact ⟨lenOk_lit (by omega), _, rfl, hp1, (sf_pick ns ds l0 (by omega)).mono q⟩
/-- `if slot = literal: return …` and on -/
theorem SM.retIf {p : Nat} {ns : List Int} {r : DL.Env} {t : M Bool} {f : M D} {u : M Fl} {Q : Fl → DL.Env → Prop} {b : Bool} (h : ∀ s, t (r.set p (some s)) = .ok b (r.set p (some s))) (h1 : b = true → SM p ns f r fun d r1 => Q (.rt d) r1) (h2 : b = false → SM p ns u r Q) : SM p ns (sSeq (sIf t (sRet f) sNx) u) r Q :=
  SM.seq (SM.sif (SM.det b r h ⟨fun e => SM.ret (h1 e), fun e => SM.nx (h2 e)⟩))
end Gm
end
section
namespace Gm
open PySem DL Gx
/-- the k-th numbered kind -/
def numK (first : Int) (k : Nat) : Nat := ((first + (k : Int) * 7) % 936).toNat
theorem numK_lt (first : Int) (k : Nat) : numK first k < 936 := by
  unfold numK
  have := Int.emod_nonneg (first + (k : Int) * 7) (by decide : (936 : Int) ≠ 0)
  have := Int.emod_lt_of_pos (first + (k : Int) * 7) (by decide : (0 : Int) < 936)
  omega
theorem numK_inj (first : Int) (i j : Nat) (h : numK first i = numK first j) (hl : i < j) (hu : j < i + 100) : False := by
  unfold numK at h
  have h1 := Int.emod_nonneg (first + (i : Int) * 7) (by decide : (936 : Int) ≠ 0)
  have h2 := Int.emod_nonneg (first + (j : Int) * 7) (by decide : (936 : Int) ≠ 0)
  omega
def aN (i : Nat) : Nat := aL.getD i 0
def nN (i : Nat) : Nat := (aL ++ nL).getD i 0
theorem aN_inj : ∀ i < 26, ∀ j < 26, aN i = aN j → i = j := by decide
theorem nN_inj : ∀ i < 36, ∀ j < 36, nN i = nN j → i = j := by decide +kernel
theorem aN_low : ∀ i < 26, low (aN i) = true := by decide
theorem nN_ok : ∀ i < 36, alnum (nN i) = true := by decide
/-- the numbered kind: two signs put into the stem -/
def putK (u v : List Nat) (n : Nat) : Str := ⟨(u ++ [aN (n / 36), nN (n % 36)] ++ v).toArray⟩
theorem putK_inj {u v : List Nat} {n m : Nat} (hn : n < 936) (hm : m < 936) (h : putK u v n = putK u v m) : n = m := by
  have h1 : (putK u v n).cps.toList = (putK u v m).cps.toList := by rw [h]
  simp only [putK] at h1
  have h2 := List.append_cancel_left (List.append_cancel_right h1)
  injection h2 with e1 h3
  injection h3 with e2 _
  have f1 := aN_inj _ (by omega) _ (by omega) e1
  have f2 := nN_inj _ (by omega) _ (by omega) e2
  omega
theorem mem_strs (x : Str) (ys : List Str) : notIn3D [.str x, .lst (ys.map .str)] = some (.bl (!decide (x ∈ ys))) := by
  have hf : (ys.map D.str).all D.flat = true := by simp [List.all_map, D.flat]
  have ha : ((ys.map D.str).any fun y => eqB y (.str x)) = decide (x ∈ ys) := by
    rw [Bool.eq_iff_iff]
    simp only [List.any_map, List.any_eq_true, Function.comp, eqB_ss, decide_eq_true_eq]
    constructor
    · rintro ⟨y, hy, rfl⟩
      exact hy
    · intro h
      exact ⟨x, h, rfl⟩
  have h1 : in3D [.str x, .lst (ys.map .str)] = some (.bl (decide (x ∈ ys))) := by
    show inD [.str x, .lst (ys.map .str)] = _
    simp only [inD, hf, ha, D.flat, Bool.true_and, Bool.true_or, if_true]
  simp only [notIn3D, h1]
  rfl
theorem strsL_map : ∀ ys : List Str, strsL (ys.map .str) = some ys
  | [] => rfl
  | y :: ys => by simp only [List.map_cons, strsL, strsL_map ys, Option.map_some]
theorem sort_strs (ys : List Str) (h : ys.length < 64) : sorted2D [.lst (ys.map .str)] = some (.lst ((ys.mergeSort leS).map .str)) := by
  show sortedD [.lst (ys.map .str)] = _
  cases ys with
  | nil => simp [sortedD, intsL]
  | cons y ys =>
    have : intsL ((y :: ys).map D.str) = none := by simp [intsL]
    simp only [sortedD, this, strsL_map, h, if_true]
end Gm
end
section
namespace Gm
open PySem DL Gx
theorem leS_iff (x y : Str) : leS x y = true ↔ x.cps.toList ≤ y.cps.toList := by
  rw [← List.not_lt]
  simp [leS, ltS]
theorem ltS_iff (x y : Str) : ltS x y = true ↔ x.cps.toList < y.cps.toList := by simp [ltS]
theorem str_ext {x y : Str} (h : x.cps.toList = y.cps.toList) : x = y := by
  cases x; cases y
  simp only at h
  congr 1
  exact Array.toList_inj.mp h
theorem lt_of_le_ne {x y : Str} (h : leS x y = true) (hn : x ≠ y) : ltS x y = true := by
  rw [leS_iff] at h
  rw [ltS_iff]
  by_cases z : x.cps.toList < y.cps.toList
  · exact z
  · exact absurd (str_ext (List.le_antisymm h (List.not_lt.mp z))) hn
/-- a sorted row of different kinds is a good row -/
theorem sort_row (ys : List Str) (hk : ∀ y ∈ ys, kS y = true) (hd : ys.Nodup) : ((ys.mergeSort leS).map D.str).all kD = true ∧ ascD ((ys.mergeSort leS).map .str) = true ∧ ((ys.mergeSort leS).map D.str).length = ys.length := by
  have hp := List.mergeSort_perm ys leS
  refine ⟨?_, ?_, by rw [List.length_map, hp.length_eq]⟩
  · rw [List.all_eq_true]
    intro d hd
    obtain ⟨y, hy, rfl⟩ := List.mem_map.mp hd
    exact hk y (hp.mem_iff.mp hy)
  · have hs := List.pairwise_mergeSort (le := leS) (fun a b c h1 h2 => by
      rw [leS_iff] at *
      exact List.le_trans h1 h2) (fun a b => by
      rw [Bool.or_eq_true, leS_iff, leS_iff]
      exact List.le_total _ _) ys
    have hn : (ys.mergeSort leS).Nodup := hp.nodup_iff.mpr hd
    have hb := hs.and hn
    unfold ascD
    rw [List.all_eq_true]
    intro i hi
    rw [List.mem_range, List.length_map] at hi
    have hi1 : i < (ys.mergeSort leS).length := by omega
    have hi2 : i + 1 < (ys.mergeSort leS).length := by omega
    have := List.pairwise_iff_getElem.mp hb i (i + 1) hi1 hi2 (by omega)
    simp only [List.getElem?_map, List.getElem?_eq_getElem hi1, List.getElem?_eq_getElem hi2, Option.map_some, ltP]
    exact lt_of_le_ne this.1 this.2
end Gm
end
section
namespace Gm
open PySem DL Gx
theorem cut_take {α : Type} (xs : List α) (n : Nat) : cutL xs none (some (n : Int)) = xs.take n := by
  unfold cutL
  rw [HT.sIx_nat, HT.sIx_none, List.drop_zero, Nat.sub_zero]
  by_cases h : n ≤ xs.length
  · rw [Nat.min_eq_left h]
  · rw [Nat.min_eq_right (by omega), List.take_of_length_le (Nat.le_refl _), List.take_of_length_le (by omega)]
theorem cut_drop {α : Type} (xs : List α) (n : Nat) : cutL xs (some (n : Int)) none = xs.drop n := by
  unfold cutL
  rw [HT.sIx_nat, HT.sIx_none]
  rw [List.take_of_length_le (by rw [List.length_drop]; omega)]
  by_cases h : n ≤ xs.length
  · rw [Nat.min_eq_left h]
  · rw [Nat.min_eq_right (by omega), List.drop_eq_nil_of_le (Nat.le_refl _), List.drop_eq_nil_of_le (by omega)]
theorem hi_eq (l : List Nat) (n : Nat) : slDhi [.str ⟨l.toArray⟩, .int n] = some (.str ⟨(l.take n).toArray⟩) := by
  show some (D.str ⟨(cutL l none (some (n : Int))).toArray⟩) = _
  rw [cut_take]
theorem lo_eq (l : List Nat) (n : Nat) : slDlo [.str ⟨l.toArray⟩, .int n] = some (.str ⟨(l.drop n).toArray⟩) := by
  show some (D.str ⟨(cutL l (some (n : Int)) none).toArray⟩) = _
  rw [cut_drop]
/-- a stem: at most ten signs, the first a letter -/
structure Stem (l : List Nat) : Prop where
  len : l.length ≤ 10
  al : l.all alnum = true
  hd : ∀ c cs, l = c :: cs → low c = true
theorem putK_ok {l : List Nat} (h : Stem l) (a n : Nat) (hn : n < 936) : kS (putK (l.take a) (l.drop a) n) = true := by
  have hal : (l.take a).all alnum = true ∧ (l.drop a).all alnum = true := by
    have := h.al
    rw [← List.take_append_drop a l, List.all_append, Bool.and_eq_true] at this
    exact this
  have hlen : (l.take a).length + (l.drop a).length = l.length := by
    rw [← List.length_append, List.take_append_drop]
  have hh := h.len
  have hlow := aN_low (n / 36) (by omega)
  refine gS_kS ⟨?_, ?_⟩ ?_
  · cases e : l.take a with
    | nil => exact ⟨aN (n / 36), nN (n % 36) :: l.drop a, rfl, hlow⟩
    | cons c cs =>
      refine ⟨c, cs ++ [aN (n / 36), nN (n % 36)] ++ l.drop a, rfl, ?_⟩
      have : l = c :: (cs ++ l.drop a) := by
        conv => lhs; rw [← List.take_append_drop a l, e]
        rfl
      exact h.hd _ _ this
  · show (l.take a ++ [aN (n / 36), nN (n % 36)] ++ l.drop a).all alnum = true
    rw [List.all_append, List.all_append, hal.1, hal.2]
    simp [low_alnum hlow, nN_ok (n % 36) (by omega)]
  · show (l.take a ++ [aN (n / 36), nN (n % 36)] ++ l.drop a).toArray.size ≤ 12
    rw [List.size_toArray, List.length_append, List.length_append]
    simp only [List.length_cons, List.length_nil]
    omega
theorem putK_eval (l : List Nat) (a n : Nat) (hl : l.length ≤ 10) : ∀ u1 u2 : Str, u1 = ⟨(l.take a).toArray⟩ → u2 = ⟨(l.drop a).toArray⟩ → u1 ++ (⟨#[aN (n / 36)]⟩ : Str) ++ (⟨#[nN (n % 36)]⟩ : Str) ++ u2 = putK (l.take a) (l.drop a) n := by
  rintro u1 u2 rfl rfl
  apply str_ext
  simp only [app_list, putK]
  simp
/-- what the loop keeps -/
structure Inv (l : List Nat) (a : Nat) (first many : Int) (k0 k : Nat) (found : List Str) : Prop where
  ks : ∀ y ∈ found, kS y = true
  nd : found.Nodup
  le : (found.length : Int) ≤ many
  all : ∀ j, k0 ≤ j → j < k → putK (l.take a) (l.drop a) (numK first j) ∈ found
theorem nodup_le : ∀ {xs ys : List Str}, xs.Nodup → xs ⊆ ys → xs.length ≤ ys.length
  | [], _, _, _ => Nat.zero_le _
  | x :: xs, ys, hn, hs => by
    rw [List.nodup_cons] at hn
    have hx : x ∈ ys := hs (List.mem_cons_self ..)
    have h2 : xs ⊆ ys.erase x := fun y hy => by
      have hne : y ≠ x := by
        rintro rfl
        exact hn.1 hy
      exact (List.mem_erase_of_ne hne).mpr (hs (List.mem_cons_of_mem _ hy))
    have h3 := nodup_le hn.2 h2
    rw [List.length_erase_of_mem hx] at h3
    have h4 := List.length_pos_of_mem hx
    simp only [List.length_cons]
    omega
theorem Inv.full {l : List Nat} {a : Nat} {first many : Int} {k0 k : Nat} {found : List Str} (h : Inv l a first many k0 k found) (hm : many ≤ 25) (hk : k0 + 26 ≤ k) : False := by
  have hsub : ((List.range 26).map fun i => putK (l.take a) (l.drop a) (numK first (k0 + i))) ⊆ found := by
    intro x hx
    obtain ⟨i, hi, rfl⟩ := List.mem_map.mp hx
    rw [List.mem_range] at hi
    exact h.all _ (by omega) (by omega)
  have hnd : ((List.range 26).map fun i => putK (l.take a) (l.drop a) (numK first (k0 + i))).Nodup := by
    rw [List.Nodup, List.pairwise_map]
    refine (List.pairwise_lt_range (n := 26)).imp_of_mem ?_
    intro i j hi hj hij e
    rw [List.mem_range] at hi hj
    exact numK_inj first _ _ (putK_inj (numK_lt _ _) (numK_lt _ _) e) (by omega) (by omega)
  have := nodup_le hnd hsub
  have hle := h.le
  simp at this
  omega
end Gm
end
section
namespace Gm
open PySem DL Gx
def kEnv (many : Int) (found : List Str) (l : List Nat) (a : Nat) (first alike : Int) (o7 o8 o9 : Option D) : DL.Env :=
  [none, some (.int many), some (.lst (found.map .str)), some (.str ⟨l.toArray⟩), some (.int a), some (.int first), some (.int alike), o7, o8, o9]
def kLast : M Fl := (sIf (eTst (appM [.v (eV 8), .p 2] notIn3D)) (sApp 2 (eV 8)) sNx)
theorem last_ok (ns : List Int) (many : Int) (found : List Str) (l : List Nat) (a : Nat) (first alike : Int) (k0 k : Nat) (x : Str) (o7 o9 : Option D) (hm : many ≤ 25) (hI : Inv l a first many k0 k found) (hne : (found.length : Int) ≠ many) (hx : kS x = true) (hk : k0 ≤ k → x = putK (l.take a) (l.drop a) (numK first k)) :
    SM 0 ns kLast (kEnv many found l a first alike o7 (some (.str x)) o9) fun fl r => fl = .nx ∧ ∃ found', Inv l a first many k0 (k + 1) found' ∧ r = kEnv many found' l a first alike o7 (some (.str x)) o9 := by
  have hle := hI.le
  have hm2 := mem_strs x found
  have ht : ∀ s, (eTst (appM [.v (eV 8), .p 2] notIn3D)) ((kEnv many found l a first alike o7 (some (.str x)) o9).set 0 (some s)) = .ok (!decide (x ∈ found)) ((kEnv many found l a first alike o7 (some (.str x)) o9).set 0 (some s)) := by
    intro s
    simp [kEnv, hm2]
  refine SM.sif (SM.same _ ht ⟨fun h => ?_, fun h => ?_⟩)
  · have hx2 : x ∉ found := by simpa using h
    refine SM.det .nx (kEnv many (found ++ [x]) l a first alike o7 (some (.str x)) o9) (fun s => ?_) ⟨rfl, _, ⟨?_, ?_, ?_, ?_⟩, rfl⟩
    · have hl : lenOk (found.length + 1) = true := lenOk_lit (by omega)
      simp [kEnv, sApp, hl]
    · intro y hy
      rcases List.mem_append.mp hy with h | h
      · exact hI.ks y h
      · rw [List.mem_singleton] at h
        subst h
        exact hx
    · rw [List.nodup_append]
      refine ⟨hI.nd, List.nodup_cons.mpr ⟨by simp, List.nodup_nil⟩, ?_⟩
      intro y hy z hz
      rw [List.mem_singleton] at hz
      subst hz
      rintro rfl
      exact hx2 hy
    · rw [List.length_append, List.length_singleton]
      omega
    · intro j hj hj2
      by_cases e : j = k
      · subst e
        rw [← hk hj]
        simp
      · exact List.mem_append_left _ (hI.all j hj (by omega))
  · have hx2 : x ∈ found := by simpa using h
    refine SM.nx ⟨rfl, _, ⟨hI.ks, hI.nd, hI.le, ?_⟩, rfl⟩
    intro j hj hj2
    by_cases e : j = k
    · subst e
      rw [← hk hj]
      exact hx2
    · exact hI.all j hj (by omega)
def kNum : M Fl := (sSeq (sAsg (appM [.v (appM [.v (appM [.v (eV 5), .v (appM [.v (eV 7), .v (eC (.int 7))] mulD)] addD)] intD), .v (eC (.int 936))] modD) (gV 9))
  (sAsg (appM [.v (appM [.v (appM [.v (appM [.v (eV 3), .v (asInt (eV 4))] slDhi), .v (appM [.v (eC (.str "abcdefghijklmnopqrstuvwxyz")), .v (appM [.v (eV 9), .v (eC (.int 36))] fdivD)] ix2D)] addD), .v (appM [.v (eC (.str "abcdefghijklmnopqrstuvwxyz0123456789")), .v (appM [.v (appM [.v (eV 9)] intD), .v (eC (.int 36))] modD)] ix2D)] addD), .v (appM [.v (eV 3), .v (asInt (eV 4))] slDlo)] addD) (gV 8)))
theorem num_ok (many : Int) (found : List Str) (l : List Nat) (a : Nat) (first alike : Int) (k : Nat) (o8 o9 : Option D) (hl : l.length ≤ 10) (s : D) :
    ∃ n, kNum ((kEnv many found l a first alike (some (.int k)) o8 o9).set 0 (some s)) = .ok .nx ((kEnv many found l a first alike (some (.int k)) (some (.str (putK (l.take a) (l.drop a) (numK first k)))) (some n)).set 0 (some s)) := by
  have hn := numK_lt first k
  have e1 : (first + (k : Int) * 7) % 936 = ((numK first k : Nat) : Int) := by
    unfold numK
    have := Int.emod_nonneg (first + (k : Int) * 7) (by decide : (936 : Int) ≠ 0)
    omega
  generalize numK first k = n at hn e1
  refine ⟨.int n, ?_⟩
  have m1 := mul_lit k 7 (by decide +kernel)
  have m2 := mod_lit (first + (k : Int) * 7) 936 (by decide +kernel)
  have m3 : fdivD [.int n, .int 36] = some (.int ((n / 36 : Nat) : Int)) := by simp [fdivD]
  have m4 : modD [.int n, .int 36] = some (.int ((n % 36 : Nat) : Int)) := by simp [modD]
  have i1 : ix2D [.str ⟨aL.toArray⟩, .int ((n / 36 : Nat) : Int)] = some (.str ⟨#[aN (n / 36)]⟩) := ixS _ _ _ (by
    have : n / 36 < aL.length := by show n / 36 < 26; omega
    rw [aN, List.getD_eq_getElem?_getD, List.getElem?_eq_getElem this]; rfl)
  have i2 : ix2D [.str ⟨(aL ++ nL).toArray⟩, .int ((n % 36 : Nat) : Int)] = some (.str ⟨#[nN (n % 36)]⟩) := ixS _ _ _ (by
    have : n % 36 < (aL ++ nL).length := by show n % 36 < 36; omega
    rw [nN, List.getD_eq_getElem?_getD, List.getElem?_eq_getElem this]; rfl)
  have c1 := hi_eq l a
  have c2 := lo_eq l a
  have lt : (⟨(l.take a).toArray⟩ : Str).length ≤ 10 := by
    show (l.take a).toArray.size ≤ 10
    rw [List.size_toArray, List.length_take]; omega
  have ld : (⟨(l.drop a).toArray⟩ : Str).length ≤ 10 := by
    show (l.drop a).toArray.size ≤ 10
    rw [List.size_toArray, List.length_drop]; omega
  have hp := putK_eval l a n hl _ _ rfl rfl
  generalize (⟨(l.take a).toArray⟩ : Str) = u1 at c1 lt hp
  generalize (⟨(l.drop a).toArray⟩ : Str) = u2 at c2 ld hp
  have a1 := addS u1 ⟨#[aN (n / 36)]⟩ (by rw [len_one]; omega)
  have a2 := addS (u1 ++ ⟨#[aN (n / 36)]⟩) ⟨#[nN (n % 36)]⟩ (by rw [str_app_len, len_one, len_one]; omega)
  have a3 := addS (u1 ++ ⟨#[aN (n / 36)]⟩ ++ ⟨#[nN (n % 36)]⟩) u2 (by rw [str_app_len, str_app_len, len_one, len_one]; omega)
  rw [hp] at a3
  rw [← s26] at i1
  rw [← s36] at i2
  simp only [kNum, kEnv, ev_seq, ev_asg, ev_app2v, ev_app1v, ev_eV, eC_app, ev_asInt, Res.bind_ok, List.set_cons_zero, List.set_cons_succ, List.getElem?_cons_succ, List.getElem?_cons_zero, m1, m2, m3, m4, e1, i1, i2, c1, c2, a1, a2, a3, M.opt_some, M.pure_app, addD_int, intD_int, ev_gV]
def kDraw : M Fl := (sAsg (eIf (tAndM (eTst (appM [.v (eV 6), .v (eC (.int 0))] eqD)) (eTst (appM [.v (eV 7), .v (appM [.v (eC (.int 3)), .v (eV 1)] mulD)] ltD))) (eCall m__law_kind [0] [.p 0] []) (eC (.str "a"))) (gV 8))
def kIfNum : M Fl := (sIf (tOrM (eTst (appM [.v (eV 6), .v (eC (.int 1))] eqD)) (eTst (appM [.v (eV 7), .v (appM [.v (eC (.int 3)), .v (eV 1)] mulD)] geD))) kNum sNx)
def kStop : M Fl := (sIf (eTst (appM [.v (appM [.p 2] len3D), .v (eV 1)] eqD)) sBk sNx)
def kBody : M Fl := (sSeq kStop (sSeq kDraw (sSeq kIfNum kLast)))
theorem kinds_parts : g__law_kinds = (sSeq (sAsgO 2 (eLst []))
  (sSeq (sAsg (appM [.v (eCall m__law_kind [0] [.p 0] []), .v (asInt (eC (.int 10)))] slDhi) (gV 3))
  (sSeq (sAsg (eCall m__law_next [0] [.p 0, .v (appM [.v (appM [.v (eV 3)] len3D), .v (eC (.int 1))] addD)] []) (gV 4))
  (sSeq (sAsg (eCall m__law_next [0] [.p 0, .v (eC (.int 936))] []) (gV 5))
  (sSeq (sAsg (eCall m__law_next [0] [.p 0, .v (eC (.int 2))] []) (gV 6))
  (sSeq (sFor (iRange1 (eC (.int 2000))) (gV 7) kBody)
  (sRet (appM [.p 2] sorted2D)))))))) := by
  simp only [g__law_kinds, kBody, kStop, kDraw, kIfNum, kNum, kLast]
theorem body_ok (ns : List Int) (many : Int) (found : List Str) (l : List Nat) (a : Nat) (first alike : Int) (k : Nat) (o8 o9 : Option D) (hm0 : 0 ≤ many) (hm : many ≤ 25) (hs : Stem l) (hal : alike = 0 ∨ alike = 1) (k0 : Nat) (hk0 : k0 = if alike = 1 then 0 else (3 * many).toNat) (hI : Inv l a first many k0 k found) :
    SM 0 ns kBody (kEnv many found l a first alike (some (.int k)) o8 o9) fun fl r => (fl = .bk ∧ (found.length : Int) = many ∧ r = kEnv many found l a first alike (some (.int k)) o8 o9) ∨ (fl = .nx ∧ ∃ found' o8 o9, Inv l a first many k0 (k + 1) found' ∧ r = kEnv many found' l a first alike (some (.int k)) o8 o9) := by
  refine SM.seq (SM.sif (SM.same (decide ((found.length : Int) = many)) (fun s => by simp [kEnv]) ⟨fun h => ?_, fun h => ?_⟩))
  · exact SM.bk (.inl ⟨rfl, of_decide_eq_true h, rfl⟩)
  have hne := of_decide_eq_false h
  have m3 := mulD_r 3 many (by omega)
  refine SM.nx (SM.seq (SM.asg (SM.eif (SM.same (decide (alike = 0) && decide ((k : Int) < 3 * many)) (fun s => by
    have : mulD [.int 3, .int many] = some (.int (3 * many)) := m3
    simp [kEnv, this]) ⟨fun h => ?_, fun h => ?_⟩))))
  · rw [Bool.and_eq_true, decide_eq_true_eq, decide_eq_true_eq] at h
    obtain ⟨ha, hk⟩ := h
    subst ha
    have hkk : ¬ k0 ≤ k := by
      rw [hk0, if_neg (by decide)]
      omega
    refine SM.call0 (by simp [kEnv]) ((sf_kind ns).mono fun v hv => ?_)
    obtain ⟨x, rfl⟩ := kD_str hv
    refine SM.seq (SM.sif (SM.same false (fun s => by
      have : mulD [.int 3, .int many] = some (.int (3 * many)) := m3
      have h3 : ¬ (3 * many ≤ (k : Int)) := by omega
      simp [kEnv, this, h3]) ⟨fun h => (by cases h), fun _ => SM.nx ?_⟩))
    exact (last_ok ns many found l a first 0 k0 k x (some (.int k)) o9 hm hI hne hv fun h => absurd h hkk).mono fun fl r ⟨e, f', i, er⟩ => .inr ⟨e, f', _, _, i, er⟩
  · refine SM.c (SM.seq (SM.sif (SM.same true (fun s => by
      have : mulD [.int 3, .int many] = some (.int (3 * many)) := m3
      rcases hal with rfl | rfl
      · have h3 : 3 * many ≤ (k : Int) := by
          simp at h
          omega
        simp [kEnv, this, h3]
      · simp [kEnv, this]) ⟨fun _ => ?_, fun h => (by cases h)⟩)))
    obtain ⟨n, _⟩ := num_ok many found l a first alike k (some (.str "a")) o9 hs.len .non
    have hnum : ∀ s, ∃ n, kNum ((kEnv many found l a first alike (some (.int k)) (some (.str "a")) o9).set 0 (some s)) = .ok .nx ((kEnv many found l a first alike (some (.int k)) (some (.str (putK (l.take a) (l.drop a) (numK first k)))) (some n)).set 0 (some s)) := fun s => num_ok many found l a first alike k (some (.str "a")) o9 hs.len s
    intro c kk
    obtain ⟨n, en⟩ := hnum (Sm ns c kk)
    refine ⟨c, kk, _, _, en, ?_⟩
    exact (last_ok ns many found l a first alike k0 k _ (some (.int k)) (some n) hm hI hne (putK_ok hs a _ (numK_lt _ _)) fun _ => rfl).mono fun fl r ⟨e, f', i, er⟩ => .inr ⟨e, f', _, _, i, er⟩
end Gm
end
section
namespace Gm
open PySem DL Gx
theorem range_2000 : rangeL 0 2000 = (List.range' 0 2000).map fun i : Nat => D.int i := by
  simp only [rangeL, List.range_eq_range']
  apply List.map_congr_left
  intro i _
  simp
theorem stem_of {x : Str} (h : kS x = true) : Stem (x.cps.toList.take 10) := by
  simp only [kS, Bool.and_eq_true] at h
  refine ⟨by rw [List.length_take]; omega, ?_, ?_⟩
  · rw [List.all_eq_true]
    intro c hc
    exact List.all_eq_true.mp h.2 c (List.mem_of_mem_take hc)
  · intro c cs e
    have h2 := h.1.2
    cases e2 : x.cps.toList with
    | nil => rw [e2] at e; cases e
    | cons d ds =>
      rw [e2] at h2 e
      simp only [List.take_succ_cons] at e
      injection e with e1 _
      subst e1
      exact h2
theorem hi10 (x : Str) : slDhi [.str x, .int 10] = some (.str ⟨(x.cps.toList.take 10).toArray⟩) := by
  have := hi_eq x.cps.toList 10
  exact this
theorem sf_kinds (ns : List Int) (many : Int) (h0 : 0 ≤ many) (h1 : many ≤ 25) : SF ns m__law_kinds [.int many] fun v => ∃ vs : List D, v = .lst vs ∧ (vs.length : Int) = many ∧ vs.all kD = true ∧ ascD vs = true := by
  refine SF.mk ?_
  rw [kinds_parts]
  refine SM.seq (SM.asgO (SM.lst (SM.V0 ⟨by decide, ?_⟩)))
  refine SM.seq (SM.asg (SM.app2 (SM.call0 (by simp) ?_)))
  refine (sf_kind ns).mono fun v hv => ?_
  obtain ⟨x, rfl⟩ := kD_str hv
  have hs := stem_of (x := x) hv
  refine SM.asInt (SM.c ⟨10, rfl, _, hi10 x, ?_⟩)
  generalize x.cps.toList.take 10 = l at hs
  have hl := hs.len
  have hlen : (⟨l.toArray⟩ : Str).length = l.length := by
    show l.toArray.size = _
    rw [List.size_toArray]
  refine SM.seq (SM.asg (SM.digit (by simp) ((⟨l.toArray⟩ : Str).length + 1) (by omega) (by omega) (SM.app2 (SM.app1 (SM.v rfl ⟨_, len_str _, SM.c ⟨_, addD_int _ _, rfl, by simp, ?_⟩⟩)))))
  intro a a0 a1
  obtain ⟨a, rfl⟩ : ∃ n : Nat, a = n := ⟨a.toNat, by omega⟩
  refine SM.seq (SM.asg (SM.digit (by simp) 936 (by decide) (by decide) (SM.c ⟨rfl, by simp, ?_⟩)))
  intro first f0 f1
  refine SM.seq (SM.asg (SM.digit (by simp) 2 (by decide) (by decide) (SM.c ⟨rfl, by simp, ?_⟩)))
  intro alike l0 l1
  have hal : alike = 0 ∨ alike = 1 := by omega
  refine SM.seq (SM.sFor (SM.same (rangeL 0 2000) (fun s => by simp [iRange1]) ?_))
  rw [range_2000]
  have hk0 : (if alike = 1 then 0 else (3 * many).toNat) + 26 ≤ 2000 := by
    split <;> omega
  refine SM.forL (by decide) (fun ds r => ∃ k found o7 o8 o9, k ≤ 2000 ∧ ds = (List.range' k (2000 - k)).map (fun i : Nat => D.int i) ∧ r = kEnv many found l a first alike o7 o8 o9 ∧ Inv l a first many (if alike = 1 then 0 else (3 * many).toNat) k found) ?_ ?_ _ _ ⟨0, [], none, none, none, by decide, rfl, rfl, ⟨by simp, List.nodup_nil, by simp; omega, by omega⟩⟩
  · rintro d ds r ⟨k, found, o7, o8, o9, hk, hd, rfl, hI⟩
    by_cases hk2 : k = 2000
    · subst hk2
      cases hd
    obtain ⟨n, en⟩ : ∃ n, 2000 - k = n + 1 := ⟨2000 - k - 1, by omega⟩
    rw [en, List.range'_succ, List.map_cons] at hd
    injection hd with e1 e2
    subst e1
    refine (body_ok ns many found l a first alike k o8 o9 h0 h1 hs hal _ rfl hI).mono ?_
    rintro fl r1 (⟨rfl, hf, rfl⟩ | ⟨rfl, found', o8', o9', hI', rfl⟩)
    · have hle := hI.le
      have hsr := sort_row found hI.ks hI.nd
      refine SM.ret (SM.same (.lst ((found.mergeSort leS).map .str)) (fun s => ?_) ⟨by simp [kEnv], _, rfl, _, rfl, by rw [hsr.2.2]; exact hf, hsr.1, hsr.2.1⟩)
      have := sort_strs found (by omega)
      simp [kEnv, this]
    · refine ⟨k + 1, found', _, _, _, by omega, ?_, rfl, hI'⟩
      rw [e2]
      have : 2000 - (k + 1) = n := by omega
      rw [this]
  · rintro r ⟨k, found, o7, o8, o9, hk, hd, rfl, hI⟩
    have : 2000 - k = 0 := by
      have := congrArg List.length hd
      simp at this
      omega
    exact (hI.full h1 (by omega)).elim
end Gm
end
section
namespace Gm
open PySem DL Gx
def Pys (n : Nat) (vs : List D) : Prop := (∀ d ∈ vs, d.isPy = true) ∧ vs.length ≤ n
theorem isPyL_of : ∀ {vs : List D}, (∀ d ∈ vs, d.isPy = true) → D.isPyL vs = true
  | [], _ => rfl
  | x :: xs, h => by
    simp only [D.isPyL, Bool.and_eq_true]
    exact ⟨h x (List.mem_cons_self ..), isPyL_of fun d hd => h d (List.mem_cons_of_mem _ hd)⟩
theorem cutL_mem {α : Type} {xs : List α} {lo hi : Option Int} {x : α} (h : x ∈ cutL xs lo hi) : x ∈ xs := List.mem_of_mem_drop (List.mem_of_mem_take h)
theorem Pys.cut {n : Nat} {vs : List D} (h : Pys n vs) (lo hi : Option Int) : Pys n (cutL vs lo hi) := ⟨fun d hd => h.1 d (cutL_mem hd), Nat.le_trans (cutL_len ..) h.2⟩
theorem Pys.app {n m : Nat} {vs ws : List D} (h : Pys n vs) (h2 : Pys m ws) : Pys (n + m) (vs ++ ws) := ⟨fun d hd => by
  rcases List.mem_append.mp hd with z | z
  · exact h.1 d z
  · exact h2.1 d z, by rw [List.length_append]; have := h.2; have := h2.2; omega⟩
theorem addL (x y : List D) (h : x.length + y.length ≤ 16777216) : addD [.lst x, .lst y] = some (.lst (x ++ y)) := by
  simp only [addD, lenOk_lit h, if_true]
theorem addP {n m : Nat} {vs ws : List D} (h : Pys n vs) (h2 : Pys m ws) (hl : n + m ≤ 16777216) : ∃ Y, addD [.lst vs, .lst ws] = some (.lst Y) ∧ Pys (n + m) Y :=
  ⟨_, addL vs ws (by have := h.2; have := h2.2; omega), h.app h2⟩
theorem hiL (vs : List D) (i : Int) : slDhi [.lst vs, .int i] = some (.lst (cutL vs none (some i))) := rfl
theorem loL (vs : List D) (i : Int) : slDlo [.lst vs, .int i] = some (.lst (cutL vs (some i) none)) := rfl
end Gm
end
section
namespace Gm
open PySem DL Gx
@[simp] theorem says_eq (a : Bool) : m__law_says [.bl a, .bl a] = .ok (.bl true) [] := by cases a <;> rfl
theorem rowD_one1 (v : D) : rowD (.tup [v]) 1 = kD v := by
  simp [rowD, ascD]
theorem rowD_one2 (v : D) : rowD (.tup [v]) 2 = false := by
  simp [rowD]
theorem SM.chk {p : Nat} {ns : List Int} {r : DL.Env} {t : M Bool} {f : M D} {u : M Fl} {Q : Fl → DL.Env → Prop} (h : ∀ s, t (r.set p (some s)) = .ok false (r.set p (some s))) (q : SM p ns u r Q) : SM p ns (sSeq (sIf t (sRet f) sNx) u) r Q :=
  SM.retIf h (fun e => by cases e) fun _ => q
theorem SM.chk1 {p : Nat} {ns : List Int} {r : DL.Env} {t : M Bool} {f : M D} {Q : Fl → DL.Env → Prop} (h : ∀ s, t (r.set p (some s)) = .ok false (r.set p (some s))) (q : Q .nx r) : SM p ns (sIf t (sRet f) sNx) r Q :=
  SM.sif (SM.same false h ⟨fun e => (by cases e), fun _ => SM.nx q⟩)
end Gm
end
section
namespace Gm
open PySem DL Gx
theorem SM.and {p : Nat} {ns : List Int} {r : DL.Env} {f h : M D} {Q : D → DL.Env → Prop} (hf : SM p ns f r fun d r1 => ∃ b, truthD d = some b ∧ (b = true → SM p ns h r1 Q) ∧ (b = false → Q d r1)) : SM p ns (eAnd f h) r Q := fun c k => by
  obtain ⟨c', k', d, r', e, b, et, q1, q2⟩ := hf c k
  rw [ev_and, e, Res.bind_ok, et, tK_some]
  cases b with
  | true => exact q1 rfl c' k'
  | false => exact ⟨c', k', d, r', rfl, q2 rfl⟩
theorem SM.pcall1 {p : Nat} {ns : List Int} {r : DL.Env} {m : Fn} {f : M D} {Q : D → DL.Env → Prop} (hf : SM p ns f r fun d r1 => ∃ v, m [d] = .ok v [] ∧ Q v r1) : SM p ns (eCall m [] [.v f] []) r Q := fun c k => by
  obtain ⟨c', k', d, r', e, v, em, q⟩ := hf c k
  exact ⟨c', k', v, r', by simp [evalA, fillA, e, em], q⟩
end Gm
end
section
namespace Gm
open PySem DL Gx
/-! plain data that is not too large -/
mutual
def bnd : D → Bool
  | .tup xs => decide (xs.length ≤ 1000) && bndL xs
  | .lst xs => decide (xs.length ≤ 1000) && bndL xs
  | .str x => decide (x.length ≤ 1000)
  | .non => true
  | .bl _ => true
  | .int _ => true
  | _ => false
def bndL : List D → Bool
  | [] => true
  | x :: xs => bnd x && bndL xs
end
mutual
theorem bnd_py : ∀ {d : D}, bnd d = true → d.isPy = true
  | .tup xs, h => by
    simp only [bnd, Bool.and_eq_true] at h
    simpa only [D.isPy] using bndL_py h.2
  | .lst xs, h => by
    simp only [bnd, Bool.and_eq_true] at h
    simpa only [D.isPy] using bndL_py h.2
  | .str x, _ => rfl
  | .non, _ => rfl
  | .bl _, _ => rfl
  | .int _, _ => rfl
  | .ty _, h => by simp [bnd] at h
  | .dct _, h => by simp [bnd] at h
  | .set _, h => by simp [bnd] at h
  | .exc _ _ _ _, h => by simp [bnd] at h
theorem bndL_py : ∀ {xs : List D}, bndL xs = true → D.isPyL xs = true
  | [], _ => rfl
  | x :: xs, h => by
    simp only [bndL, Bool.and_eq_true] at h
    simp only [D.isPyL, Bool.and_eq_true]
    exact ⟨bnd_py h.1, bndL_py h.2⟩
end
theorem bndL_mem : ∀ {xs : List D}, bndL xs = true → ∀ x ∈ xs, bnd x = true
  | [], _, x, h => by cases h
  | y :: ys, h, x, hx => by
    simp only [bndL, Bool.and_eq_true] at h
    rcases List.mem_cons.mp hx with rfl | hx
    · exact h.1
    · exact bndL_mem h.2 x hx
theorem bndL_of : ∀ {xs : List D}, (∀ x ∈ xs, bnd x = true) → bndL xs = true
  | [], _ => rfl
  | x :: xs, h => by
    simp only [bndL, Bool.and_eq_true]
    exact ⟨h x (List.mem_cons_self ..), bndL_of fun y hy => h y (List.mem_cons_of_mem _ hy)⟩
theorem bnd_tup {xs : List D} : bnd (.tup xs) = true ↔ xs.length ≤ 1000 ∧ ∀ x ∈ xs, bnd x = true := by
  simp only [bnd, Bool.and_eq_true, decide_eq_true_eq]
  exact ⟨fun h => ⟨h.1, bndL_mem h.2⟩, fun h => ⟨h.1, bndL_of h.2⟩⟩
theorem bnd_lst {xs : List D} : bnd (.lst xs) = true ↔ xs.length ≤ 1000 ∧ ∀ x ∈ xs, bnd x = true := by
  simp only [bnd, Bool.and_eq_true, decide_eq_true_eq]
  exact ⟨fun h => ⟨h.1, bndL_mem h.2⟩, fun h => ⟨h.1, bndL_of h.2⟩⟩
theorem bnd_ok {d : D} (h : bnd d = true) : Ok d := ⟨bnd_py h, fun vs e => by
  subst e
  have := (bnd_tup.mp h).1
  omega⟩
/-! is_term by the law -/
/-! marks -/
theorem kD_flat {d : D} (h : kD d = true) : d.flat = true := by
  obtain ⟨x, rfl⟩ := kD_str h
  rfl
theorem all_flat {vs : List D} (h : vs.all kD = true) : vs.all D.flat = true := by
  rw [List.all_eq_true] at h ⊢
  exact fun x hx => kD_flat (h x hx)
theorem in_tup {y : D} {xs : List D} (hy : y.flat = true) (hx : xs.all D.flat = true) : in3D [y, .tup xs] = some (.bl (xs.any fun x => eqB x y)) := by
  show inD [y, .tup xs] = _
  cases y <;> first | (cases hy; done) | (simp only [inD, hx, D.flat, Bool.and_self, if_true])
theorem notIn_tup {y : D} {xs : List D} (hy : y.flat = true) (hx : xs.all D.flat = true) : notIn3D [y, .tup xs] = some (.bl (!xs.any fun x => eqB x y)) := by
  show notD1 (inD [y, .tup xs]) = _
  rw [show inD [y, .tup xs] = in3D [y, .tup xs] from rfl, in_tup hy hx]
  rfl
def disjD (a b : D) : Bool := match a, b with
  | .tup xs, .tup ys => ys.all fun y => !xs.any fun x => eqB x y
  | _, _ => false
theorem rowD_tup {d : D} {n : Int} (h : rowD d n = true) : ∃ vs, d = .tup vs ∧ n ≤ vs.length ∧ vs.length ≤ 24 ∧ vs.all kD = true ∧ ascD vs = true := by
  cases d <;> simp only [rowD, Bool.and_eq_true, decide_eq_true_eq] at h <;> first | (cases h; done) | exact ⟨_, rfl, h.1.1.1, h.1.1.2, h.1.2, h.2⟩
theorem not_any_all {α : Type} (xs : List α) (p : α → Bool) : (!xs.any p) = xs.all fun x => !p x := by
  induction xs with
  | nil => rfl
  | cons x xs ih => simp only [List.any_cons, List.all_cons, Bool.not_or, ih]
theorem is_mark_eq (w : Str) (a b : D) (ha : bnd a = true) (hb : bnd b = true) : m_is_mark [.tup [.str w, a, b]] = .ok (.bl (decide (w = "mark") && (rowD a 2 && (rowD b 0 && disjD a b)))) [] := by
  have h1 := is_group_eq a (bnd_ok ha)
  have h2 := is_kind_row_eq b 0 (bnd_py hb) (bnd_ok hb).2
  simp only [m_is_mark, g_is_mark, fn_nw0, List.map_cons, List.map_nil]
  simp [evalA, fillA, h1, h2]
  cases cw : decide (w = "mark") with
  | false => simp
  | true =>
    cases ca : rowD a 2 with
    | false => simp
    | true =>
      cases cb : rowD b 0 with
      | false => simp
      | true =>
        obtain ⟨xs, rfl, _, _, hx, _⟩ := rowD_tup ca
        obtain ⟨ys, rfl, _, hl, hy, _⟩ := rowD_tup cb
        have hr := eLc_all (i := 1) (ρ := [some (.tup [.str w, .tup xs, .tup ys]), none]) (f := iSeq2 (appM [.v (eV 0), .v (eC (.int 2))] ix2D)) (te := appM [.v (eV 1), .v (appM [.v (eV 0), .v (eC (.int 1))] ix2D)] in3D)
          (F := fun y => .bl (xs.any fun x => eqB x y)) (ds := ys) (by simp) (by omega) (by simp) (by
            intro y hm
            have hf := kD_flat (List.all_eq_true.mp hy y hm)
            simp [in_tup hf (all_flat hx)])
        simp [hr, any_bl, disjD, not_any_all]
def plainW (w : Str) : Bool := decide (w = "older") || decide (w = "as old")
theorem plain_in (w : Str) : in3D [.str w, c_PLAIN] = some (.bl (plainW w)) := by
  rw [c_PLAIN, in_tup rfl rfl]
  simp only [List.any_cons, List.any_nil, eqB_ss, Bool.or_false, plainW]
  congr 2
  simp only [eq_comm]
theorem law_plain_in (w : Str) : in3D [.str w, .lst [.str "older", .str "as old"]] = some (.bl (plainW w)) := by
  show inD [.str w, .lst [.str "older", .str "as old"]] = _
  simp only [inD, D.flat, List.all_cons, List.all_nil, Bool.and_self, Bool.true_or, if_true, List.any_cons, List.any_nil, eqB_ss, Bool.or_false, plainW]
  congr 2
  simp only [eq_comm]
/-- the law's own reading of statements -/
def stD : D → Bool
  | .tup [.str g, row] => decide (g = "group") && rowD row 2
  | .tup [.str w, a, b] => if plainW w then termD a && termD b else decide (w = "mark") && (rowD a 2 && (rowD b 0 && disjD a b))
  | _ => false
theorem is_st_eq (d : D) (h : bnd d = true) : m_is_statement [d] = .ok (.bl (stD d)) [] := by
  have h1 := is_tuple_of_eq d 2 3 (bnd_py h)
  cases d with
  | tup vs =>
    have hm := (bnd_tup.mp h).2
    match vs, hm with
    | [], _ => simp [m_is_statement, g_is_statement, evalA, fillA, h1, stD]
    | [a], _ => simp [m_is_statement, g_is_statement, evalA, fillA, h1, stD]
    | [a, b], hm =>
      have ha := hm a (by simp)
      have hb := hm b (by simp)
      have h2 := isi_str a (bnd_py ha)
      have h3 := is_group_eq b (bnd_ok hb)
      cases a with
      | str x => simp [m_is_statement, g_is_statement, evalA, fillA, h1, h2, h3, stD, isStr]
      | _ => first | (cases ha; done) | (simp [m_is_statement, g_is_statement, evalA, fillA, h1, h2, stD, isStr])
    | [a, b, c], hm =>
      have ha := hm a (by simp)
      have hb := hm b (by simp)
      have hc := hm c (by simp)
      have h2 := isi_str a (bnd_py ha)
      have h3 := is_term_eq b (bnd_py hb)
      have h4 := is_term_eq c (bnd_py hc)
      cases a with
      | str x =>
        have h5 := is_mark_eq x b c hb hc
        cases hp : plainW x with
        | true => simp [m_is_statement, g_is_statement, evalA, fillA, h1, h2, h3, h4, stD, isStr, plain_in, hp]
        | false => simp [m_is_statement, g_is_statement, evalA, fillA, h1, h2, h5, stD, isStr, plain_in, hp]
      | _ => first | (cases ha; done) | (simp [m_is_statement, g_is_statement, evalA, fillA, h1, h2, stD, isStr])
    | a :: b :: c :: e :: vs, _ =>
      have c1 : ¬ ((vs.length : Int) + 1 + 1 + 1 + 1 ≤ 3) := by omega
      simp [m_is_statement, g_is_statement, evalA, fillA, h1, stD, c1]
  | _ => first | (cases h; done) | (simp [m_is_statement, g_is_statement, evalA, fillA, h1, stD])
end Gm
end
section
namespace Gm
open PySem DL Gx
/-! _law_same of a value and itself -/
def smA : M Fl := (sIf (eTst (appM [.v (appM [.p 2] len3D), .v (eC (.int 0))] eqD)) (sRet (eC (.bl true))) sNx)
def smB : M Fl := (sAsg (ePop 2) (gTup 2 (gsC (gV 4) (gsC (gV 5) gsN))))
def smT : M Bool := (tOrM (eTru (appM [.v (eV 5), .v (eC (.ty "tuple"))] isiD)) (eTru (appM [.v (eV 5), .v (eC (.ty "list"))] isiD)))
def smS1 : M Bool := (tOrM (eTst (appM [.v (appM [.v (eV 5), .v (eC (.ty "tuple"))] isiD), .v (appM [.v (eV 4), .v (eC (.ty "tuple"))] isiD)] neD)) (eTst (appM [.v (appM [.v (eV 5), .v (eC (.ty "list"))] isiD), .v (appM [.v (eV 4), .v (eC (.ty "list"))] isiD)] neD)))
def smS2 : M Bool := (eTst (appM [.v (appM [.v (eV 4)] len3D), .v (appM [.v (eV 5)] len3D)] neD))
def smS3 : M Fl := (sExt 2 (eLc (iRange1 (appM [.v (eV 5)] len3D)) [6] (gV 6) tTrue (eTup [(appM [.v (eV 4), .v (eV 6)] ix2D), (appM [.v (eV 5), .v (eV 6)] ix2D)])))
def smS : M Fl := sSeq (sIf smS1 (sRet (eC (.bl false))) sNx) (sSeq (sIf smS2 (sRet (eC (.bl false))) sNx) smS3)
def smL : M Fl := (sIf (eTru (appM [.v (eV 5), .v (eC (.ty "bool"))] isiD)) (sIf (tOrM (tNotM (eTru (appM [.v (eV 4), .v (eC (.ty "bool"))] isiD))) (eTst (appM [.v (eV 4), .v (eV 5)] neD))) (sRet (eC (.bl false))) sNx) (sIf (eTru (appM [.v (eV 5), .v (eC (.ty "int"))] isiD)) (sIf (tOrM (tNotM (eTru (appM [.v (eV 4), .v (eC (.ty "int"))] isiD))) (tOrM (eTru (appM [.v (eV 4), .v (eC (.ty "bool"))] isiD)) (eTst (appM [.v (eV 4), .v (eV 5)] neD)))) (sRet (eC (.bl false))) sNx) (sIf (eTru (appM [.v (eV 5), .v (eC (.ty "str"))] isiD)) (sIf (tOrM (tNotM (eTru (appM [.v (eV 4), .v (eC (.ty "str"))] isiD))) (eTst (appM [.v (eV 4), .v (eV 5)] neD))) (sRet (eC (.bl false))) sNx) (sIf (eTst (appM [.v (eV 4), .v (eC .non)] isNotD)) (sRet (eC (.bl false))) sNx))))
def smBody : M Fl := sSeq smA (sSeq smB (sIf smT smS smL))
theorem same_parts : g__law_same = (sSeq (sAsgO 2 (eLst [(eTup [(eV 0), (eV 1)])])) (sSeq (sFor (iRange1 (eC (.int 2000000))) (gV 3) smBody) (sRet (eC (.bl false))))) := by
  simp only [g__law_same, smBody, smA, smB, smT, smS, smS1, smS2, smS3, smL]
def P2 (d : D) : D := .tup [d, d]
abbrev smE (A B : D) (left : List D) (o3 o4 o5 o6 : Option D) : DL.Env := [some A, some B, some (.lst (left.map P2)), o3, o4, o5, o6]
mutual
def sz : D → Nat
  | .tup xs => 1 + szL xs
  | .lst xs => 1 + szL xs
  | _ => 1
def szL : List D → Nat
  | [] => 0
  | x :: xs => sz x + szL xs
end
theorem sz_pos (d : D) : 1 ≤ sz d := by cases d <;> simp only [sz] <;> omega
theorem szL_app : ∀ (xs ys : List D), szL (xs ++ ys) = szL xs + szL ys
  | [], ys => by simp [szL]
  | x :: xs, ys => by simp only [List.cons_append, szL, szL_app xs ys]; omega
theorem szL_len : ∀ xs : List D, xs.length ≤ szL xs
  | [] => Nat.zero_le _
  | x :: xs => by
    have := sz_pos x
    have := szL_len xs
    simp only [List.length_cons, szL]
    omega
theorem range1_eq {f : M D} {ρ : DL.Env} (n : Nat) (h : f ρ = .ok (.int n) ρ) (hn : (n : Int) < 4611686018427387904) : iRange1 f ρ = .ok (rangeL 0 n) ρ := by
  have c1 : decide (-4611686018427387904 ≤ (n : Int)) = true := decide_eq_true (by omega)
  have c2 : decide ((n : Int) < 4611686018427387904) = true := decide_eq_true hn
  have c3 : ((n : Int)).toNat = n := by omega
  unfold iRange1
  rw [M.bind_app, h, Res.bind_ok]
  show M.opt (if (decide (-4611686018427387904 ≤ (n : Int)) && decide ((n : Int) < 4611686018427387904)) = true then some (rangeL 0 (n : Int).toNat) else none) ρ = _
  rw [c1, c2, c3]
  rfl
theorem ext_eq {f : M D} {ρ : DL.Env} {i : Nat} {ds es : List D} (h1 : f ρ = .ok (.lst es) ρ) (h2 : ρ[i]? = some (some (.lst ds))) (h3 : lenOk (ds.length + es.length) = true) : sExt i f ρ = .ok .nx (ρ.set i (some (.lst (ds ++ es)))) := by
  simp only [sExt, h2, M.bind_app, h1, Res.bind_ok, h3, if_true]
theorem len_tt (n : Nat) : len3D [.lst ((List.replicate n D.non))] = some (.int n) := by simp
theorem popE (A B : D) (init : List D) (x : D) (o3 o4 o5 o6 : Option D) : ePop 2 (smE A B (init ++ [x]) o3 o4 o5 o6) = .ok (P2 x) (smE A B init o3 o4 o5 o6) := by
  simp [ePop, smE]
theorem popB (A B : D) (init : List D) (x : D) (o3 o4 o5 o6 : Option D) : smB (smE A B (init ++ [x]) o3 o4 o5 o6) = .ok .nx (smE A B init o3 (some x) (some x) o6) := by
  simp only [smB, ev_asg, popE, Res.bind_ok]
  rfl
theorem testA (A B : D) (left : List D) (o3 o4 o5 o6 : Option D) : smA (smE A B left o3 o4 o5 o6) = if left = [] then .ok (.rt (.bl true)) (smE A B left o3 o4 o5 o6) else .ok .nx (smE A B left o3 o4 o5 o6) := by
  have : decide ((left.map P2).length = 0) = decide (left = []) := by cases left <;> simp
  cases left with
  | nil => simp [smA, smE]
  | cons x xs =>
    have c1 : ¬ ((xs.length : Int) + 1 = 0) := by omega
    simp [smA, smE, c1]
theorem eq_bl (a b : Bool) : eqD [.bl a, .bl b] = some (.bl (decide (a = b))) := by cases a <;> cases b <;> rfl
@[simp] theorem ne_bls (a b : Bool) : neD [.bl a, .bl b] = some (.bl (!decide (a = b))) := by cases a <;> cases b <;> rfl
@[simp] theorem ne_ints (a b : Int) : neD [.int a, .int b] = some (.bl (!decide (a = b))) := by
  have : neD [.int a, .int b] = some (.bl (!eqB (.int a) (.int b))) := rfl
  rw [this, eqB_ii]
theorem leafT (A B : D) (init : List D) (x : D) (hx : x.flat = true) (o3 o6 : Option D) : (sIf smT smS smL) (smE A B init o3 (some x) (some x) o6) = .ok .nx (smE A B init o3 (some x) (some x) o6) := by
  have hp : x.isPy = true := by cases x <;> first | rfl | cases hx
  have h1 := isi_py x "tuple" hp (by decide)
  have h2 := isi_py x "list" hp (by decide)
  have h3 := isi_py x "bool" hp (by decide)
  have h4 := isi_py x "int" hp (by decide)
  have h5 := isi_py x "str" hp (by decide)
  have h6 : isNotD [.non, .non] = some (.bl false) := rfl
  cases x <;> first | (cases hx; done) | (simp [smT, smL, smE, h1, h2, h3, h4, h5, h6, tyNm, isTy])
theorem ixS2 (xs : List D) (i : Nat) (d : D) (h : xs[i]? = some d) (k : Bool) : ix2D [(if k then .tup xs else .lst xs), .int (i : Nat)] = some d := by
  cases k with
  | true => exact ixT xs i d h
  | false => exact ixLn xs i d h
theorem pairs (A B : D) (init xs : List D) (k : Bool) (hl : xs.length ≤ 1000) (o3 o6 : Option D) (ρ : DL.Env) (hρ : ρ = smE A B init o3 (some (if k then .tup xs else .lst xs)) (some (if k then .tup xs else .lst xs)) o6) :
    eLc (iRange1 (appM [.v (eV 5)] len3D)) [6] (gV 6) tTrue (eTup [(appM [.v (eV 4), .v (eV 6)] ix2D), (appM [.v (eV 5), .v (eV 6)] ix2D)]) ρ = .ok (.lst (xs.map P2)) ρ := by
  subst hρ
  have hlen : len3D [(if k then D.tup xs else .lst xs)] = some (.int xs.length) := by cases k <;> simp
  have := eLc_all (i := 6) (ρ := smE A B init o3 (some (if k then .tup xs else .lst xs)) (some (if k then .tup xs else .lst xs)) o6) (f := iRange1 (appM [.v (eV 5)] len3D)) (te := eTup [(appM [.v (eV 4), .v (eV 6)] ix2D), (appM [.v (eV 5), .v (eV 6)] ix2D)])
    (F := fun d => match d with | .int j => P2 (xs[j.toNat]?.getD .non) | d => d) (ds := rangeL 0 xs.length) (by
      exact range1_eq _ (by simp [smE, hlen]) (by omega)) (by rw [rangeL_len]; omega) (by simp [smE]) (by
      intro d hd
      simp only [rangeL, List.mem_map, List.mem_range] at hd
      obtain ⟨j, hj, rfl⟩ := hd
      have e1 : xs[j]? = some xs[j] := List.getElem?_eq_getElem hj
      have c0 : (0 + (j : Int)) = ((j : Nat) : Int) := by omega
      have i1 := ixS2 xs j _ e1 k
      have hlen : lenOk 2 = true := by decide
      simp [smE, c0, i1, hlen, e1, P2])
  rw [this]
  congr 2
  apply List.ext_getElem?
  intro i
  rw [List.getElem?_map, List.getElem?_map]
  by_cases hi : i < xs.length
  · have e1 : xs[i]? = some xs[i] := List.getElem?_eq_getElem hi
    have e2 : (rangeL 0 xs.length)[i]? = some (.int (0 + (i : Int))) := by simp [rangeL, hi]
    have c3 : ((0 + (i : Int))).toNat = i := by omega
    simp only [e1, e2, Option.map_some, c3, Option.getD_some]
  · have e1 : xs[i]? = none := List.getElem?_eq_none (by omega)
    have e2 : (rangeL 0 xs.length)[i]? = none := List.getElem?_eq_none (by rw [rangeL_len]; omega)
    simp only [e1, e2, Option.map_none]
theorem extT (A B : D) (init xs : List D) (k : Bool) (hl : xs.length ≤ 1000) (hi : init.length + xs.length ≤ 16777216) (o3 o6 : Option D) (ρ : DL.Env) (hρ : ρ = smE A B init o3 (some (if k then .tup xs else .lst xs)) (some (if k then .tup xs else .lst xs)) o6) :
    sExt 2 (eLc (iRange1 (appM [.v (eV 5)] len3D)) [6] (gV 6) tTrue (eTup [(appM [.v (eV 4), .v (eV 6)] ix2D), (appM [.v (eV 5), .v (eV 6)] ix2D)])) ρ = .ok .nx (smE A B (init ++ xs) o3 (some (if k then .tup xs else .lst xs)) (some (if k then .tup xs else .lst xs)) o6) := by
  have hpr := pairs A B init xs k hl o3 o6 ρ hρ
  rw [ext_eq (ds := init.map P2) hpr (by subst hρ; rfl) (by rw [List.length_map, List.length_map]; exact decide_eq_true hi)]
  subst hρ
  simp only [smE, List.map_append]
  rfl
theorem seqT (A B : D) (init xs : List D) (k : Bool) (hl : xs.length ≤ 1000) (hi : init.length + xs.length ≤ 16777216) (hp : D.isPyL xs = true) (o3 o6 : Option D) :
    (sIf smT smS smL) (smE A B init o3 (some (if k then .tup xs else .lst xs)) (some (if k then .tup xs else .lst xs)) o6) = .ok .nx (smE A B (init ++ xs) o3 (some (if k then .tup xs else .lst xs)) (some (if k then .tup xs else .lst xs)) o6) := by
  have hext := extT A B init xs k hl hi o3 o6 _ rfl
  have hx : (if k then D.tup xs else .lst xs).isPy = true := by cases k <;> simpa [D.isPy] using hp
  have h1 := isi_py (if k then D.tup xs else .lst xs) "tuple" hx (by decide)
  have h2 := isi_py (if k then D.tup xs else .lst xs) "list" hx (by decide)
  have hlen : len3D [(if k then D.tup xs else .lst xs)] = some (.int xs.length) := by cases k <;> simp
  have hT : smT (smE A B init o3 (some (if k then .tup xs else .lst xs)) (some (if k then .tup xs else .lst xs)) o6) = .ok true (smE A B init o3 (some (if k then .tup xs else .lst xs)) (some (if k then .tup xs else .lst xs)) o6) := by
    cases k <;> simp only [smT, smE, ev_tor, ev_tru, ev_app2v, ev_eV, eC_app, Res.bind_ok, List.getElem?_cons_succ, List.getElem?_cons_zero, h1, h2, M.opt_some, tr_bl] <;> rfl
  have hS1 : smS1 (smE A B init o3 (some (if k then .tup xs else .lst xs)) (some (if k then .tup xs else .lst xs)) o6) = .ok false (smE A B init o3 (some (if k then .tup xs else .lst xs)) (some (if k then .tup xs else .lst xs)) o6) := by
    simp only [smS1, smE, ev_tor, ev_tst, ev_app2v, ev_eV, eC_app, Res.bind_ok, List.getElem?_cons_succ, List.getElem?_cons_zero, h1, h2, M.opt_some, ne_bls, decide_true, Bool.not_true, M.pure_app, cnd_f]
  have hS2 : smS2 (smE A B init o3 (some (if k then .tup xs else .lst xs)) (some (if k then .tup xs else .lst xs)) o6) = .ok false (smE A B init o3 (some (if k then .tup xs else .lst xs)) (some (if k then .tup xs else .lst xs)) o6) := by
    simp only [smS2, smE, ev_tst, ev_app2v, ev_app1v, ev_eV, Res.bind_ok, List.getElem?_cons_succ, List.getElem?_cons_zero, hlen, M.opt_some, ne_ints, decide_true, Bool.not_true, M.pure_app]
  rw [ev_sif, hT, Res.bind_ok, cnd_t]
  unfold smS
  rw [ev_seq, ev_sif, hS1, Res.bind_ok, cnd_f, ev_nx, Res.bind_ok]
  show (sSeq (sIf smS2 (sRet (eC (.bl false))) sNx) smS3) _ = _
  rw [ev_seq, ev_sif, hS2, Res.bind_ok, cnd_f, ev_nx, Res.bind_ok]
  exact hext
theorem forL_cons (g : MG) (b : M Fl) (d : D) (ds : List D) (ρ ρ1 ρ2 : DL.Env) (h1 : g d ρ = some ρ1) (h2 : b ρ1 = .ok .nx ρ2) : DL.forL g b (d :: ds) ρ = DL.forL g b ds ρ2 := by
  simp only [DL.forL, h1, h2]
theorem forL_rt (g : MG) (b : M Fl) (d : D) (ds : List D) (ρ ρ1 ρ2 : DL.Env) (v : D) (h1 : g d ρ = some ρ1) (h2 : b ρ1 = .ok (.rt v) ρ2) : DL.forL g b (d :: ds) ρ = .ok (.rt v) ρ2 := by
  simp only [DL.forL, h1, h2]
theorem same_loop (A B : D) : ∀ (ds left : List D) (o3 o4 o5 o6 : Option D), (∀ x ∈ left, bnd x = true) → szL left < ds.length → ds.length ≤ 16000000 → ∃ ρ', DL.forL (gV 3) smBody ds (smE A B left o3 o4 o5 o6) = .ok (.rt (.bl true)) ρ'
  | [], left, _, _, _, _, _, h, _ => absurd h (by simp)
  | d :: ds, left, o3, o4, o5, o6, hb, hs, hl => by
    have hg : gV 3 d (smE A B left o3 o4 o5 o6) = some (smE A B left (some d) o4 o5 o6) := rfl
    simp only [List.length_cons] at hs hl
    by_cases he : left = []
    · refine ⟨_, forL_rt _ _ _ _ _ _ (smE A B left (some d) o4 o5 o6) _ hg ?_⟩
      simp only [smBody, ev_seq, testA, he, if_true, Res.bind_ok]
    · obtain ⟨init, x, rfl⟩ : ∃ init x, left = init ++ [x] := ⟨left.dropLast, left.getLast he, (List.dropLast_concat_getLast he).symm⟩
      have hx := hb x (by simp)
      have hi : ∀ y ∈ init, bnd y = true := fun y hy => hb y (by simp [hy])
      rw [szL_app] at hs
      simp only [szL, Nat.add_zero] at hs
      have key : ∀ left' : List D, (sIf smT smS smL) (smE A B init (some d) (some x) (some x) o6) = .ok .nx (smE A B left' (some d) (some x) (some x) o6) → (∀ y ∈ left', bnd y = true) → szL left' < ds.length →
          ∃ ρ', DL.forL (gV 3) smBody (d :: ds) (smE A B (init ++ [x]) o3 o4 o5 o6) = .ok (.rt (.bl true)) ρ' := fun left' h1 h2 h3 => by
        rw [forL_cons _ _ d ds _ _ (smE A B left' (some d) (some x) (some x) o6) hg (by
          simp only [smBody, ev_seq, testA, he, if_false, Res.bind_ok, popB, h1])]
        exact same_loop A B ds left' _ _ _ _ h2 h3 (by omega)
      have leaf : x.flat = true → ∃ ρ', DL.forL (gV 3) smBody (d :: ds) (smE A B (init ++ [x]) o3 o4 o5 o6) = .ok (.rt (.bl true)) ρ' := fun hf => by
        have := sz_pos x
        exact key init (leafT A B init x hf _ _) hi (by omega)
      have hil := szL_len init
      cases x with
      | tup xs =>
        obtain ⟨hxl, hxm⟩ := bnd_tup.mp hx
        simp only [sz] at hs
        exact key (init ++ xs) (seqT A B init xs true hxl (by omega) (bndL_py (bndL_of hxm)) _ _) (fun y hy => (List.mem_append.mp hy).elim (hi y) (hxm y)) (by rw [szL_app]; omega)
      | lst xs =>
        obtain ⟨hxl, hxm⟩ := bnd_lst.mp hx
        simp only [sz] at hs
        exact key (init ++ xs) (seqT A B init xs false hxl (by omega) (bndL_py (bndL_of hxm)) _ _) (fun y hy => (List.mem_append.mp hy).elim (hi y) (hxm y)) (by rw [szL_app]; omega)
      | non => exact leaf rfl
      | bl _ => exact leaf rfl
      | int _ => exact leaf rfl
      | str _ => exact leaf rfl
      | _ => simp [bnd] at hx
theorem same_of (R : M (List D)) (L : List D) (hR : ∀ ρ, R ρ = .ok L ρ) (d : D) (h : bnd d = true) (hs : sz d < L.length) (hl : L.length ≤ 16000000) :
    fnE ((sSeq (sAsgO 2 (eLst [(eTup [(eV 0), (eV 1)])])) (sSeq (sFor R (gV 3) smBody) (sRet (eC (.bl false))))) [some d, some d, none, none, none, none, none]) = .ok (.bl true) [] := by
  have hlen : lenOk 2 = true := by decide
  have hlen1 : lenOk 1 = true := by decide
  obtain ⟨ρ', hl⟩ := same_loop d d L [d] none none none none (fun x hx => by rw [List.mem_singleton.mp hx]; exact h) (by simp only [szL]; omega) hl
  have h0 : (sAsgO 2 (eLst [(eTup [(eV 0), (eV 1)])])) [some d, some d, none, none, none, none, none] = .ok .nx (smE d d [d] none none none none) := by
    simp [hlen, hlen1, smE, P2]
  rw [ev_seq, h0, Res.bind_ok]
  show fnE ((sSeq (sFor R (gV 3) smBody) (sRet (eC (.bl false)))) (smE d d [d] none none none none)) = _
  rw [ev_seq, ev_rf, hR, Res.bind_ok, hl, Res.bind_ok]
  rfl
theorem range_2M (ρ : DL.Env) : iRange1 (eC (.int 2000000)) ρ = .ok (rangeL 0 2000000) ρ := range1_eq 2000000 rfl (by decide)
theorem len_2M : (rangeL 0 2000000).length = 2000000 := rangeL_len
theorem same_ok (d : D) (h : bnd d = true) (hs : sz d < 1999999) : m__law_same [d, d] = .ok (.bl true) [] := by
  have e : m__law_same [d, d] = fnE (g__law_same [some d, some d, none, none, none, none, none]) := fn_nw0 7 g__law_same [d, d]
  rw [e, same_parts]
  exact same_of _ (rangeL 0 2000000) range_2M d h (by rw [len_2M]; omega) (by rw [len_2M]; omega)
end Gm
end
section
namespace Gm
open PySem DL Gx
/-! what is met first -/
section
variable {α : Type} [DecidableEq α]
def addOne (acc : List α) (x : α) : List α := if x ∈ acc then acc else acc ++ [x]
def addAll (acc : List α) : List α → List α
  | [] => acc
  | x :: xs => addAll (addOne acc x) xs
theorem addOne_len (acc : List α) (x : α) : (addOne acc x).length ≤ acc.length + 1 := by
  unfold addOne
  split
  · omega
  · simp
theorem addAll_len : ∀ (xs acc : List α), (addAll acc xs).length ≤ acc.length + xs.length
  | [], acc => Nat.le_refl _
  | x :: xs, acc => by
    have := addAll_len xs (addOne acc x)
    have := addOne_len acc x
    simp only [addAll, List.length_cons]
    omega
theorem addOne_mem (acc : List α) (x y : α) : y ∈ addOne acc x ↔ y ∈ acc ∨ y = x := by
  unfold addOne
  split
  · rename_i h
    exact ⟨.inl, fun z => z.elim id fun e => e ▸ h⟩
  · simp
theorem addAll_mem : ∀ (xs acc : List α) (y : α), y ∈ addAll acc xs ↔ y ∈ acc ∨ y ∈ xs
  | [], acc, y => by simp [addAll]
  | x :: xs, acc, y => by
    simp only [addAll, addAll_mem xs, addOne_mem, List.mem_cons, or_assoc]
theorem addOne_nodup {acc : List α} (h : acc.Nodup) (x : α) : (addOne acc x).Nodup := by
  unfold addOne
  split
  · exact h
  · rename_i hx
    rw [List.nodup_append]
    exact ⟨h, by simp, fun a ha b hb => by rw [List.mem_singleton.mp hb]; exact fun e => hx (e ▸ ha)⟩
theorem addAll_nodup : ∀ (xs : List α) {acc : List α}, acc.Nodup → (addAll acc xs).Nodup
  | [], _, h => h
  | x :: xs, _, h => addAll_nodup xs (addOne_nodup h x)
theorem addAll_app (ys : List α) : ∀ (xs acc : List α), addAll acc (xs ++ ys) = addAll (addAll acc xs) ys
  | [], acc => rfl
  | x :: xs, acc => by simp only [List.cons_append, addAll, addAll_app ys xs]
/-- values that keys stand for -/
structure Kc (c : α → D) : Prop where
  eq : ∀ a b, keyEq (c a) (c b) = decide (a = b)
  leaf : ∀ a, (c a).leaf = true
theorem sAdd_eq {c : α → D} (h : Kc c) (ys : List α) (x : α) : sAdd (ys.map c) (c x) = (addOne ys x).map c := by
  have e : (ys.map c).any (fun z => keyEq z (c x)) = decide (x ∈ ys) := by
    rw [List.any_map, Bool.eq_iff_iff]
    simp only [List.any_eq_true, Function.comp, h.eq, decide_eq_true_eq]
    exact ⟨fun ⟨a, ha, e⟩ => e ▸ ha, fun hx => ⟨x, hx, rfl⟩⟩
  unfold sAdd addOne
  rw [e]
  by_cases hx : x ∈ ys
  · simp [hx]
  · simp [hx]
theorem lpS {c : α → D} (h : Kc c) (o : Option D) : ∀ (xs ys : List α), ys.length + xs.length ≤ 4000 → lpL [1] (gV 1) tTrue (emS (eV 1)) (xs.map c) (.set (ys.map c)) [o, none] = .ok (.set ((addAll ys xs).map c)) [o, none]
  | [], ys, _ => rfl
  | x :: xs, ys, hl => by
    simp only [List.length_cons] at hl
    have h1 := addOne_len ys x
    have hc : decide (ys.length + 1 < 4096) = true := decide_eq_true (by omega)
    have ih := lpS h o xs (addOne ys x) (by omega)
    have e : lpL [1] (gV 1) tTrue (emS (eV 1)) ((x :: xs).map c) (.set (ys.map c)) [o, none] = lpL [1] (gV 1) tTrue (emS (eV 1)) (xs.map c) (.set (sAdd (ys.map c) (c x))) [o, none] := by
      show (emS (eV 1) (.set (ys.map c)) [o, some (c x)]).bind _ = _
      have : emS (eV 1) (.set (ys.map c)) [o, some (c x)] = .ok (.set (sAdd (ys.map c) (c x))) [o, some (c x)] := by
        show (if ((c x).leaf && decide ((ys.map c).length + 1 < 4096)) = true then _ else _) = _
        rw [h.leaf, List.length_map, hc]
        rfl
      rw [this]
      rfl
    rw [e, sAdd_eq h, ih]
    rfl
theorem setC {c : α → D} (h : Kc c) (o : Option D) (f : M (List D)) (xs : List α) (hf : f [o, none] = .ok (xs.map c) [o, none]) (hl : xs.length ≤ 4000) :
    eCp f [1] (gV 1) tTrue (emS (eV 1)) (.set []) [o, none] = .ok (.set ((addAll [] xs).map c)) [o, none] := by
  unfold eCp
  rw [M.bind_app, hf, Res.bind_ok]
  have hk : lenOk (xs.map c).length = true := decide_eq_true (by rw [List.length_map]; omega)
  rw [if_pos hk]
  show ((lpL [1] (gV 1) tTrue (emS (eV 1)) (xs.map c) (.set (([] : List α).map c)) [o, none]).noX.bind _) = _
  rw [lpS h o xs [] (by simpa using hl)]
  rfl
end
theorem kcS : Kc D.str := ⟨fun a b => by simp [keyEq, nk], fun _ => rfl⟩
theorem kcI : Kc D.int := ⟨fun a b => by simp [keyEq, nk], fun _ => rfl⟩
theorem sort_set (ys : List Str) (h : ys.length < 64) : sorted2D [.set (ys.map .str)] = some (.lst ((ys.mergeSort leS).map .str)) := by
  have hl : (ys.map D.str).length < 64 := by simpa using h
  simp only [sorted2D, if_pos hl]
  cases ys with
  | nil => simp [intsL]
  | cons y ys =>
    have h1 : intsL ((y :: ys).map D.str) = none := rfl
    rw [h1, strsL_map]
theorem sort_setI (ys : List Int) (h : ys.length < 64) : sorted2D [.set (ys.map .int)] = some (.lst ((ys.mergeSort fun a b => decide (a ≤ b)).map .int)) := by
  have hl : (ys.map D.int).length < 64 := by simpa using h
  simp only [sorted2D, if_pos hl, ints_map]
theorem sort_ints (ys : List Int) : sorted2D [.lst (ys.map .int)] = some (.lst ((ys.mergeSort fun a b => decide (a ≤ b)).map .int)) := by
  show sortedD [.lst (ys.map .int)] = _
  simp only [sortedD, ints_map]
def kRow (xs : List Str) : D := .tup (((addAll [] xs).mergeSort leS).map .str)
def aRow (xs : List Int) : D := .tup (((addAll [] xs).mergeSort fun a b => decide (a ≤ b)).map .int)
end Gm
end
section
namespace Gm
open PySem DL Gx
/-! statements that are valid -/
inductive Tm where
  | age (n : Int) | par (a b : Str)
def Tm.d : Tm → D
  | .age n => .tup [.str "age", .int n]
  | .par a b => .tup [.str "parting", .str a, .str b]
def Tm.names : Tm → List Str
  | .age _ => []
  | .par a b => [a, b]
def Tm.ages : Tm → List Int
  | .age n => if 0 < n then [n] else []
  | .par _ _ => []
inductive Sta where
  | grp (xs : List Str) | mark (xs ys : List Str) | pl (w : Str) (s t : Tm)
def rw_ (xs : List Str) : D := .tup (xs.map .str)
def Sta.d : Sta → D
  | .grp xs => .tup [.str "group", rw_ xs]
  | .mark xs ys => .tup [.str "mark", rw_ xs, rw_ ys]
  | .pl w s t => .tup [.str w, s.d, t.d]
def Sta.names : Sta → List Str
  | .grp xs => xs
  | .mark xs ys => xs ++ ys
  | .pl _ s t => s.names ++ t.names
def Sta.ages : Sta → List Int
  | .pl _ s t => s.ages ++ t.ages
  | _ => []
def Sta.ok : Sta → Prop
  | .grp xs => xs.length ≤ 24
  | .mark xs ys => xs.length ≤ 24 ∧ ys.length ≤ 24
  | .pl w _ _ => w = "older" ∨ w = "as old"
theorem strs_of : ∀ {vs : List D}, vs.all kD = true → ∃ xs : List Str, vs = xs.map .str
  | [], _ => ⟨[], rfl⟩
  | v :: vs, h => by
    rw [List.all_cons, Bool.and_eq_true] at h
    obtain ⟨x, rfl⟩ := kD_str h.1
    obtain ⟨xs, rfl⟩ := strs_of h.2
    exact ⟨x :: xs, rfl⟩
theorem row_of {d : D} {n : Int} (h : rowD d n = true) : ∃ xs : List Str, d = rw_ xs ∧ xs.length ≤ 24 := by
  obtain ⟨vs, rfl, _, hl, hk, _⟩ := rowD_tup h
  obtain ⟨xs, rfl⟩ := strs_of hk
  exact ⟨xs, rfl, by simpa using hl⟩
theorem term_of {d : D} (h : termD d = true) : ∃ t : Tm, d = t.d := by
  unfold termD at h
  split at h
  · rename_i x b
    rw [Bool.and_eq_true, decide_eq_true_eq] at h
    obtain ⟨rfl, h⟩ := h
    cases b <;> simp only [inR] at h <;> first | (cases h; done) | exact ⟨.age _, rfl⟩
  · rename_i x b c
    simp only [Bool.and_eq_true, decide_eq_true_eq] at h
    obtain ⟨_, rfl, hb, hc⟩ := h
    obtain ⟨a, rfl⟩ := kD_str hb
    obtain ⟨b, rfl⟩ := kD_str hc
    exact ⟨.par a b, rfl⟩
  · cases h
theorem sta_of {d : D} (h : stD d = true) : ∃ s : Sta, d = s.d ∧ s.ok := by
  unfold stD at h
  split at h
  · rename_i g row
    rw [Bool.and_eq_true, decide_eq_true_eq] at h
    obtain ⟨rfl, h⟩ := h
    obtain ⟨xs, rfl, hl⟩ := row_of h
    exact ⟨.grp xs, rfl, hl⟩
  · rename_i w a b
    split at h
    · rename_i hp
      rw [Bool.and_eq_true] at h
      obtain ⟨s, rfl⟩ := term_of h.1
      obtain ⟨t, rfl⟩ := term_of h.2
      refine ⟨.pl w s t, rfl, ?_⟩
      simpa [plainW, Sta.ok] using hp
    · simp only [Bool.and_eq_true, decide_eq_true_eq] at h
      obtain ⟨rfl, h1, h2, _⟩ := h
      obtain ⟨xs, rfl, hl⟩ := row_of h1
      obtain ⟨ys, rfl, hl2⟩ := row_of h2
      exact ⟨.mark xs ys, rfl, hl, hl2⟩
  · cases h
theorem Sta.names_len (s : Sta) (h : s.ok) : s.names.length ≤ 48 := by
  cases s with
  | grp xs => simp only [Sta.ok] at h; simp only [Sta.names]; omega
  | mark xs ys => simp only [Sta.ok] at h; simp only [Sta.names, List.length_append]; omega
  | pl w s t => cases s <;> cases t <;> simp [Sta.names, Tm.names]
theorem Sta.ages_len (s : Sta) : s.ages.length ≤ 2 := by
  cases s with
  | pl w s t =>
    have h : ∀ t : Tm, t.ages.length ≤ 1 := fun t => by
      cases t with
      | age n => simp only [Tm.ages]; split <;> simp
      | par a b => simp [Tm.ages]
    have := h s
    have := h t
    simp only [Sta.ages, List.length_append]
    omega
  | _ => simp [Sta.ages]
theorem kw_eq (s : Sta) (h : s.ok) : m_kinds_within [s.d] = .ok (.lst (s.names.map .str)) [] := by
  cases s with
  | grp xs => simp [m_kinds_within, g_kinds_within, Sta.d, Sta.names, rw_]
  | mark xs ys =>
    have hl : lenOk ((xs.map D.str).length + (ys.map D.str).length) = true := by
      simp only [List.length_map]
      exact decide_eq_true (by simp only [Sta.ok] at h; omega)
    have ha : addD [.tup (xs.map D.str), .tup (ys.map D.str)] = some (.tup (xs.map D.str ++ ys.map D.str)) := by simp only [addD, hl, if_true]
    have hn : decide (Str.ofString "mark" = Str.ofString "group") = false := by decide
    simp [m_kinds_within, g_kinds_within, Sta.d, Sta.names, rw_, ha, hn]
  | pl w s t =>
    simp only [Sta.ok] at h
    rcases h with rfl | rfl <;> cases s <;> cases t <;> kernel_rfl
def ageT (d : D) : Bool := match d with
  | .tup [_, .int n] => decide (0 < n)
  | _ => false
def ageF (d : D) : D := match d with
  | .tup [_, x] => x
  | _ => .non
theorem ageT_eq (i : Nat) (t : Tm) (ρ : DL.Env) (h : ρ[i]? = some (some t.d)) : (tAndM (eTst (appM [.v (appM [.v (eV i), .v (eC (.int 0))] ix2D), .v (eC (.str "age"))] eqD)) (eTst (appM [.v (appM [.v (eV i), .v (eC (.int 1))] ix2D), .v (eC (.int 0))] gtD))) ρ = .ok (ageT t.d) ρ := by
  cases t with
  | age n => simp [h, Tm.d, ageT]
  | par a b =>
    have hn : decide (Str.ofString "parting" = Str.ofString "age") = false := by decide
    simp [h, Tm.d, ageT, hn]
theorem ageF_eq (i : Nat) (t : Tm) (ρ : DL.Env) (h : ρ[i]? = some (some t.d)) : (appM [.v (eV i), .v (eC (.int 1))] ix2D) ρ = .ok (match t with | .age n => .int n | .par a _ => .str a) ρ := by
  cases t <;> simp [h, Tm.d]
theorem ages_two (s t : Tm) : (([s.d, t.d].filter ageT).map ageF) = (s.ages ++ t.ages).map .int := by
  cases s with
  | age n =>
    cases t with
    | age m => by_cases h1 : 0 < n <;> by_cases h2 : 0 < m <;> simp [Tm.d, Tm.ages, ageT, ageF, h1, h2]
    | par a b => by_cases h1 : 0 < n <;> simp [Tm.d, Tm.ages, ageT, ageF, h1]
  | par c e =>
    cases t with
    | age m => by_cases h2 : 0 < m <;> simp [Tm.d, Tm.ages, ageT, ageF, h2]
    | par a b => simp [Tm.d, Tm.ages, ageT, ageF]
theorem lo_two (w : D) (a b : D) : slDlo [.tup [w, a, b], .int 1] = some (.tup [a, b]) := rfl
theorem ageC (i : Nat) (s t : Tm) (f : M (List D)) (ρ : DL.Env) (hi : i < ρ.length) (hf : f ρ = .ok [s.d, t.d] ρ) : eLc f [i] (gV i) (tAndM (eTst (appM [.v (appM [.v (eV i), .v (eC (.int 0))] ix2D), .v (eC (.str "age"))] eqD)) (eTst (appM [.v (appM [.v (eV i), .v (eC (.int 1))] ix2D), .v (eC (.int 0))] gtD)))
    (appM [.v (eV i), .v (eC (.int 1))] ix2D) ρ = .ok (.lst ((s.ages ++ t.ages).map .int)) ρ := by
  have key : ∀ d ∈ [s.d, t.d], ∃ u : Tm, d = u.d := fun d hd => by
    rcases List.mem_cons.mp hd with rfl | hd
    · exact ⟨s, rfl⟩
    · exact ⟨t, List.mem_singleton.mp hd⟩
  rw [eLc_one (T := ageT) (F := ageF) hf (by simp) hi (fun d hd => by
    obtain ⟨u, rfl⟩ := key d hd
    exact ageT_eq i u _ (List.getElem?_set_self hi)) (fun d hd hT => by
    obtain ⟨u, rfl⟩ := key d hd
    rw [ageF_eq i u _ (List.getElem?_set_self hi)]
    cases u with
    | age n => rfl
    | par a b => cases hT), ages_two]
theorem aw_eq (s : Sta) (h : s.ok) : m_ages_within [s.d] = .ok (.lst (s.ages.map .int)) [] := by
  have hl : lenOk 0 = true := by decide
  cases s with
  | grp xs =>
    have hp : m_is_plain [(Sta.grp xs).d] = .ok (.bl false) [] := by
      have : plainW "group" = false := by decide
      simp [m_is_plain, g_is_plain, Sta.d, plain_in, this]
    simp [m_ages_within, g_ages_within, evalA, fillA, hp, Sta.ages, hl]
  | mark xs ys =>
    have hp : m_is_plain [(Sta.mark xs ys).d] = .ok (.bl false) [] := by
      have : plainW "mark" = false := by decide
      simp [m_is_plain, g_is_plain, Sta.d, plain_in, this]
    simp [m_ages_within, g_ages_within, evalA, fillA, hp, Sta.ages, hl]
  | pl w s t =>
    have hp : m_is_plain [(Sta.pl w s t).d] = .ok (.bl true) [] := by
      have : plainW w = true := by simp only [Sta.ok] at h; rcases h with rfl | rfl <;> decide
      simp [m_is_plain, g_is_plain, Sta.d, plain_in, this]
    have hr := ageC 1 s t (iSeq2 (appM [.v (eV 0), .v (asInt (eC (.int 1)))] slDlo)) [some (Sta.pl w s t).d, none] (by simp) (by simp [Sta.d, lo_two])
    simp only [m_ages_within, g_ages_within, fn_nw0]
    simp [evalA, fillA, hp]
    rw [hr]
    simp [Sta.ages]
/-! the law's own -/
theorem app_at {f : M D} {ρ : DL.Env} {i : Nat} {d : D} {ds : List D} (h1 : f ρ = .ok d ρ) (h2 : ρ[i]? = some (some (.lst ds))) (h3 : lenOk (ds.length + 1) = true) : sApp i f ρ = .ok .nx (ρ.set i (some (.lst (ds ++ [d])))) := by
  simp only [sApp, h2, M.bind_app, h1, Res.bind_ok, h3, if_true]
end Gm
end
section
namespace Gm
open PySem DL Gx
theorem gm_in (w : Str) : in3D [.str w, .lst [.str "group", .str "mark"]] = some (.bl (decide (w = "group") || decide (w = "mark"))) := by
  show inD [.str w, .lst [.str "group", .str "mark"]] = _
  simp only [inD, D.flat, List.all_cons, List.all_nil, Bool.and_self, Bool.true_or, if_true, List.any_cons, List.any_nil, eqB_ss, Bool.or_false]
  congr 2
  simp only [eq_comm]
theorem lst_add (x y : List D) (h : x.length + y.length ≤ 1000) : addD [.lst x, .lst y] = some (.lst (x ++ y)) := by
  have hk : lenOk (x.length + y.length) = true := decide_eq_true (by omega)
  simp only [addD, hk, if_true]
end Gm
end
section
namespace Gm
open PySem DL Gx
theorem rw_bnd {xs : List Str} (hl : xs.length ≤ 1000) (h : ∀ x ∈ xs, x.length ≤ 1000) : bnd (rw_ xs) = true := by
  refine bnd_tup.mpr ⟨by simpa using hl, fun d hd => ?_⟩
  obtain ⟨x, hx, rfl⟩ := List.mem_map.mp hd
  exact decide_eq_true (h x hx)
theorem rw_mem {xs : List Str} (h : bnd (rw_ xs) = true) : ∀ x ∈ xs, x.length ≤ 1000 := fun x hx => by
  have := (bnd_tup.mp h).2 (.str x) (List.mem_map_of_mem hx)
  simpa [bnd] using this
theorem names_bnd {s : Sta} (h : bnd s.d = true) : ∀ x ∈ s.names, x.length ≤ 1000 := by
  have tm : ∀ t : Tm, bnd t.d = true → ∀ x ∈ t.names, x.length ≤ 1000 := fun t ht x hx => by
    cases t with
    | age n => cases hx
    | par a b =>
      have hm := (bnd_tup.mp ht).2
      have h1 := hm (.str a) (by simp)
      have h2 := hm (.str b) (by simp)
      simp only [bnd, decide_eq_true_eq] at h1 h2
      rcases List.mem_cons.mp hx with rfl | hx
      · exact h1
      · rw [List.mem_singleton.mp hx]; exact h2
  cases s with
  | grp xs => exact rw_mem ((bnd_tup.mp h).2 (rw_ xs) (by simp))
  | mark xs ys =>
    have h1 := rw_mem ((bnd_tup.mp h).2 (rw_ xs) (by simp))
    have h2 := rw_mem ((bnd_tup.mp h).2 (rw_ ys) (by simp))
    exact fun x hx => (List.mem_append.mp hx).elim (h1 x) (h2 x)
  | pl w s t =>
    have h1 := tm s ((bnd_tup.mp h).2 s.d (by simp))
    have h2 := tm t ((bnd_tup.mp h).2 t.d (by simp))
    exact fun x hx => (List.mem_append.mp hx).elim (h1 x) (h2 x)
theorem szL_map {α : Type} (c : α → D) (hc : ∀ a, sz (c a) = 1) : ∀ xs : List α, szL (xs.map c) = xs.length
  | [] => rfl
  | x :: xs => by simp only [List.map_cons, szL, hc, szL_map c hc xs, List.length_cons]; omega
theorem kRow_same (xs : List Str) (hl : xs.length ≤ 1000) (h : ∀ x ∈ xs, x.length ≤ 1000) : m__law_same [kRow xs, kRow xs] = .ok (.bl true) [] := by
  have h1 := addAll_len xs []
  simp only [List.length_nil, Nat.zero_add] at h1
  refine same_ok _ (bnd_tup.mpr ⟨by simp; omega, fun d hd => ?_⟩) ?_
  · obtain ⟨x, hx, rfl⟩ := List.mem_map.mp hd
    refine decide_eq_true (h x ?_)
    rw [List.mem_mergeSort, addAll_mem] at hx
    exact hx.elim (fun z => by cases z) id
  · simp only [kRow, sz, szL_map D.str (fun _ => rfl), List.length_mergeSort]
    omega
theorem aRow_same (xs : List Int) (hl : xs.length ≤ 1000) : m__law_same [aRow xs, aRow xs] = .ok (.bl true) [] := by
  have h1 := addAll_len xs []
  simp only [List.length_nil, Nat.zero_add] at h1
  refine same_ok _ (bnd_tup.mpr ⟨by simp; omega, fun d hd => ?_⟩) ?_
  · obtain ⟨x, hx, rfl⟩ := List.mem_map.mp hd
    rfl
  · simp only [aRow, sz, szL_map D.int (fun _ => rfl), List.length_mergeSort]
    omega
/-! the book of one entry -/
theorem in_rw (x : Str) (ks : List Str) : in3D [.str x, rw_ ks] = some (.bl (decide (x ∈ ks))) := by
  rw [rw_, in_tup rfl (by simp [List.all_map, D.flat])]
  have : (ks.map D.str).any (fun z => eqB z (.str x)) = decide (x ∈ ks) := by
    rw [Bool.eq_iff_iff]
    simp only [List.any_map, List.any_eq_true, Function.comp, eqB_ss, decide_eq_true_eq]
    exact ⟨fun ⟨y, hy, e⟩ => e ▸ hy, fun h => ⟨x, h, rfl⟩⟩
  rw [this]
def allIn (xs ks : List Str) : Bool := xs.all fun x => decide (x ∈ ks)
theorem within_eq (xs ks : List Str) (hl : xs.length ≤ 1000) : m_is_within [.lst (xs.map .str), rw_ ks] = .ok (.bl (allIn xs ks)) [] := by
  have hr := eLc_all (i := 2) (ρ := [some (.lst (xs.map .str)), some (rw_ ks), none]) (f := iSeq2 (eV 0)) (te := appM [.v (eV 2), .v (eV 1)] in3D) (F := fun d => match d with | .str x => .bl (decide (x ∈ ks)) | d => d) (ds := xs.map .str) (by simp) (by simp; omega) (by simp) (by
    intro d hd
    obtain ⟨x, _, rfl⟩ := List.mem_map.mp hd
    simp [in_rw])
  have hm : (xs.map D.str).map (fun d => match d with | .str x => D.bl (decide (x ∈ ks)) | d => d) = xs.map fun x => D.bl (decide (x ∈ ks)) := by
    rw [List.map_map]
    rfl
  rw [hm] at hr
  simp [m_is_within, g_is_within]
  simp [hr, all_bl, allIn]
theorem allIn_sorted (xs ks : List Str) : ((addAll [] xs).mergeSort leS).all (fun x => decide (x ∈ ks)) = allIn xs ks := by
  rw [Bool.eq_iff_iff, allIn]
  simp only [List.all_eq_true, List.mem_mergeSort, addAll_mem, List.not_mem_nil, false_or]
theorem nks_strs : ∀ xs : List Str, nks (xs.map .str) = some (xs.map .text)
  | [] => rfl
  | x :: xs => by simp only [List.map_cons, nks, nk, nks_strs xs]
theorem depth_strs : ∀ xs : List Str, NestedKey.depthAll (xs.map .text) = 0
  | [] => rfl
  | x :: xs => by simp only [List.map_cons, NestedKey.depthAll, NestedKey.depth, depth_strs xs]; rfl
theorem key_row (xs : List Str) : ∃ k, nk (rw_ xs) = some k ∧ k.depth ≤ 1 := ⟨.tup (xs.map .text), by simp only [rw_, nk, nks_strs, Option.map_some], by simp only [NestedKey.depth, depth_strs]; omega⟩
theorem key_two {a b : D} {k k2 : NestedKey} (w : Str) (n : Nat) (h : nk a = some k) (h2 : nk b = some k2) (hd : k.depth ≤ n) (hd2 : k2.depth ≤ n) : nk (.tup [.str w, a, b]) = some (.tup [.text w, k, k2]) ∧ NestedKey.depth (.tup [.text w, k, k2]) ≤ n + 1 := by
  refine ⟨by simp only [nk, nks, h, h2, Option.map_some], ?_⟩
  simp only [NestedKey.depth, NestedKey.depthAll]
  omega
theorem key_tm (t : Tm) : ∃ k, nk t.d = some k ∧ k.depth ≤ 1 := by
  cases t with
  | age n => exact ⟨.tup [.text "age", .num n], by simp only [Tm.d, nk, nks, Option.map_some], by simp only [NestedKey.depth, NestedKey.depthAll]; omega⟩
  | par a b => exact ⟨_, (key_two (a := .str a) (b := .str b) "parting" 0 rfl rfl (by simp [NestedKey.depth]) (by simp [NestedKey.depth])).1, (key_two (a := .str a) (b := .str b) "parting" 0 rfl rfl (by simp [NestedKey.depth]) (by simp [NestedKey.depth])).2⟩
theorem key_sta (s : Sta) : ∃ k, nk s.d = some k ∧ k.depth ≤ 2 := by
  cases s with
  | grp xs =>
    obtain ⟨k, h, hd⟩ := key_row xs
    exact ⟨.tup [.text "group", k], by simp only [Sta.d, nk, nks, h, Option.map_some], by simp only [NestedKey.depth, NestedKey.depthAll]; omega⟩
  | mark xs ys =>
    obtain ⟨k, h, hd⟩ := key_row xs
    obtain ⟨k2, h2, hd2⟩ := key_row ys
    exact ⟨_, (key_two "mark" 1 h h2 hd hd2).1, (key_two "mark" 1 h h2 hd hd2).2⟩
  | pl w s t =>
    obtain ⟨k, h, hd⟩ := key_tm s
    obtain ⟨k2, h2, hd2⟩ := key_tm t
    exact ⟨_, (key_two w 1 h h2 hd hd2).1, (key_two w 1 h h2 hd hd2).2⟩
end Gm
end
section
namespace Gm
open PySem DL Gx
@[simp] theorem ev_gTup2 (i j : Nat) (a b : D) (ρ : DL.Env) : gTup 2 (gsC (gV i) (gsC (gV j) gsN)) (.tup [a, b]) ρ = some ((ρ.set i (some a)).set j (some b)) := rfl
/-! within the limits -/
theorem lpSi {c : Int → D} (h : Kc c) (ρ : DL.Env) (i : Nat) (hi : i < ρ.length) : ∀ (xs ys : List Int), ys.length + xs.length ≤ 4000 → lpL [i] (gV i) tTrue (emS (eV i)) (xs.map c) (.set (ys.map c)) (ρ.set i none) = .ok (.set ((addAll ys xs).map c)) (ρ.set i none)
  | [], ys, _ => rfl
  | x :: xs, ys, hl => by
    simp only [List.length_cons] at hl
    have h1 := addOne_len ys x
    have hc : decide (ys.length + 1 < 4096) = true := decide_eq_true (by omega)
    have ih := lpSi h ρ i hi xs (addOne ys x) (by omega)
    have em : emS (eV i) (.set (ys.map c)) (ρ.set i (some (c x))) = .ok (.set (sAdd (ys.map c) (c x))) (ρ.set i (some (c x))) := by
      simp only [emS, ev_eV, List.getElem?_set_self hi, Res.noX_ok, Res.bind_ok, h.leaf, List.length_map, hc, Bool.and_self, if_true]
    simp only [List.map_cons, lpL, ev_gV, List.set_set]
    show (emS (eV i) (.set (ys.map c)) (ρ.set i (some (c x)))).bind _ = _
    rw [em, Res.bind_ok]
    show lpL [i] (gV i) tTrue (emS (eV i)) (xs.map c) (.set (sAdd (ys.map c) (c x))) ((ρ.set i (some (c x))).set i none) = _
    rw [List.set_set, sAdd_eq h, ih]
    rfl
end Gm
end
section
namespace Gm
open PySem DL Gx
theorem strs_inj : ∀ {xs ys : List Str}, xs.map D.str = ys.map D.str → xs = ys
  | [], [], _ => rfl
  | [], _ :: _, h => by simp at h
  | _ :: _, [], h => by simp at h
  | x :: xs, y :: ys, h => by
    simp only [List.map_cons, List.cons.injEq, D.str.injEq] at h
    rw [h.1, strs_inj h.2]
end Gm
end
section
namespace Gm
open PySem DL Gx
/-! ascending rows -/
theorem ltS_tr {x y z : Str} (h1 : ltS x y = true) (h2 : ltS y z = true) : ltS x z = true := by
  rw [ltS_iff] at *
  exact List.lt_trans h1 h2
theorem ltS_irr (x : Str) : ltS x x = false := by
  cases h : ltS x x with
  | false => rfl
  | true =>
    rw [ltS_iff] at h
    exact absurd h (List.lt_irrefl _)
theorem ascD_cons (x y : Str) (r : List Str) : ascD ((x :: y :: r).map .str) = (ltS x y && ascD ((y :: r).map .str)) := by
  simp only [ascD, List.map_cons, List.length_cons, Nat.add_sub_cancel]
  rw [List.range_succ_eq_map, List.all_cons, List.all_map]
  rfl
theorem asc_iff : ∀ xs : List Str, ascD (xs.map .str) = true ↔ xs.Pairwise fun x y => ltS x y = true
  | [] => by simp [ascD]
  | [x] => by simp [ascD]
  | x :: y :: r => by
    rw [ascD_cons, Bool.and_eq_true, asc_iff (y :: r)]
    constructor
    · rintro ⟨h1, h2⟩
      refine List.pairwise_cons.mpr ⟨fun z hz => ?_, h2⟩
      rcases List.mem_cons.mp hz with rfl | hz
      · exact h1
      · exact ltS_tr h1 ((List.pairwise_cons.mp h2).1 z hz)
    · intro h
      obtain ⟨h1, h2⟩ := List.pairwise_cons.mp h
      exact ⟨h1 y (List.mem_cons_self ..), h2⟩
theorem asc_nodup {xs : List Str} (h : ascD (xs.map .str) = true) : xs.Nodup := by
  refine ((asc_iff xs).mp h).imp fun {a b} h e => ?_
  subst e
  rw [ltS_irr] at h
  cases h
theorem asc_sub {xs ys : List Str} (h : ascD (ys.map .str) = true) (s : xs.Sublist ys) : ascD (xs.map .str) = true := (asc_iff xs).mpr (((asc_iff ys).mp h).sublist s)
/-- a kind list -/
structure Kds (ks : List Str) : Prop where
  kS : ∀ x ∈ ks, kS x = true
  asc : ascD (ks.map .str) = true
  lo : 2 ≤ ks.length
  hi : ks.length ≤ 24
theorem kd_all_of {ks : List Str} (h : ∀ x ∈ ks, kS x = true) : (ks.map D.str).all kD = true := by
  rw [List.all_map, List.all_eq_true]
  exact fun x hx => h x hx
theorem row_ok {ks : List Str} {n : Int} (h : ∀ x ∈ ks, kS x = true) (ha : ascD (ks.map .str) = true) (hl : n ≤ ks.length) (hh : ks.length ≤ 24) : rowD (rw_ ks) n = true := by
  simp only [rw_, rowD, List.length_map, kd_all_of h, ha, Bool.and_true, Bool.and_eq_true, decide_eq_true_eq]
  exact ⟨hl, hh⟩
theorem row_bnd {ks : List Str} (h : ∀ x ∈ ks, kS x = true) (hh : ks.length ≤ 1000) : bnd (rw_ ks) = true := rw_bnd hh fun x hx => by
  have := (kS_len (h x hx)).2
  omega
/-! more of the small logic -/
section
variable {p : Nat} {ns : List Int} {r : DL.Env}
theorem SM.call2 {m : Fn} {f g : M D} {Q : D → DL.Env → Prop} (hp : p < r.length) (h : SM p ns f r fun d r1 => SM p ns g r1 fun e r2 => p < r2.length ∧ SF ns m [d, e] fun v => Q v r2) : SM p ns (eCall m [0] [.p p, .v f, .v g] []) r Q := fun c k => by
  obtain ⟨c', k', d, r', e, q⟩ := h c k
  obtain ⟨c2, k2, d2, r2, e2, hp', q⟩ := q c' k'
  obtain ⟨c3, k3, v, em, q⟩ := q c2 k2
  refine ⟨c3, k3, v, r2, ?_, q⟩
  simp [eCall, evalA, fillA, e, e2, em, putOuts, hp, hp']
theorem SM.pcall2 {m : Fn} {f g : M D} {Q : D → DL.Env → Prop} (hf : SM p ns f r fun d r1 => SM p ns g r1 fun d2 r2 => ∃ v, m [d, d2] = .ok v [] ∧ Q v r2) : SM p ns (eCall m [] [.v f, .v g] []) r Q := fun c k => by
  obtain ⟨c', k', d, r', e, q⟩ := hf c k
  obtain ⟨c2, k2, d2, r2, e2, v, em, q⟩ := q c' k'
  exact ⟨c2, k2, v, r2, by simp [evalA, fillA, e, e2, em], q⟩
theorem rest_eq {i : Nat} (hi : i < r.length) (hp : p ≠ i) (S S' : Option D) : restE (r.set p S) ((r.set i none).set p S') [i] = r.set p S' := by
  apply List.ext_getElem?
  intro j
  by_cases hj : j = i
  · subst hj
    rw [rE.2 (by simp) (by simpa using hi), List.getElem?_set_ne hp, List.getElem?_set_ne hp]
    rw [List.getElem?_eq_getElem hi]
    rfl
  · rw [rE.1 (by simpa using hj)]
    by_cases hjp : j = p
    · subst hjp
      simp only [List.getElem?_set, if_true, List.length_set]
    · rw [List.getElem?_set_ne (Ne.symm hjp), List.getElem?_set_ne (Ne.symm hjp), List.getElem?_set_ne (Ne.symm hj)]
theorem lc_filt {i : Nat} (hi : i < r.length) (hp : p ≠ i) {tt : M Bool} (T : D → Prop) : ∀ (ds : List D), (∀ d ∈ ds, SM p ns tt (r.set i (some d)) fun b r1 => r1 = r.set i (some d) ∧ (b = true → T d)) → ∀ c k, ∃ c' k' ys,
    lcL [i] (gV i) tt (eV i) ds ((r.set i none).set p (some (Sm ns c k))) = .ok ys ((r.set i none).set p (some (Sm ns c' k'))) ∧ ys.Sublist ds ∧ ∀ y ∈ ys, T y
  | [], _, c, k => ⟨c, k, [], rfl, List.Sublist.refl _, fun y h => by cases h⟩
  | d :: ds, h, c, k => by
    obtain ⟨c1, k1, b, r1, e1, rfl, hT⟩ := h d (List.mem_cons_self ..) c k
    obtain ⟨c2, k2, ys, e2, hs, hy⟩ := lc_filt hi hp T ds (fun x hx => h x (List.mem_cons_of_mem _ hx)) c1 k1
    have eg : gV i d ((r.set i none).set p (some (Sm ns c k))) = some ((r.set i (some d)).set p (some (Sm ns c k))) := by
      show some _ = some _
      rw [List.set_comm _ _ hp, List.set_set]
    have ew : wipeE ((r.set i (some d)).set p (some (Sm ns c1 k1))) [i] = (r.set i none).set p (some (Sm ns c1 k1)) := by
      show ((r.set i (some d)).set p _).set i none = _
      rw [List.set_comm _ _ hp, List.set_set]
    have ev : eV i ((r.set i (some d)).set p (some (Sm ns c1 k1))) = .ok d ((r.set i (some d)).set p (some (Sm ns c1 k1))) := by
      rw [ev_eV, List.getElem?_set_ne hp, List.getElem?_set_self hi]
    cases b with
    | true =>
      refine ⟨c2, k2, d :: ys, ?_, hs.cons₂ d, fun y hy' => ?_⟩
      · simp only [lcL, eg, e1, Res.noX_ok, Res.bind_ok, if_true, ev, ew, e2]
      · rcases List.mem_cons.mp hy' with rfl | hy'
        · exact hT rfl
        · exact hy y hy'
    | false =>
      refine ⟨c2, k2, ys, ?_, hs.cons d, hy⟩
      simp only [lcL, eg, e1, Res.noX_ok, Res.bind_ok, Bool.false_eq_true, if_false, ew, e2]
theorem SM.filt {i : Nat} (hi : i < r.length) (hp : p ≠ i) {fl : M (List D)} {tt : M Bool} {ds : List D} (hf : ∀ s, fl (r.set p (some s)) = .ok ds (r.set p (some s))) (hl : ds.length ≤ 10000) (T : D → Prop)
    (ht : ∀ d ∈ ds, SM p ns tt (r.set i (some d)) fun b r1 => r1 = r.set i (some d) ∧ (b = true → T d)) {Q : D → DL.Env → Prop} (q : ∀ ys : List D, ys.Sublist ds → (∀ y ∈ ys, T y) → Q (.lst ys) r) : SM p ns (eLc fl [i] (gV i) tt (eV i)) r Q := fun c k => by
  obtain ⟨c', k', ys, e, hs, hy⟩ := lc_filt hi hp T ds ht c k
  refine ⟨c', k', .lst ys, r, ?_, q ys hs hy⟩
  have hok : lenOk ds.length = true := decide_eq_true (by omega)
  unfold eLc
  rw [M.bind_app, hf, Res.bind_ok, if_pos hok]
  have ew : wipeE (r.set p (some (Sm ns c k))) [i] = (r.set i none).set p (some (Sm ns c k)) := by
    show (r.set p _).set i none = _
    rw [List.set_comm _ _ hp]
  rw [ew, e, Res.bind_ok, rest_eq hi hp]
end
theorem sf_pickT (ns : List Int) (vs : List D) (h : 0 < vs.length) (h2 : vs.length < 1073741824) : SF ns m__law_pick [.tup vs] fun v => v ∈ vs := by
  refine SF.mk (SM.ret (SM.app2 (SM.v (d := .tup vs) rfl (SM.call1 (by simp) (SM.app1 (SM.v (d := .tup vs) rfl ⟨_, len_tup vs, by simp, ?_⟩))))))
  refine (sf_next ns vs.length (by omega) (by omega)).mono ?_
  rintro _ ⟨i, rfl, h0, h1⟩
  have hi : i.toNat < vs.length := by omega
  have e : (i : Int) = (i.toNat : Nat) := by omega
  refine ⟨vs[i.toNat], ?_, by simp, _, rfl, List.getElem_mem hi⟩
  have := ixT vs i.toNat _ (List.getElem?_eq_getElem hi)
  rwa [← e] at this
end Gm
end
section
namespace Gm
open PySem DL Gx
/-! some of the kinds -/
def lw_ (xs : List Str) : D := .lst (xs.map .str)
theorem ixL (vs : List D) (i : Nat) (d : D) (h : vs[i]? = some d) : ix2D [.lst vs, .int (i : Nat)] = some d := by
  show ixD [.lst vs, .int i] = _
  simp only [ixD]
  exact L2.atI_nat h
def smK : M Fl := (sSeq (sAsg (appM [.v (eV 1), .v (appM [.v (appM [.v (appM [.v (eV 6), .v (eV 5)] addD)] intD), .v (appM [.v (eV 1)] len3D)] modD)] ix2D) (gV 7))
  (sIf (tAndM (eTst (appM [.v (appM [.p 4] len3D), .v (eV 2)] ltD)) (eTst (appM [.v (eV 7), .p 4] notIn3D))) (sApp 4 (eV 7)) sNx))
theorem some_parts : g__law_some = sSeq (sAsg (eCall m__law_pick [0] [.p 0, .v (eNew (eLst [(eC (.int 2)), (eC (.int 2)), (eC (.int 3)), (eC (.int 6))]))] []) (gV 3)) (sSeq (sAsgO 4 (eLc (iSeq2 (eV 1)) [7] (gV 7) (eTst (appM [.v (eCall m__law_next [0] [.p 0, .v (eV 3)] []), .v (eC (.int 0))] eqD)) (eV 7))) (sSeq (sAsg (eCall m__law_next [0] [.p 0, .v (appM [.v (eC (.int 1)), .v (appM [.v (eV 1)] len3D)] max2D)] []) (gV 5)) (sSeq (sFor (iRange1 (appM [.v (eV 1)] len3D)) (gV 6) smK) (sRet (appM [.v (appM [.p 4] sorted2D)] tupleD))))) := by
  simp only [g__law_some, smK]
def soE (ks : List Str) (least : Nat) (o3 : Option D) (found : List Str) (st : Nat) (o6 o7 : Option D) : DL.Env := [none, some (lw_ ks), some (.int least), o3, some (.lst (found.map .str)), some (.int st), o6, o7]
def soN (ks found : List Str) (least : Nat) (x : Str) : List Str := if found.length < least ∧ x ∉ found then found ++ [x] else found
theorem smK_eq (ks : List Str) (least : Nat) (o3 : Option D) (found : List Str) (st j : Nat) (o7 : Option D) (hf : found.length ≤ 1000) (h0 : 0 < ks.length) (s : D) :
    smK ((soE ks least o3 found st (some (.int j)) o7).set 0 (some s)) = .ok .nx ((soE ks least o3 (soN ks found least (ks[(j + st) % ks.length]'(Nat.mod_lt _ h0))) st (some (.int j)) (some (.str (ks[(j + st) % ks.length]'(Nat.mod_lt _ h0))))).set 0 (some s)) := by
  have hi := Nat.mod_lt (j + st) h0
  have hlen : len3D [lw_ ks] = some (.int ks.length) := by simp [lw_]
  have hmod : modD [.int ((j : Int) + (st : Int)), .int (ks.length : Int)] = some (.int (((j : Int) + (st : Int)) % (ks.length : Int))) := by
    have : decide (0 < (ks.length : Int)) = true := decide_eq_true (by omega)
    simp only [modD, this, if_true]
  have hix : ix2D [lw_ ks, .int (((j : Int) + (st : Int)) % (ks.length : Int))] = some (.str ks[(j + st) % ks.length]) := by
    have e : ((j : Int) + (st : Int)) % (ks.length : Int) = (((j + st) % ks.length : Nat) : Int) := by simp
    rw [lw_, e]
    exact ixL _ _ _ (by rw [List.getElem?_map, List.getElem?_eq_getElem hi]; rfl)
  have hint : ∀ i : Int, intD [.int i] = some (.int i) := fun i => rfl
  have hm := mem_strs ks[(j + st) % ks.length] found
  have hA : (sAsg (appM [.v (eV 1), .v (appM [.v (appM [.v (appM [.v (eV 6), .v (eV 5)] addD)] intD), .v (appM [.v (eV 1)] len3D)] modD)] ix2D) (gV 7)) ((soE ks least o3 found st (some (.int j)) o7).set 0 (some s)) = .ok .nx ((soE ks least o3 found st (some (.int j)) (some (.str ks[(j + st) % ks.length]))).set 0 (some s)) := by
    simp [soE, hlen, hint, hmod, hix]
  unfold smK
  rw [ev_seq, hA, Res.bind_ok]
  have c1 : decide ((found.length : Int) < (least : Int)) = decide (found.length < least) := by
    by_cases z : found.length < least
    · rw [decide_eq_true z, decide_eq_true (by omega)]
    · rw [decide_eq_false z, decide_eq_false (by omega)]
  show (sIf _ (sApp 4 (eV 7)) sNx) _ = _
  by_cases h1 : found.length < least
  · by_cases h2 : ks[(j + st) % ks.length] ∈ found
    · simp [soE, soN, c1, h1, hm, h2]
    · have hk : lenOk ((found.map D.str).length + 1) = true := by rw [List.length_map]; exact decide_eq_true (by omega)
      have ha := app_at (f := eV 7) (ρ := (soE ks least o3 found st (some (.int j)) (some (.str ks[(j + st) % ks.length]))).set 0 (some s)) (i := 4) (d := .str ks[(j + st) % ks.length]) (ds := found.map .str) (by rfl) (by rfl) hk
      rw [ev_sif]
      have ht : (tAndM (eTst (appM [.v (appM [.p 4] len3D), .v (eV 2)] ltD)) (eTst (appM [.v (eV 7), .p 4] notIn3D))) ((soE ks least o3 found st (some (.int j)) (some (.str ks[(j + st) % ks.length]))).set 0 (some s)) = .ok true ((soE ks least o3 found st (some (.int j)) (some (.str ks[(j + st) % ks.length]))).set 0 (some s)) := by
        simp [soE, c1, h1, hm, h2]
      rw [ht, Res.bind_ok, cnd_t, ha]
      simp [soE, soN, h1, h2]
  · simp [soE, soN, c1, h1]
structure SoI (ks found : List Str) (least st j : Nat) : Prop where
  nd : found.Nodup
  sub : found ⊆ ks
  go : least ≤ found.length ∨ ∀ i, i < j → ∀ h : (i + st) % ks.length < ks.length, ks[(i + st) % ks.length] ∈ found
theorem SoI.next {ks found : List Str} {least st j : Nat} (h : SoI ks found least st j) (h0 : 0 < ks.length) : SoI ks (soN ks found least (ks[(j + st) % ks.length]'(Nat.mod_lt _ h0))) least st (j + 1) := by
  have hi := Nat.mod_lt (j + st) h0
  unfold soN
  by_cases hc : found.length < least ∧ ks[(j + st) % ks.length] ∉ found
  · rw [if_pos hc]
    refine ⟨?_, ?_, .inr fun i hij hh => ?_⟩
    · rw [List.nodup_append]
      exact ⟨h.nd, by simp, fun a ha b hb => by rw [List.mem_singleton.mp hb]; exact fun e => hc.2 (e ▸ ha)⟩
    · intro x hx
      rcases List.mem_append.mp hx with hx | hx
      · exact h.sub hx
      · rw [List.mem_singleton.mp hx]; exact List.getElem_mem hi
    · rcases h.go with g | g
      · omega
      · by_cases e : i = j
        · subst e; simp
        · exact List.mem_append_left _ (g i (by omega) hh)
  · rw [if_neg hc]
    refine ⟨h.nd, h.sub, ?_⟩
    rcases h.go with g | g
    · exact .inl g
    · by_cases hl : found.length < least
      · refine .inr fun i hij hh => ?_
        by_cases e : i = j
        · subst e
          exact Classical.byContradiction fun z => hc ⟨hl, z⟩
        · exact g i (by omega) hh
      · exact .inl (by omega)
theorem SoI.done {ks found : List Str} {least st : Nat} (h : SoI ks found least st ks.length) (hk : ks.Nodup) (hl : least ≤ ks.length) : least ≤ found.length := by
  rcases h.go with g | g
  · exact g
  · by_cases h0 : 0 < ks.length
    · have hs : ks ⊆ found := fun x hx => by
        obtain ⟨m, hm, rfl⟩ := List.getElem_of_mem hx
        have e : ((m + (ks.length - st % ks.length)) % ks.length + st) % ks.length = m := by
          have h1 := Nat.mod_lt st h0
          rw [Nat.mod_add_mod, Nat.add_assoc, Nat.add_mod m, Nat.add_mod (ks.length - st % ks.length) st, Nat.mod_add_mod]
          have : (ks.length - st % ks.length + st % ks.length) = ks.length := by omega
          have e2 : ((ks.length - st % ks.length) % ks.length + st % ks.length) % ks.length = 0 := by
            rw [Nat.mod_add_mod, this, Nat.mod_self]
          rw [e2, Nat.add_zero, Nat.mod_eq_of_lt hm]
        have := g ((m + (ks.length - st % ks.length)) % ks.length) (Nat.mod_lt _ h0) (Nat.mod_lt _ h0)
        simp only [e] at this
        exact this
      have := nodup_le hk hs
      omega
    · omega
theorem sub_strs {ys : List D} : ∀ {ks : List Str}, ys.Sublist (ks.map .str) → ∃ zs : List Str, zs.Sublist ks ∧ ys = zs.map .str := by
  intro ks h
  generalize e : ks.map D.str = l at h
  induction h generalizing ks with
  | slnil => exact ⟨[], List.nil_sublist _, rfl⟩
  | cons a h ih =>
    cases ks with
    | nil => cases e
    | cons k ks =>
      rw [List.map_cons, List.cons.injEq] at e
      obtain ⟨zs, hz, rfl⟩ := ih e.2
      exact ⟨zs, hz.cons k, rfl⟩
  | cons_cons a h ih =>
    cases ks with
    | nil => cases e
    | cons k ks =>
      rw [List.map_cons, List.cons.injEq] at e
      obtain ⟨zs, hz, rfl⟩ := ih e.2
      exact ⟨k :: zs, hz.cons₂ k, by rw [List.map_cons, e.1]⟩
def SomeP (ks : List Str) (least : Nat) (v : D) : Prop := ∃ zs : List Str, v = rw_ zs ∧ (∀ x ∈ zs, x ∈ ks) ∧ ascD (zs.map .str) = true ∧ least ≤ zs.length ∧ zs.length ≤ ks.length
theorem sf_some (ns : List Int) (ks : List Str) (least : Nat) (h : Kds ks) (hl : least ≤ ks.length) : SF ns m__law_some [lw_ ks, .int least] (SomeP ks least) := by
  have h0 : 0 < ks.length := by have := h.lo; omega
  have hhi := h.hi
  have hlen : len3D [lw_ ks] = some (.int ks.length) := by simp [lw_]
  have hnd := asc_nodup h.asc
  unfold m__law_some
  rw [some_parts]
  refine SF.mk (SM.seq (SM.asg (SM.item (by simp) (SM.det [.int 2, .int 2, .int 3, .int 6] _ (fun s => rfl) ⟨by simp, by simp, fun v hv => ?_⟩))))
  obtain ⟨m, rfl, hm0, hm1⟩ : ∃ m : Int, v = .int m ∧ 0 < m ∧ m < 1000 := by
    simp only [List.mem_cons, List.not_mem_nil, or_false] at hv
    rcases hv with rfl | rfl | rfl | rfl
    · exact ⟨2, rfl, by decide, by decide⟩
    · exact ⟨2, rfl, by decide, by decide⟩
    · exact ⟨3, rfl, by decide, by decide⟩
    · exact ⟨6, rfl, by decide, by decide⟩
  refine SM.seq (SM.asgO (SM.filt (ds := ks.map .str) (by simp) (by decide) (fun s => by simp [lw_]) (by simp; omega) (fun _ => True) (fun d hd => ?_) fun ys hs _ => ?_))
  · refine SM.tst (SM.app2 (SM.digit (by simp) m hm0 (by omega) (SM.v (d := .int m) rfl ⟨rfl, by simp, fun i _ _ => SM.c ⟨_, eq_ints i 0, _, rfl, ?_, fun _ => trivial⟩⟩)))
    rfl
  obtain ⟨zs, hz, rfl⟩ := sub_strs hs
  have hmax : max2D [.int 1, .int (ks.length : Int)] = some (.int (ks.length : Int)) := by
    have := h.lo
    simp only [max2D]
    rw [if_pos (by omega)]
  refine SM.seq (SM.asg (SM.digit (by simp) (ks.length : Int) (by omega) (by omega) (SM.app2 (SM.c (SM.app1 (SM.v (d := lw_ ks) rfl ⟨_, hlen, _, hmax, rfl, by simp, fun i hi0 hi1 => ?_⟩))))))
  obtain ⟨st, rfl⟩ : ∃ st : Nat, i = (st : Int) := ⟨i.toNat, by omega⟩
  refine SM.seq (SM.sFor (SM.det (rangeL 0 ks.length) (soE ks least (some (.int m)) zs st none none) (fun s => range1_eq ks.length (by simp [soE, hlen]) (by omega)) ?_))
  refine SM.forL (by decide) (fun rem r => ∃ j found o6 o7, rem = (rangeL 0 ks.length).drop j ∧ j ≤ ks.length ∧ r = soE ks least (some (.int m)) found st o6 o7 ∧ SoI ks found least st j) ?_ ?_ _ _ ⟨0, zs, none, none, rfl, by omega, rfl, hnd.sublist hz, hz.subset, .inr fun i hi => by omega⟩
  · rintro d ds _ ⟨j, found, o6, o7, hrem, hj, rfl, hI⟩
    have hfl := nodup_le hI.nd hI.sub
    have hlt : j < ks.length := by
      by_cases z : j < ks.length
      · exact z
      · have : (rangeL 0 ks.length).drop j = [] := List.drop_eq_nil_of_le (by rw [rangeL_len]; omega)
        rw [this] at hrem
        cases hrem
    have hdj : (rangeL 0 ks.length).drop j = .int (j : Int) :: (rangeL 0 ks.length).drop (j + 1) := by
      have hl2 : j < (rangeL 0 ks.length).length := by rw [rangeL_len]; exact hlt
      rw [List.drop_eq_getElem_cons hl2]
      congr 1
      simp [rangeL]
    rw [hdj, List.cons.injEq] at hrem
    obtain ⟨rfl, rfl⟩ := hrem
    refine SM.det .nx (soE ks least (some (.int m)) (soN ks found least (ks[(j + st) % ks.length]'(Nat.mod_lt _ h0))) st (some (.int j)) (some (.str (ks[(j + st) % ks.length]'(Nat.mod_lt _ h0))))) (fun s => smK_eq ks least (some (.int m)) found st j o7 (by omega) h0 s) ?_
    exact ⟨j + 1, _, _, _, rfl, by omega, rfl, hI.next h0⟩
  · rintro _ ⟨j, found, o6, o7, hrem, hj, rfl, hI⟩
    have hj' : j = ks.length := by
      by_cases z : j < ks.length
      · have hl2 : j < (rangeL 0 ks.length).length := by rw [rangeL_len]; exact z
        rw [List.drop_eq_getElem_cons hl2] at hrem
        cases hrem
      · omega
    subst hj'
    have hfl := nodup_le hI.nd hI.sub
    have hge := hI.done hnd hl
    have hk : ∀ x ∈ found, kS x = true := fun x hx => h.kS x (hI.sub hx)
    obtain ⟨_, r2, r3⟩ := sort_row found hk hI.nd
    refine SM.ret (SM.det (rw_ (found.mergeSort leS)) (soE ks least (some (.int m)) found st o6 o7) (fun s => ?_) ⟨by simp [soE], _, rfl, _, rfl, fun x hx => hI.sub (List.mem_mergeSort.mp hx), r2, by rw [List.length_mergeSort]; exact hge, by rw [List.length_mergeSort]; exact hfl⟩)
    simp [soE, sort_strs found (by omega), rw_]
end Gm
end
section
namespace Gm
open PySem DL Gx
/-! data of whole numbers, texts and tuples, to a depth -/
mutual
def pln : Nat → D → Bool
  | _, .int _ => true
  | _, .str x => decide (x.length ≤ 1000) && PyData.strOk x
  | n + 1, .tup xs => decide (xs.length ≤ 1000) && plnL n xs
  | _, _ => false
def plnL : Nat → List D → Bool
  | _, [] => true
  | n, x :: xs => pln n x && plnL n xs
end
theorem plnL_mem {n : Nat} : ∀ {xs : List D}, plnL n xs = true → ∀ x ∈ xs, pln n x = true
  | [], _, x, h => by cases h
  | y :: ys, h, x, hx => by
    simp only [plnL, Bool.and_eq_true] at h
    rcases List.mem_cons.mp hx with rfl | hx
    · exact h.1
    · exact plnL_mem h.2 x hx
theorem plnL_of {n : Nat} : ∀ {xs : List D}, (∀ x ∈ xs, pln n x = true) → plnL n xs = true
  | [], _ => rfl
  | x :: xs, h => by
    simp only [plnL, Bool.and_eq_true]
    exact ⟨h x (List.mem_cons_self ..), plnL_of fun y hy => h y (List.mem_cons_of_mem _ hy)⟩
theorem pln_cases {n : Nat} {d : D} (h : pln n d = true) : (∃ i, d = .int i) ∨ (∃ x, d = .str x ∧ (x.length ≤ 1000 ∧ PyData.strOk x = true)) ∨ ∃ m xs, n = m + 1 ∧ d = .tup xs ∧ xs.length ≤ 1000 ∧ plnL m xs = true := by
  cases d with
  | int i => exact .inl ⟨i, rfl⟩
  | str x => exact .inr (.inl ⟨x, rfl, by cases n <;> simpa [pln] using h⟩)
  | tup xs =>
    cases n with
    | zero => simp [pln] at h
    | succ m =>
      simp only [pln, Bool.and_eq_true, decide_eq_true_eq] at h
      exact .inr (.inr ⟨m, xs, rfl, rfl, h.1, h.2⟩)
  | _ => cases n <;> simp [pln] at h
mutual
theorem pln_bnd : ∀ (n : Nat) (d : D), pln n d = true → bnd d = true
  | n, d, h => by
    rcases pln_cases h with ⟨i, rfl⟩ | ⟨x, rfl, hx⟩ | ⟨m, xs, rfl, rfl, hl, hx⟩
    · rfl
    · exact decide_eq_true hx.1
    · exact bnd_tup.mpr ⟨hl, fun y hy => pln_bnd m y (plnL_mem hx y hy)⟩
end
theorem eqv_all {n : Nat} (ih : ∀ a b : D, pln n a = true → pln n b = true → (eqB a b = true ↔ a = b)) : ∀ xs ys : List D, plnL n xs = true → plnL n ys = true → (PyData.eqvAll (D.toPyL xs) (D.toPyL ys) = true ↔ xs = ys)
  | [], [], _, _ => by simp [D.toPyL, PyData.eqvAll]
  | [], y :: ys, _, _ => by simp [D.toPyL, PyData.eqvAll]
  | x :: xs, [], _, _ => by simp [D.toPyL, PyData.eqvAll]
  | x :: xs, y :: ys, h1, h2 => by
    simp only [plnL, Bool.and_eq_true] at h1 h2
    have i1 := ih x y h1.1 h2.1
    have i2 := eqv_all ih xs ys h1.2 h2.2
    unfold eqB at i1
    simp only [D.toPyL, PyData.eqvAll, Bool.and_eq_true, i1, i2, List.cons.injEq]
theorem eqB_pln : ∀ (n : Nat) (a b : D), pln n a = true → pln n b = true → (eqB a b = true ↔ a = b)
  | n, a, b, ha, hb => by
    rcases pln_cases ha with ⟨i, rfl⟩ | ⟨x, rfl, hx⟩ | ⟨m, xs, rfl, rfl, hl, hx⟩
    · rcases pln_cases hb with ⟨j, rfl⟩ | ⟨y, rfl, hy⟩ | ⟨m, ys, rfl, rfl, hl2, hy⟩
      · rw [eqB_ii]; simp
      · simp [eqB, D.toPy, PyData.eqv]
      · simp [eqB, D.toPy, PyData.eqv]
    · rcases pln_cases hb with ⟨j, rfl⟩ | ⟨y, rfl, hy⟩ | ⟨m, ys, rfl, rfl, hl2, hy⟩
      · simp [eqB, D.toPy, PyData.eqv]
      · rw [eqB_ss]; simp
      · simp [eqB, D.toPy, PyData.eqv]
    · rcases pln_cases hb with ⟨j, rfl⟩ | ⟨y, rfl, hy⟩ | ⟨m2, ys, e, rfl, hl2, hy⟩
      · simp [eqB, D.toPy, PyData.eqv]
      · simp [eqB, D.toPy, PyData.eqv]
      · obtain rfl : m2 = m := by omega
        have := eqv_all (eqB_pln m2) xs ys hx hy
        simp only [eqB, D.toPy, PyData.eqv, this, D.tup.injEq]
theorem nks_pln {n : Nat} (ih : ∀ a : D, pln n a = true → ∃ k, nk a = some k ∧ k.depth ≤ n) : ∀ xs : List D, plnL n xs = true → ∃ ks, nks xs = some ks ∧ NestedKey.depthAll ks ≤ n
  | [], _ => ⟨[], rfl, by simp [NestedKey.depthAll]⟩
  | x :: xs, h => by
    simp only [plnL, Bool.and_eq_true] at h
    obtain ⟨k, e, hk⟩ := ih x h.1
    obtain ⟨ks, e2, hks⟩ := nks_pln ih xs h.2
    exact ⟨k :: ks, by simp only [nks, e, e2], by simp only [NestedKey.depthAll]; omega⟩
theorem nk_pln : ∀ (n : Nat) (a : D), pln n a = true → ∃ k, nk a = some k ∧ k.depth ≤ n
  | n, a, h => by
    rcases pln_cases h with ⟨i, rfl⟩ | ⟨x, rfl, hx⟩ | ⟨m, xs, rfl, rfl, hl, hx⟩
    · exact ⟨_, rfl, by simp [NestedKey.depth]⟩
    · exact ⟨_, rfl, by simp [NestedKey.depth]⟩
    · obtain ⟨ks, e, hks⟩ := nks_pln (nk_pln m) xs hx
      exact ⟨.tup ks, by simp only [nk, e, Option.map_some], by simp only [NestedKey.depth]; omega⟩
theorem nks_inj {n : Nat} (ih : ∀ a b : D, pln n a = true → pln n b = true → nk a = nk b → a = b) : ∀ xs ys : List D, plnL n xs = true → plnL n ys = true → nks xs = nks ys → xs = ys
  | [], [], _, _, _ => rfl
  | [], y :: ys, _, h2, h => by
    simp only [plnL, Bool.and_eq_true] at h2
    obtain ⟨k, e, _⟩ := nk_pln n y h2.1
    obtain ⟨ks, e2, _⟩ := nks_pln (nk_pln n) ys h2.2
    simp [nks, e, e2] at h
  | x :: xs, [], h1, _, h => by
    simp only [plnL, Bool.and_eq_true] at h1
    obtain ⟨k, e, _⟩ := nk_pln n x h1.1
    obtain ⟨ks, e2, _⟩ := nks_pln (nk_pln n) xs h1.2
    simp [nks, e, e2] at h
  | x :: xs, y :: ys, h1, h2, h => by
    simp only [plnL, Bool.and_eq_true] at h1 h2
    obtain ⟨k, e, _⟩ := nk_pln n x h1.1
    obtain ⟨ks, e2, _⟩ := nks_pln (nk_pln n) xs h1.2
    obtain ⟨k3, e3, _⟩ := nk_pln n y h2.1
    obtain ⟨ks4, e4, _⟩ := nks_pln (nk_pln n) ys h2.2
    simp only [nks, e, e2, e3, e4, Option.some.injEq, List.cons.injEq] at h
    rw [ih x y h1.1 h2.1 (by rw [e, e3, h.1]), nks_inj ih xs ys h1.2 h2.2 (by rw [e2, e4, h.2])]
theorem nk_inj : ∀ (n : Nat) (a b : D), pln n a = true → pln n b = true → nk a = nk b → a = b
  | n, a, b, ha, hb, h => by
    rcases pln_cases ha with ⟨i, rfl⟩ | ⟨x, rfl, hx⟩ | ⟨m, xs, rfl, rfl, hl, hx⟩
    · rcases pln_cases hb with ⟨j, rfl⟩ | ⟨y, rfl, hy⟩ | ⟨m, ys, rfl, rfl, hl2, hy⟩
      · simp only [nk, Option.some.injEq, NestedKey.num.injEq] at h; rw [h]
      · simp [nk] at h
      · obtain ⟨ks, e, _⟩ := nks_pln (nk_pln m) ys hy
        simp [nk, e] at h
    · rcases pln_cases hb with ⟨j, rfl⟩ | ⟨y, rfl, hy⟩ | ⟨m, ys, rfl, rfl, hl2, hy⟩
      · simp [nk] at h
      · simp only [nk, Option.some.injEq, NestedKey.text.injEq] at h; rw [h]
      · obtain ⟨ks, e, _⟩ := nks_pln (nk_pln m) ys hy
        simp [nk, e] at h
    · rcases pln_cases hb with ⟨j, rfl⟩ | ⟨y, rfl, hy⟩ | ⟨m2, ys, e, rfl, hl2, hy⟩
      · obtain ⟨ks, e, _⟩ := nks_pln (nk_pln m) xs hx
        simp [nk, e] at h
      · obtain ⟨ks, e, _⟩ := nks_pln (nk_pln m) xs hx
        simp [nk, e] at h
      · obtain rfl : m2 = m := by omega
        obtain ⟨ks, e1, _⟩ := nks_pln (nk_pln m2) xs hx
        obtain ⟨ks2, e2, _⟩ := nks_pln (nk_pln m2) ys hy
        simp only [nk, e1, e2, Option.map_some, Option.some.injEq, NestedKey.tup.injEq] at h
        rw [nks_inj (nk_inj m2) xs ys hx hy (by rw [e1, e2, h])]
theorem keyEq_pln {n : Nat} {a b : D} (ha : pln n a = true) (hb : pln n b = true) : keyEq a b = true ↔ a = b := by
  obtain ⟨k, e, _⟩ := nk_pln n a ha
  obtain ⟨k2, e2, _⟩ := nk_pln n b hb
  simp only [keyEq, e, e2, decide_eq_true_eq]
  exact ⟨fun h => nk_inj n a b ha hb (by rw [e, e2, h]), fun h => by subst h; rw [e] at e2; exact Option.some.inj e2⟩
theorem layAll {n : Nat} (ih : ∀ d : D, pln n d = true → PyData.canLay0 d.toPy = true ∧ d.toPy.depth ≤ n) : ∀ xs : List D, plnL n xs = true → PyData.canLayAll0 (D.toPyL xs) = true ∧ PyData.depthAll (D.toPyL xs) ≤ n
  | [], _ => ⟨rfl, by simp [D.toPyL, PyData.depthAll]⟩
  | x :: xs, h => by
    simp only [plnL, Bool.and_eq_true] at h
    obtain ⟨h1, h2⟩ := ih x h.1
    obtain ⟨h3, h4⟩ := layAll ih xs h.2
    exact ⟨by simp only [D.toPyL, PyData.canLayAll0, h1, h3, Bool.and_self], by simp only [D.toPyL, PyData.depthAll]; omega⟩
theorem pln_lay : ∀ (n : Nat) (d : D), pln n d = true → PyData.canLay0 d.toPy = true ∧ d.toPy.depth ≤ n
  | n, d, h => by
    rcases pln_cases h with ⟨i, rfl⟩ | ⟨x, rfl, hx⟩ | ⟨m, xs, rfl, rfl, hl, hx⟩
    · simp [D.toPy, PyData.canLay0, PyData.depth]
    · simp [D.toPy, PyData.canLay0, PyData.depth, hx.2]
    · obtain ⟨h1, h2⟩ := layAll (pln_lay m) xs hx
      exact ⟨by simp only [D.toPy, PyData.canLay0, h1], by simp only [D.toPy, PyData.depth]; omega⟩
theorem kS_ok {x : Str} (h : kS x = true) : PyData.strOk x = true := by
  simp only [kS, Bool.and_eq_true] at h
  have h := h.2
  rw [PyData.strOk, ← Array.all_toList, List.all_eq_true]
  rw [List.all_eq_true] at h
  intro c hc
  have := h c hc
  simp only [alnum, low, Bool.or_eq_true, Bool.and_eq_true, decide_eq_true_eq] at this ⊢
  omega
theorem kS_pln {x : Str} (n : Nat) (h : kS x = true) : pln n (.str x) = true := by
  have h1 := (kS_len h).2
  cases n <;> simp only [pln, Bool.and_eq_true, decide_eq_true_eq] <;> exact ⟨by omega, kS_ok h⟩
theorem pln_py {n : Nat} {d : D} (h : pln n d = true) : d.isPy = true := bnd_py (pln_bnd n d h)
theorem shaped_pln {n : Nat} {d : D} (hn : n ≤ 63) (h : pln n d = true) : SeqAt.shaped d.toPy = true := by
  obtain ⟨h1, h2⟩ := pln_lay n d h
  simp only [SeqAt.shaped, h1, Bool.true_and, decide_eq_true_eq]
  omega
/-- one of a list -/
theorem notIn_lst {n : Nat} (hn : n ≤ 62) {x : D} {ys : List D} (hx : pln n x = true) (hy : ∀ y ∈ ys, pln n y = true) : ∃ b, notIn3D [x, .lst ys] = some (.bl b) ∧ (b = false ↔ x ∈ ys) := by
  have h1 := plnL_of hy
  obtain ⟨h2, h3⟩ := layAll (pln_lay n) ys h1
  have hs : SeqAt.shaped (.list (D.toPyL ys)) = true := by
    have h4 : PyData.depth (.list (D.toPyL ys)) = PyData.depthAll (D.toPyL ys) + 1 := by simp only [PyData.depth]
    simp only [SeqAt.shaped, PyData.canLay0, h2, Bool.true_and, decide_eq_true_eq]
    omega
  have hpy : ∀ {ys : List D}, (∀ y ∈ ys, pln n y = true) → D.isPyL ys = true := fun {ys} h => by
    induction ys with
    | nil => rfl
    | cons y ys ih => simp only [D.isPyL, pln_py (h y (List.mem_cons_self ..)), ih fun z hz => h z (List.mem_cons_of_mem _ hz), Bool.and_self]
  have hc : ((x.flat && ys.all D.flat) || (x.isPy && D.isPyL ys && SeqAt.shaped x.toPy && SeqAt.shaped (.list (D.toPyL ys)))) = true := by
    rw [pln_py hx, hpy hy, shaped_pln (by omega) hx, hs]
    simp
  have e : in3D [x, .lst ys] = some (.bl (ys.any fun y => eqB y x)) := by
    show inD [x, .lst ys] = _
    have : inD [x, .lst ys] = if ((x.flat && ys.all D.flat) || (x.isPy && D.isPyL ys && SeqAt.shaped x.toPy && SeqAt.shaped (.list (D.toPyL ys)))) then some (.bl (ys.any fun y => eqB y x)) else none := by
      cases x <;> rfl
    rw [this, if_pos hc]
  refine ⟨!(ys.any fun y => eqB y x), ?_, ?_⟩
  · show notD1 (in3D [x, .lst ys]) = _
    rw [e]
    rfl
  · rw [Bool.not_eq_false', List.any_eq_true]
    exact ⟨fun ⟨y, hy1, e⟩ => by rw [← (eqB_pln n y x (hy y hy1) hx).mp e]; exact hy1, fun h => ⟨x, h, (eqB_pln n x x hx hx).mpr rfl⟩⟩
/-! dicts whose keys are tuples -/
def isT : D → Bool
  | .tup _ => true
  | _ => false
def kvT (ks : List D) : List (D × D) := ks.map fun k => (k, .bl true)
theorem okKey_pln {n : Nat} (hn : n ≤ 8) {ks : List D} {k : D} (hk : pln n k = true) (ht : isT k = true) (hks : ∀ x ∈ ks, isT x = true) : okKey (kvT ks) k = true := by
  obtain ⟨kk, e, hd⟩ := nk_pln n k hk
  have h1 : k.isTup = true := by cases k <;> first | rfl | cases ht
  have h2 : dkey k = some kk := by simp only [dkey, e]; rw [if_pos (by omega)]
  have h3 : (match kvT ks with | [] => true | kv :: _ => kv.1.isTup == k.isTup) = true := by
    cases ks with
    | nil => rfl
    | cons y ys =>
      have hy := hks y (List.mem_cons_self ..)
      have : y.isTup = true := by cases y <;> first | rfl | cases hy
      show (y.isTup == k.isTup) = true
      rw [this, h1]; rfl
  unfold okKey
  rw [Bool.and_eq_true]
  exact ⟨by rw [if_pos h1, h2]; rfl, h3⟩
theorem dget_kvT {n : Nat} {k : D} (hk : pln n k = true) : ∀ {ks : List D}, (∀ x ∈ ks, pln n x = true) → ((dget (kvT ks) k).isSome = true ↔ k ∈ ks)
  | [], _ => by simp [dget, kvT]
  | y :: ys, h => by
    have hy := keyEq_pln (h y (List.mem_cons_self ..)) hk
    have ih := dget_kvT hk (ks := ys) fun x hx => h x (List.mem_cons_of_mem _ hx)
    simp only [dget, kvT, List.map_cons, List.find?_cons] at ih ⊢
    cases e : keyEq y k with
    | true => simp [hy.mp e]
    | false =>
      have hne : ¬ k = y := fun z => by rw [hy.mpr z.symm] at e; cases e
      simp only [List.mem_cons, hne, false_or]
      exact ih
theorem dput_kvT {n : Nat} {k : D} {ks : List D} (hk : pln n k = true) (h : ∀ x ∈ ks, pln n x = true) : (k ∈ ks → dput (kvT ks) k (.bl true) = kvT ks) ∧ (k ∉ ks → dput (kvT ks) k (.bl true) = kvT (ks ++ [k])) := by
  have hg := dget_kvT hk h
  refine ⟨fun hm => ?_, fun hm => ?_⟩
  · simp only [dput, hg.mpr hm, if_true]
    simp only [kvT, List.map_map]
    refine List.map_congr_left fun x _ => ?_
    simp only [Function.comp]
    split <;> rfl
  · have : (dget (kvT ks) k).isSome = false := by
      cases e : (dget (kvT ks) k).isSome with
      | false => rfl
      | true => exact absurd (hg.mp e) hm
    simp only [dput, this]
    simp [kvT]
theorem notIn_dct {n : Nat} (hn : n ≤ 8) {k : D} {ks : List D} (hk : pln n k = true) (ht : isT k = true) (h : ∀ x ∈ ks, pln n x = true ∧ isT x = true) : ∃ b, notIn3D [k, .dct (kvT ks)] = some (.bl b) ∧ (b = false ↔ k ∈ ks) := by
  have ho := okKey_pln hn hk ht fun x hx => (h x hx).2
  have hg := dget_kvT hk fun x hx => (h x hx).1
  refine ⟨!(dget (kvT ks) k).isSome, ?_, by rw [Bool.not_eq_false']; exact hg⟩
  show notD1 (in2D [k, .dct (kvT ks)]) = _
  simp only [in2D, ho, if_true]
  rfl
end Gm
end
section
namespace Gm
open PySem DL Gx
noncomputable section
instance decD : DecidableEq D := fun _ _ => Classical.propDecidable _
/-! first occurrences -/
section
variable {α : Type} [DecidableEq α]
def newOf : List α → List α → List α
  | _, [] => []
  | seen, x :: xs => if x ∈ seen then newOf seen xs else x :: newOf (seen ++ [x]) xs
theorem addAll_new : ∀ (xs seen : List α), addAll seen xs = seen ++ newOf seen xs
  | [], seen => by simp [addAll, newOf]
  | x :: xs, seen => by
    simp only [addAll, newOf, addOne]
    split
    · exact addAll_new xs seen
    · rw [addAll_new xs, List.append_assoc]; rfl
theorem addAll_in : ∀ (xs acc : List α), (∀ x ∈ xs, x ∈ acc) → addAll acc xs = acc
  | [], acc, _ => rfl
  | x :: xs, acc, h => by
    simp only [addAll, addOne, h x (List.mem_cons_self ..), if_true]
    exact addAll_in xs acc fun y hy => h y (List.mem_cons_of_mem _ hy)
theorem addAll_self : ∀ (xs acc : List α), (acc ++ xs).Nodup → addAll acc xs = acc ++ xs
  | [], acc, _ => by simp [addAll]
  | x :: xs, acc, h => by
    have hx : x ∉ acc := fun hm => (List.nodup_append.mp h).2.2 x hm x (List.mem_cons_self ..) rfl
    simp only [addAll, addOne, hx, if_false]
    rw [addAll_self xs (acc ++ [x]) (by simpa using h)]
    simp
theorem addAll_lt : ∀ (xs acc : List α), acc.Nodup → ¬ (acc ++ xs).Nodup → (addAll acc xs).length < acc.length + xs.length
  | [], acc, h, h2 => absurd (by simpa using h) h2
  | x :: xs, acc, h, h2 => by
    simp only [addAll, List.length_cons]
    by_cases hx : x ∈ acc
    · have e : addOne acc x = acc := by simp [addOne, hx]
      rw [e]
      have := addAll_len xs acc
      omega
    · have e : addOne acc x = acc ++ [x] := by simp [addOne, hx]
      have := addAll_lt xs (acc ++ [x]) (by rw [← e]; exact addOne_nodup h x) (by simpa using h2)
      rw [e]
      simp only [List.length_append, List.length_cons, List.length_nil] at this
      omega
theorem nodup_iff_len (xs : List α) : (addAll [] xs).length = xs.length ↔ xs.Nodup := by
  constructor
  · intro h
    refine Classical.byContradiction fun hn => ?_
    have := addAll_lt xs [] List.nodup_nil (by simpa using hn)
    simp only [List.length_nil, Nat.zero_add] at this
    omega
  · intro h
    rw [addAll_self xs [] (by simpa using h)]
    rfl
theorem flat_new {β : Type} [DecidableEq β] (g : α → List β) : ∀ (xs seen : List α) (acc : List β), (∀ x ∈ seen, ∀ y ∈ g x, y ∈ acc) → addAll acc ((newOf seen xs).flatMap g) = addAll acc (xs.flatMap g)
  | [], seen, acc, _ => rfl
  | x :: xs, seen, acc, h => by
    simp only [newOf, List.flatMap_cons]
    split
    · rename_i hx
      rw [addAll_app, addAll_in (g x) acc (h x hx)]
      exact flat_new g xs seen acc h
    · rw [List.flatMap_cons, addAll_app, addAll_app]
      refine flat_new g xs (seen ++ [x]) (addAll acc (g x)) fun z hz y hy => ?_
      rw [addAll_mem]
      rcases List.mem_append.mp hz with hz | hz
      · exact .inl (h z hz y hy)
      · rw [List.mem_singleton.mp hz] at hy
        exact .inr hy
theorem flat_dd {β : Type} [DecidableEq β] (g : α → List β) (xs : List α) : addAll [] ((addAll [] xs).flatMap g) = addAll [] (xs.flatMap g) := by
  rw [addAll_new xs []]
  exact flat_new g xs [] [] fun x h => by cases h
end
/-! without_doubles -/
theorem wdI (v : D) (ks : List D) (d : D) (hd : pln 8 d = true) (ht : isT d = true) (h : ∀ x ∈ ks, pln 8 x = true ∧ isT x = true) (hl : ks.length ≤ 1000000) :
    (sPutI 1 (eV 2) (eC (.bl true))) [some v, some (.dct (kvT ks)), some d] = .ok .nx [some v, some (.dct (kvT (addOne ks d))), some d] := by
  have ho := okKey_pln (Nat.le_refl 8) hd ht fun x hx => (h x hx).2
  have hk : lenOk ((kvT ks).length + 1) = true := decide_eq_true (by simp only [kvT, List.length_map]; omega)
  have hp := dput_kvT hd fun x hx => (h x hx).1
  have e : dput (kvT ks) d (.bl true) = kvT (addOne ks d) := by
    unfold addOne
    by_cases hm : d ∈ ks
    · rw [if_pos hm]; exact hp.1 hm
    · rw [if_neg hm]; exact hp.2 hm
  simp [sPutI, ho, hk, e]
theorem wdL (v : D) : ∀ (es ks : List D) (o : Option D), (∀ x ∈ es, pln 8 x = true ∧ isT x = true) → (∀ x ∈ ks, pln 8 x = true ∧ isT x = true) → ks.length + es.length ≤ 1000000 →
    ∃ o', DL.forL (gV 2) (sPutI 1 (eV 2) (eC (.bl true))) es [some v, some (.dct (kvT ks)), o] = .ok .nx [some v, some (.dct (kvT (addAll ks es))), o']
  | [], ks, o, _, _, _ => ⟨o, rfl⟩
  | d :: es, ks, o, h1, h2, hl => by
    have hd := h1 d (List.mem_cons_self ..)
    simp only [List.length_cons] at hl
    have h3 := addOne_len ks d
    obtain ⟨o', e⟩ := wdL v es (addOne ks d) (some d) (fun x hx => h1 x (List.mem_cons_of_mem _ hx)) (fun x hx => ((addOne_mem ks d x).mp hx).elim (h2 x) fun z => z ▸ hd) (by omega)
    refine ⟨o', ?_⟩
    rw [forL_cons _ _ _ _ _ _ _ (show gV 2 d [some v, some (.dct (kvT ks)), o] = some [some v, some (.dct (kvT ks)), some d] from rfl) (wdI v ks d hd.1 hd.2 h2 (by omega)), e]
    rfl
theorem doubles_eq (v : D) (es : List D) (hv : iSeq2 (eV 0) [some v, some (.dct []), none] = .ok es [some v, some (.dct []), none]) (h : ∀ x ∈ es, pln 8 x = true ∧ isT x = true) (hl : es.length ≤ 1000000) : m_without_doubles [v] = .ok (.lst (addAll [] es)) [] := by
  obtain ⟨o', e⟩ := wdL v es [] none h (fun x hx => by cases hx) (by simpa using hl)
  have hd : list2D [.dct (kvT (addAll [] es))] = some (.lst (addAll [] es)) := by
    simp [list2D, kvT, List.map_map, Function.comp_def]
  simp only [m_without_doubles, g_without_doubles, fn_nw0]
  have h0 : (sAsgO 1 eDct0) (List.map some [v] ++ List.replicate (3 - [v].length) none) = .ok .nx [some v, some (.dct []), none] := by
    simp [eDct0]
  rw [ev_seq, h0, Res.bind_ok, ev_seq, ev_rf, hv, Res.bind_ok]
  have e : DL.forL (gV 2) (sPutI 1 (eV 2) (eC (.bl true))) es [some v, some (.dct []), none] = .ok .nx [some v, some (.dct (kvT (addAll [] es))), o'] := e
  rw [e, Res.bind_ok]
  simp [hd]
/-! the ages of some statements -/
def tmA : D → List Int
  | .tup [_, .int n] => if 0 < n then [n] else []
  | _ => []
def dA : D → List Int
  | .tup [.str w, a, b] => if plainW w = true then tmA a ++ tmA b else []
  | _ => []
theorem tmA_eq (t : Tm) : tmA t.d = t.ages := by cases t <;> rfl
theorem dA_eq (s : Sta) (h : s.ok) : dA s.d = s.ages := by
  cases s with
  | grp xs => rfl
  | mark xs ys => rfl
  | pl w s t =>
    have : plainW w = true := by simp only [Sta.ok] at h; rcases h with rfl | rfl <;> decide
    simp only [dA, Sta.d, this, if_true, tmA_eq, Sta.ages]
def srtI (xs : List Int) : List Int := xs.mergeSort fun a b => decide (a ≤ b)
theorem amI (v : D) (d : D) (acc : List Int) (h : ∃ s : Sta, d = s.d ∧ s.ok) (hl : acc.length + (dA d).length ≤ 4000) :
    clB (iSeq2 (eCall m_ages_within [] [.v (eV 1)] [])) [2] (gV 2) tTrue (emS (eV 2)) (.set (acc.map .int)) [some v, some d, none] = .ok (.set ((addAll acc (dA d)).map .int)) [some v, some d, none] := by
  obtain ⟨s, rfl, hs⟩ := h
  rw [dA_eq s hs] at hl ⊢
  have hw := aw_eq s hs
  have hal := s.ages_len
  have hok : lenOk (s.ages.map D.int).length = true := decide_eq_true (by rw [List.length_map]; omega)
  have hi : (iSeq2 (eCall m_ages_within [] [.v (eV 1)] [])) [some v, some s.d, none] = .ok (s.ages.map .int) [some v, some s.d, none] := by simp [evalA, fillA, hw]
  unfold clB
  rw [hi]
  simp only [Res.noX_ok, Res.bind_ok, hok, if_true]
  exact lpSi kcI [some v, some s.d, none] 2 (by simp) s.ages acc hl
theorem amL (v : D) : ∀ (sts : List D) (acc : List Int), (∀ d ∈ sts, ∃ s : Sta, d = s.d ∧ s.ok) → acc.length + (sts.flatMap dA).length ≤ 4000 →
    lpL [1, 2] (gV 1) tTrue (clB (iSeq2 (eCall m_ages_within [] [.v (eV 1)] [])) [2] (gV 2) tTrue (emS (eV 2))) sts (.set (acc.map .int)) [some v, none, none] = .ok (.set ((addAll acc (sts.flatMap dA)).map .int)) [some v, none, none]
  | [], acc, _, _ => rfl
  | d :: sts, acc, h, hl => by
    rw [List.flatMap_cons, List.length_append] at hl
    have h1 := amI v d acc (h d (List.mem_cons_self ..)) (by omega)
    have h2 := addAll_len (dA d) acc
    have ih := amL v sts (addAll acc (dA d)) (fun x hx => h x (List.mem_cons_of_mem _ hx)) (by omega)
    rw [List.flatMap_cons, addAll_app, ← ih]
    show ((clB _ [2] (gV 2) tTrue (emS (eV 2)) (.set (acc.map .int)) [some v, some d, none]).bind _) = _
    rw [h1]
    rfl
theorem among_eq (v : D) (sts : List D) (hv : iSeq2 (eV 0) [some v, none, none] = .ok sts [some v, none, none]) (h : ∀ d ∈ sts, ∃ s : Sta, d = s.d ∧ s.ok) (hl : (sts.flatMap dA).length ≤ 4000) (hn : (addAll [] (sts.flatMap dA)).length < 64) (hs : sts.length ≤ 1000000) :
    m_ages_among [v] = .ok (.lst ((srtI (addAll [] (sts.flatMap dA))).map .int)) [] := by
  have h4 := sort_setI (addAll [] (sts.flatMap dA)) hn
  have hok : lenOk sts.length = true := decide_eq_true (by omega)
  have hc : (eCp (iSeq2 (eV 0)) [1, 2] (gV 1) tTrue (clB (iSeq2 (eCall m_ages_within [] [.v (eV 1)] [])) [2] (gV 2) tTrue (emS (eV 2))) (.set [])) [some v, none, none] = .ok (.set ((addAll [] (sts.flatMap dA)).map .int)) [some v, none, none] := by
    unfold eCp
    rw [M.bind_app, hv, Res.bind_ok, if_pos hok]
    show (lpL [1, 2] _ _ _ sts (.set (([] : List Int).map .int)) [some v, none, none]).noX.bind _ = _
    rw [amL v sts [] h (by simpa using hl)]
    rfl
  simp only [m_ages_among, g_ages_among, fn_nw0]
  show fnE ((sRet _) [some v, none, none]) = _
  rw [ev_ret, M.bind_app, hc]
  simp [h4, srtI]
end
end Gm
end
section
namespace Gm
open PySem DL Gx
noncomputable section
/-! entries -/
def EnV (kk : List Str) (d : D) : Prop := ∃ (i : Int) (s : Sta), d = .tup [.int i, s.d] ∧ 0 ≤ i ∧ i ≤ 5 ∧ stD s.d = true ∧ s.ok ∧ ∀ x ∈ s.names, x ∈ kk
theorem inR_int {d : D} {a b : Int} (h : inR d a b = true) : ∃ i, d = .int i ∧ a ≤ i ∧ i ≤ b := by
  cases d <;> simp only [inR, Bool.and_eq_true, decide_eq_true_eq] at h <;> first | (cases h; done) | exact ⟨_, rfl, h.1, h.2⟩
theorem allIn_iff (xs ks : List Str) : allIn xs ks = true ↔ ∀ x ∈ xs, x ∈ ks := by
  simp only [allIn, List.all_eq_true, decide_eq_true_eq]
theorem entry_two (kk : List Str) (a v : D) (ha : bnd a = true) (hv : bnd v = true) : ∃ b, m_is_entry [rw_ kk, .tup [a, v]] = .ok (.bl b) [] ∧ (b = true ↔ EnV kk (.tup [a, v])) := by
  have hp : D.isPy (.tup [a, v]) = true := by simp [D.isPy, D.isPyL, bnd_py hv, bnd_py ha]
  have h1 := is_tuple_of_eq (.tup [a, v]) 2 2 hp
  have h2 := is_source_eq a (bnd_py ha)
  have h3 := is_st_eq v hv
  cases hr : inR a 0 5 with
  | false =>
    refine ⟨false, ?_, ⟨fun z => (by cases z), fun ⟨i, s, e, k0, k1, _⟩ => ?_⟩⟩
    · simp [m_is_entry, g_is_entry, evalA, fillA, h1, h2, h3, hr]
    · cases e
      rw [show inR (.int i) 0 5 = (decide (0 ≤ i) && decide (i ≤ 5)) from rfl, decide_eq_true k0, decide_eq_true k1] at hr
      cases hr
  | true =>
    cases c : stD v with
    | false =>
      refine ⟨false, ?_, ⟨fun z => (by cases z), fun ⟨i, s, e, _, _, h, _⟩ => ?_⟩⟩
      · simp [m_is_entry, g_is_entry, evalA, fillA, h1, h2, h3, hr, c]
      · cases e
        rw [h] at c
        cases c
    | true =>
      obtain ⟨s, rfl, hs⟩ := sta_of c
      have hn := s.names_len hs
      have h4 := kw_eq s hs
      have h5 := within_eq s.names kk (by omega)
      obtain ⟨i, rfl, hi0, hi1⟩ := inR_int hr
      refine ⟨allIn s.names kk, ?_, fun h => ⟨i, s, rfl, hi0, hi1, c, hs, (allIn_iff _ _).mp h⟩, fun ⟨j, t, e, _, _, _, ht, h⟩ => ?_⟩
      · simp [m_is_entry, g_is_entry, evalA, fillA, h1, h2, h3, hr, c, h4, h5]
      · have e2 : s.d = t.d := by
          simp only [D.tup.injEq, List.cons.injEq, and_true] at e
          exact e.2
        have h6 := kw_eq t ht
        rw [← e2, h4] at h6
        simp only [FRes.ok.injEq, D.lst.injEq, and_true] at h6
        have h7 := strs_inj h6
        rw [h7]
        exact (allIn_iff _ _).mpr h
theorem entry_any (kk : List Str) (d : D) (hd : bnd d = true) : ∃ b, m_is_entry [rw_ kk, d] = .ok (.bl b) [] ∧ (b = true ↔ EnV kk d) := by
  have h1 := is_tuple_of_eq d 2 2 (bnd_py hd)
  have no : m_is_entry [rw_ kk, d] = .ok (.bl false) [] → (∀ a v, d ≠ .tup [a, v]) → ∃ b, m_is_entry [rw_ kk, d] = .ok (.bl b) [] ∧ (b = true ↔ EnV kk d) := fun h hn =>
    ⟨false, h, ⟨fun z => (by cases z), fun ⟨i, s, e, _⟩ => absurd e (hn _ _)⟩⟩
  cases d with
  | tup vs =>
    have hm := (bnd_tup.mp hd).2
    match vs, hm with
    | [], _ => exact no (by simp [m_is_entry, g_is_entry, evalA, fillA, h1]) (fun a v e => by cases e)
    | [a], _ => exact no (by simp [m_is_entry, g_is_entry, evalA, fillA, h1]) (fun a v e => by cases e)
    | [a, v], hm => exact entry_two kk a v (hm a (by simp)) (hm v (by simp))
    | a :: b :: c :: vs, _ =>
      have c1 : ¬ ((vs.length : Int) + 1 + 1 + 1 ≤ 2) := by omega
      exact no (by simp [m_is_entry, g_is_entry, evalA, fillA, h1, c1]) (fun a v e => by cases e)
  | _ => first | (cases hd; done) | exact no (by simp [m_is_entry, g_is_entry, evalA, fillA, h1]) (fun a v e => by cases e)
def eA : D → List Int
  | .tup [_, st] => dA st
  | _ => []
def eS : D → D
  | .tup [_, st] => st
  | d => d
theorem lcPair (v : D) (f : M (List D)) : ∀ es : List D, (∀ d ∈ es, ∃ a b, d = .tup [a, b]) → lcL [1, 2] (gTup 2 (gsC (gV 1) (gsC (gV 2) gsN))) tTrue (eV 2) es [some v, none, none] = .ok (es.map eS) [some v, none, none]
  | [], _ => rfl
  | d :: es, h => by
    obtain ⟨a, b, rfl⟩ := h d (List.mem_cons_self ..)
    have ih := lcPair v f es fun x hx => h x (List.mem_cons_of_mem _ hx)
    show (lcL [1, 2] (gTup 2 (gsC (gV 1) (gsC (gV 2) gsN))) tTrue (eV 2) es [some v, none, none]).bind _ = _
    rw [ih]
    rfl
theorem lcPairs (v : D) (f : M (List D)) (es : List D) (hf : f [some v, none, none] = .ok es [some v, none, none]) (h : ∀ d ∈ es, ∃ a b, d = .tup [a, b]) (hl : es.length ≤ 1000000) :
    eLc f [1, 2] (gTup 2 (gsC (gV 1) (gsC (gV 2) gsN))) tTrue (eV 2) [some v, none, none] = .ok (.lst (es.map eS)) [some v, none, none] := by
  have hok : lenOk es.length = true := decide_eq_true (by omega)
  unfold eLc
  rw [M.bind_app, hf, Res.bind_ok, if_pos hok]
  show ((lcL [1, 2] _ tTrue (eV 2) es [some v, none, none]).bind _) = _
  rw [lcPair v f es h]
  rfl
theorem EnV.two {kk : List Str} {d : D} (h : EnV kk d) : ∃ a b, d = .tup [a, b] := by
  obtain ⟨i, s, rfl, _⟩ := h
  exact ⟨_, _, rfl⟩
theorem EnV.st {kk : List Str} {d : D} (h : EnV kk d) : ∃ s : Sta, eS d = s.d ∧ s.ok ∧ eA d = dA (eS d) := by
  obtain ⟨i, s, rfl, _, _, _, hs, _⟩ := h
  exact ⟨s, rfl, hs, rfl⟩
theorem flat_eS {kk : List Str} : ∀ {es : List D}, (∀ d ∈ es, EnV kk d) → (es.map eS).flatMap dA = es.flatMap eA
  | [], _ => rfl
  | d :: es, h => by
    obtain ⟨s, _, _, e⟩ := (h d (List.mem_cons_self ..)).st
    rw [List.map_cons, List.flatMap_cons, List.flatMap_cons, e, flat_eS fun x hx => h x (List.mem_cons_of_mem _ hx)]
theorem dA_len {s : Sta} (h : s.ok) : (dA s.d).length ≤ 2 := by rw [dA_eq s h]; exact s.ages_len
theorem flat_len {kk : List Str} : ∀ {es : List D}, (∀ d ∈ es, EnV kk d) → (es.flatMap eA).length ≤ 2 * es.length
  | [], _ => by simp
  | d :: es, h => by
    obtain ⟨s, e1, hs, e⟩ := (h d (List.mem_cons_self ..)).st
    have := flat_len fun x hx => h x (List.mem_cons_of_mem d hx)
    have h2 := dA_len hs
    rw [List.flatMap_cons, e, e1, List.length_append, List.length_cons]
    omega
/-- the told ages -/
def tA (es : List D) : List Int := addAll [] (es.flatMap eA)
theorem limits_eq (kk : List Str) (es : List D) (h : ∀ d ∈ es, EnV kk d) (hl : es.length ≤ 1000) (hn : (tA es).length < 64) : m_are_within_limits [.tup es] = .ok (.bl (decide (es.length ≤ 150) && decide ((tA es).length ≤ 12))) [] := by
  have hf := flat_eS h
  have hfl := flat_len h
  have h3 := lcPairs (.tup es) (iSeq2 (eV 0)) es rfl (fun d hd => (h d hd).two) (by omega)
  have h1 := among_eq (.lst (es.map eS)) (es.map eS) rfl (fun d hd => by
    obtain ⟨x, hx, rfl⟩ := List.mem_map.mp hd
    obtain ⟨s, e, hs, _⟩ := (h x hx).st
    exact ⟨s, e, hs⟩) (by rw [hf]; omega) (by rw [hf]; exact hn) (by rw [List.length_map]; omega)
  rw [hf] at h1
  have h3 : (eNew (eLc (iSeq2 (eV 0)) [1, 2] (gTup 2 (gsC (gV 1) (gsC (gV 2) gsN))) tTrue (eV 2))) [some (.tup es), none, none] = .ok (.lst (es.map eS)) [some (.tup es), none, none] := by rw [ev_new, h3]; rfl
  have c1 : decide ((es.length : Int) ≤ 150) = decide (es.length ≤ 150) := by
    by_cases z : es.length ≤ 150
    · rw [decide_eq_true z, decide_eq_true (by omega)]
    · rw [decide_eq_false z, decide_eq_false (by omega)]
  have c2 : decide (((srtI (tA es)).length : Int) ≤ 12) = decide ((tA es).length ≤ 12) := by
    have : (srtI (tA es)).length = (tA es).length := List.length_mergeSort _
    rw [this]
    by_cases z : (tA es).length ≤ 12
    · rw [decide_eq_true z, decide_eq_true (by omega)]
    · rw [decide_eq_false z, decide_eq_false (by omega)]
  have h1 : m_ages_among [.lst (es.map eS)] = .ok (.lst ((srtI (tA es)).map .int)) [] := h1
  simp only [m_are_within_limits, g_are_within_limits, fn_nw0, List.map_cons, List.map_nil]
  rw [ev_new] at h3
  simp [evalA, fillA, h3, h1, c_MOST_ENTRIES, c_MOST_AGES, c1, c2]
end
end Gm
end
section
namespace Gm
open PySem DL Gx
noncomputable section
structure BookPre (kk : List Str) (es : List D) : Prop where
  row : rowD (rw_ kk) 1 = true
  few : es.length ≤ 150
  hi : kk.length ≤ 16
  en : ∀ d ∈ es, EnV kk d
def envB (kk : List Str) (d : D) : Bool := @decide (EnV kk d) (Classical.propDecidable _)
theorem envB_iff {kk : List Str} {d : D} : envB kk d = true ↔ EnV kk d := by
  unfold envB
  exact @decide_eq_true_iff _ (Classical.propDecidable _)
theorem entry_env (kk : List Str) (d : D) (hd : bnd d = true) : m_is_entry [rw_ kk, d] = .ok (.bl (envB kk d)) [] := by
  obtain ⟨b, e, hb⟩ := entry_any kk d hd
  rw [e]
  have : b = envB kk d := by rw [Bool.eq_iff_iff, hb, envB_iff]
  rw [this]
theorem book_ents (kk : List Str) (es : List D) (v : D) (hb : ∀ d ∈ es, bnd d = true) (hl : es.length ≤ 1000) : eLc (iSeq2 (eV 2)) [3] (gV 3) tTrue (eCall m_is_entry [] [.v (eV 1), .v (eV 3)] []) [some v, some (rw_ kk), some (.tup es), none] = .ok (.lst (es.map fun d => .bl (envB kk d))) [some v, some (rw_ kk), some (.tup es), none] :=
  eLc_all (i := 3) (ρ := [some v, some (rw_ kk), some (.tup es), none]) (F := fun d => .bl (envB kk d)) (ds := es) (by simp) (by omega) (by simp) (by
    intro d hd
    simp [evalA, fillA, entry_env kk d (hb d hd)])
theorem book_two (k e : D) (hk : bnd k = true) (he : bnd e = true) (hn : ¬ ∃ kk es, k = rw_ kk ∧ e = .tup es ∧ BookPre kk es) : m_is_book [.tup [k, e]] = .ok (.bl false) [] := by
  have hp : D.isPy (.tup [k, e]) = true := by simp [D.isPy, D.isPyL, bnd_py hk, bnd_py he]
  have h1 := is_tuple_of_eq (.tup [k, e]) 2 2 hp
  have h2 := is_kinds_eq k (bnd_ok hk)
  have h3 := is_tuple_of_eq e 0 150 (bnd_py he)
  cases c : rowD k 1 with
  | false => simp [m_is_book, g_is_book, evalA, fillA, h1, h2, c]
  | true =>
    obtain ⟨kk, rfl, _⟩ := row_of c
    cases e with
    | tup es =>
      obtain ⟨hel, hem⟩ := bnd_tup.mp he
      by_cases z : es.length ≤ 150
      · have c150 : decide ((es.length : Int) ≤ 150) = true := decide_eq_true (by omega)
        have hr := book_ents kk es (.tup [rw_ kk, .tup es]) hem hel
        have ha := all_bl es (envB kk)
        have hlen : len3D [rw_ kk] = some (.int kk.length) := by simp [rw_]
        have c16 : decide (16 < (kk.length : Int)) = !decide (kk.length ≤ 16) := by
          by_cases z : kk.length ≤ 16
          · rw [decide_eq_true z, decide_eq_false (by omega)]; rfl
          · rw [decide_eq_false z, decide_eq_true (by omega)]; rfl
        simp [m_is_book, g_is_book, evalA, fillA, h1, h2, h3, c, c_MOST_ENTRIES, c_MOST_BOOK_KINDS, hlen, c150]
        cases c2 : decide (kk.length ≤ 16) with
        | false => simp [hr, ha, c16, c2]
        | true =>
          have c3 : es.all (envB kk) = false := by
            cases c3 : es.all (envB kk) with
            | false => rfl
            | true =>
              rw [List.all_eq_true] at c3
              exact absurd ⟨kk, es, rfl, rfl, c, z, of_decide_eq_true c2, fun d hd => envB_iff.mp (c3 d hd)⟩ hn
          simp [hr, ha, c16, c2, c3]
      · have c150 : decide ((es.length : Int) ≤ 150) = false := decide_eq_false (by omega)
        simp [m_is_book, g_is_book, evalA, fillA, h1, h2, h3, c, c_MOST_ENTRIES, c150]
    | _ => first | (cases he; done) | simp [m_is_book, g_is_book, evalA, fillA, h1, h2, h3, c, c_MOST_ENTRIES]
theorem book_no (v : D) (hv : bnd v = true) (hn : ¬ ∃ kk es, v = .tup [rw_ kk, .tup es] ∧ BookPre kk es) : m_is_book [v] = .ok (.bl false) [] := by
  have h1 := is_tuple_of_eq v 2 2 (bnd_py hv)
  cases v with
  | tup vs =>
    have hm := (bnd_tup.mp hv).2
    match vs, hm with
    | [], _ => simp [m_is_book, g_is_book, evalA, fillA, h1]
    | [a], _ => simp [m_is_book, g_is_book, evalA, fillA, h1]
    | [k, e], hm => exact book_two k e (hm k (by simp)) (hm e (by simp)) fun ⟨kk, es, e1, e2, h⟩ => hn ⟨kk, es, by rw [e1, e2], h⟩
    | a :: b :: c :: vs, _ =>
      have c1 : ¬ ((vs.length : Int) + 1 + 1 + 1 ≤ 2) := by omega
      simp [m_is_book, g_is_book, evalA, fillA, h1, c1]
  | _ => first | (cases hv; done) | simp [m_is_book, g_is_book, evalA, fillA, h1]
theorem EnV.isT {kk : List Str} {d : D} (h : EnV kk d) : isT d = true := by
  obtain ⟨i, s, rfl, _⟩ := h
  rfl
theorem book_yes (kk : List Str) (es : List D) (h : BookPre kk es) (hkb : bnd (rw_ kk) = true) (hpl : ∀ d ∈ es, pln 8 d = true) (hn : (tA es).length < 64) :
    m_is_book [.tup [rw_ kk, .tup es]] = .ok (.bl (decide es.Nodup && decide ((tA es).length ≤ 12))) [] := by
  have hes := h.few
  have hem : ∀ d ∈ es, bnd d = true := fun d hd => pln_bnd 8 d (hpl d hd)
  have heb : bnd (.tup es) = true := bnd_tup.mpr ⟨by omega, hem⟩
  have hp : D.isPy (.tup [rw_ kk, .tup es]) = true := bnd_py (bnd_tup.mpr ⟨by simp, fun d hd => by
    simp only [List.mem_cons, List.not_mem_nil, or_false] at hd
    rcases hd with rfl | rfl <;> assumption⟩)
  have h1 := is_tuple_of_eq (.tup [rw_ kk, .tup es]) 2 2 hp
  have h2 := is_kinds_eq (rw_ kk) (bnd_ok hkb)
  have h3 := is_tuple_of_eq (.tup es) 0 150 (bnd_py heb)
  have c := h.row
  have c150 : decide ((es.length : Int) ≤ 150) = true := decide_eq_true (by omega)
  have c150' : decide (es.length ≤ 150) = true := decide_eq_true (by omega)
  have hr := book_ents kk es (.tup [rw_ kk, .tup es]) hem (by omega)
  have ha := all_bl es (envB kk)
  have hlen : len3D [rw_ kk] = some (.int kk.length) := by simp [rw_]
  have hlen2 : len3D [.tup es] = some (.int es.length) := by simp
  have c16 : decide (16 < (kk.length : Int)) = false := decide_eq_false (by have := h.hi; omega)
  have c3 : es.all (envB kk) = true := by
    rw [List.all_eq_true]
    exact fun d hd => envB_iff.mpr (h.en d hd)
  have hd := doubles_eq (.tup es) es rfl (fun x hx => ⟨hpl x hx, (h.en x hx).isT⟩) (by omega)
  have hl := limits_eq kk es h.en (by omega) hn
  rw [c150', Bool.true_and] at hl
  have hdd : decide (((addAll [] es).length : Int) = (es.length : Int)) = decide es.Nodup := by
    have := nodup_iff_len es
    by_cases z : es.Nodup
    · rw [decide_eq_true z, decide_eq_true (by have := this.mpr z; omega)]
    · rw [decide_eq_false z, decide_eq_false (fun e => z (this.mp (by omega)))]
  simp [m_is_book, g_is_book, evalA, fillA, h1, h2, h3, c, c_MOST_ENTRIES, c_MOST_BOOK_KINDS, hlen, c150]
  simp [hr, ha, c16, c3, evalA, fillA, hd, hl, hlen2]
  have e2 : eqD [.int (addAll [] es).length, .int es.length] = some (.bl (decide es.Nodup)) := by rw [eq_ints, hdd]
  cases z : decide es.Nodup <;> simp_all
end
end Gm
end
section
namespace Gm
open PySem DL Gx
noncomputable section
theorem check_ok (v : D) (h : m_is_book [v] = .ok (.bl true) []) : m_check_book [v, .str "book"] = .ok .non [] := by
  simp [m_check_book, g_check_book, evalA, fillA, h]
theorem check_no (v : D) (h : m_is_book [v] = .ok (.bl false) []) : m_check_book [v, .str "book"] = .exn (.mk "BadValue" [("name", .str "book")]) [] := by
  simp [m_check_book, g_check_book, evalA, fillA, h, sRaise, D.flat, fnE]
theorem one_class (a d : Addr) (fs : List (Str × D)) : hm__law_one_class a d "BadValue" [.exc a d "BadValue" fs, .int 0] = .ok (.bl true) [] := by
  have h0 : isOf isl "BadValue" "BadValue" = some true := by decide
  have h1 : isOf isl "BadValue" "NotPossible" = some false := by decide
  have h2 : isOf isl "BadValue" "TooLarge" = some false := by decide
  have h3 : isOf isl "BadValue" "TextError" = some false := by decide
  have h4 : isOf isl "BadValue" "BranchError" = some true := by decide
  have h5 : isOf isl "BadValue" "ValueError" = some true := by decide
  have hl : lenOk 4 = true := by decide
  have hr := eLc_all (i := 3) (ρ := [some (.exc a d "BadValue" fs), some (.int 0), some (.lst [.bl true, .bl false, .bl false, .bl false]), none]) (f := iRange1 (eC (.int 4))) (te := appM [.v (eV 1), .v (eV 3)] eqD) (F := fun d => match d with | .int j => .bl (decide (0 = j)) | d => d) (ds := rangeL 0 4)
    (by rfl) (by decide) (by simp) (by
      intro x hx
      simp only [rangeL, List.mem_map, List.mem_range] at hx
      obtain ⟨j, _, rfl⟩ := hx
      simp)
  have hm : (rangeL 0 4).map (fun d => match d with | .int j => D.bl (decide ((0 : Int) = j)) | d => d) = [.bl true, .bl false, .bl false, .bl false] := by rfl
  rw [hm] at hr
  have he : eqD [.lst [.bl true, .bl false, .bl false, .bl false], .lst [.bl true, .bl false, .bl false, .bl false]] = some (.bl true) := by rfl
  simp only [hm__law_one_class, hg__law_one_class, fn_nw0]
  simp [eIsX, eX, h0, h1, h2, h3, h4, h5, hl]
  simp [hr, he]
theorem law_bad_eq (a d : Addr) : hm__law_bad a d "BadValue" [.exc a d "BadValue" [("name", .str "book")], .str "book"] = .ok (.bl true) [] := by
  have h0 := one_class a d [("name", .str "book")]
  have h1 : ((Str.ofString "BadValue"), (Str.ofString "name")) ∈ fdl := by decide
  have h2 : lenOk (Str.ofString "book").length = true := by decide
  have h3 : isiD [.str (Str.ofString "book"), .ty "str"] = some (.bl true) := by rfl
  simp only [hm__law_bad, hg__law_bad, fn_nw0]
  simp [evalA, fillA, h0, eAtX, eX, h1, h2, h3]
theorem told_bad (v : D) (h : m_is_book [v] = .ok (.bl false) []) : m__law_told [v, .non] = .ok (.bl true) [] := by
  have hc := check_no v h
  have hk : m_sizes_of [v] = .exn (.mk "BadValue" [("name", .str "book")]) [] := by
    simp [m_sizes_of, g_sizes_of, sExp, evalA, fillA, hc, fnE]
  have ha : m_ages_in [v] = .exn (.mk "BadValue" [("name", .str "book")]) [] := by
    simp [m_ages_in, g_ages_in, sExp, evalA, fillA, hc, fnE]
  have ho : isOf exl "BadValue" "BranchError" = some true := by decide
  have hn : isD [.non, .non] = some (.bl true) := rfl
  have hn2 : isNotD [.non, .non] = some (.bl false) := rfl
  simp only [m__law_told, g__law_told, fn_nw0]
  rw [ev_seq, sTry_exn (fl := .nx) (ρ2 := [some v, some .non, some .non, none, none]) (cls := "BadValue") (fs := [("name", .str "book")]) (ρ1 := [some v, some .non, none, none, none]) (by simp [evalA, fillA, hk]) ho (by
    intro a d
    refine ⟨[some v, some .non, some .non, some (.exc a d "BadValue" [("name", .str "book")]), none], ?_, rfl⟩
    simp [evalA, fillA, law_bad_eq a d, hn2])]
  rw [Res.bind_ok]
  show fnE ((sSeq _ _) _) = _
  rw [ev_seq, sTry_exn (fl := .rt (.bl true)) (ρ2 := [some v, some .non, some .non, none, none]) (cls := "BadValue") (fs := [("name", .str "book")]) (ρ1 := [some v, some .non, some .non, none, none]) (by simp [evalA, fillA, ha]) ho (by
    intro a d
    refine ⟨[some v, some .non, some .non, some (.exc a d "BadValue" [("name", .str "book")]), none], ?_, rfl⟩
    simp [evalA, fillA, law_bad_eq a d, hn])]
  rfl
/-! books -/
theorem flat_two {g : D → List Int} : ∀ {xs : List D}, (∀ d ∈ xs, (g d).length ≤ 2) → (xs.flatMap g).length ≤ 2 * xs.length
  | [], _ => by simp
  | d :: xs, h => by
    have := flat_two fun x hx => h x (List.mem_cons_of_mem d hx)
    have h2 := h d (List.mem_cons_self ..)
    rw [List.flatMap_cons, List.length_append, List.length_cons]
    omega
theorem pln_up : ∀ (n : Nat) (d : D), pln n d = true → pln (n + 1) d = true
  | n, d, h => by
    rcases pln_cases h with ⟨i, rfl⟩ | ⟨x, rfl, hx⟩ | ⟨m, xs, rfl, rfl, hl, hx⟩
    · rfl
    · simp only [pln, Bool.and_eq_true, decide_eq_true_eq]; exact hx
    · rw [pln, Bool.and_eq_true, decide_eq_true_eq]
      exact ⟨hl, plnL_of fun y hy => pln_up m y (plnL_mem hx y hy)⟩
theorem eS_pln {kk : List Str} {d : D} (h : EnV kk d) (hp : pln 8 d = true) : pln 8 (eS d) = true ∧ isT (eS d) = true := by
  obtain ⟨i, s, rfl, _⟩ := h
  have : pln 7 s.d = true := by
    simp only [pln, plnL, Bool.and_eq_true] at hp
    exact hp.2.2.1
  exact ⟨pln_up 7 _ this, by cases s <;> rfl⟩
theorem sts_eq (kk : List Str) (es : List D) (h : BookPre kk es) (hpl : ∀ d ∈ es, pln 8 d = true) : m_statements_among [.tup [rw_ kk, .tup es]] = .ok (.tup (addAll [] (es.map eS))) [] := by
  have hes := h.few
  have h1 := lcPairs (.tup [rw_ kk, .tup es]) (iSeq2 (appM [.v (eV 0), .v (eC (.int 1))] ix2D)) es (by simp) (fun d hd => (h.en d hd).two) (by omega)
  have h1 : (eNew (eLc (iSeq2 (appM [.v (eV 0), .v (eC (.int 1))] ix2D)) [1, 2] (gTup 2 (gsC (gV 1) (gsC (gV 2) gsN))) tTrue (eV 2))) [some (.tup [rw_ kk, .tup es]), none, none] = .ok (.lst (es.map eS)) [some (.tup [rw_ kk, .tup es]), none, none] := by rw [ev_new, h1]; rfl
  have h2 := doubles_eq (.lst (es.map eS)) (es.map eS) rfl (fun x hx => by
    obtain ⟨y, hy, rfl⟩ := List.mem_map.mp hx
    exact eS_pln (h.en y hy) (hpl y hy)) (by rw [List.length_map]; omega)
  simp only [m_statements_among, g_statements_among, fn_nw0, List.map_cons, List.map_nil]
  rw [ev_new] at h1
  simp [evalA, fillA, h1, h2]
theorem ages_eq (kk : List Str) (es : List D) (h : BookPre kk es) (hn : (tA es).length < 64) : m_ages_among [.tup (addAll [] (es.map eS))] = .ok (.lst ((srtI (tA es)).map .int)) [] := by
  have hes := h.few
  have hst : ∀ d ∈ addAll [] (es.map eS), ∃ s : Sta, d = s.d ∧ s.ok := fun d hd => by
    rw [addAll_mem] at hd
    rcases hd with hd | hd
    · cases hd
    · obtain ⟨x, hx, rfl⟩ := List.mem_map.mp hd
      obtain ⟨s, e, hs, _⟩ := (h.en x hx).st
      exact ⟨s, e, hs⟩
  have hl := addAll_len (es.map eS) []
  simp only [List.length_nil, List.length_map, Nat.zero_add] at hl
  have e : addAll [] ((addAll [] (es.map eS)).flatMap dA) = tA es := by rw [flat_dd, flat_eS h.en]; rfl
  have h2 := flat_two (g := dA) (xs := addAll [] (es.map eS)) fun d hd => by
    obtain ⟨s, rfl, hs⟩ := hst d hd
    exact dA_len hs
  have h1 := among_eq (.tup (addAll [] (es.map eS))) (addAll [] (es.map eS)) rfl hst (by omega) (by rw [e]; exact hn) (by omega)
  rw [e] at h1
  exact h1
theorem sizes_eq (kk : List Str) (es : List D) (h : BookPre kk es) (hpl : ∀ d ∈ es, pln 8 d = true) (hn : (tA es).length < 64) (hb : m_is_book [.tup [rw_ kk, .tup es]] = .ok (.bl true) []) :
    m_sizes_of [.tup [rw_ kk, .tup es]] = .ok (.tup [.int kk.length, .int es.length, .int (tA es).length]) [] ∧ m_ages_in [.tup [rw_ kk, .tup es]] = .ok (.tup ((srtI (tA es)).map .int)) [] := by
  have hc := check_ok _ hb
  have h1 := sts_eq kk es h hpl
  have h2 := ages_eq kk es h hn
  have hl : lenOk 3 = true := by decide
  have e : (srtI (tA es)).length = (tA es).length := List.length_mergeSort _
  refine ⟨?_, ?_⟩
  · have hlen : len3D [rw_ kk] = some (.int kk.length) := by simp [rw_]
    simp [m_sizes_of, g_sizes_of, sExp, evalA, fillA, hc, h1, h2, hl, hlen, e]
  · simp [m_ages_in, g_ages_in, sExp, evalA, fillA, hc, h1, h2]
theorem told_try (gb gc : M Fl) (okc : Str → Option Bool) (g1 g2 : Addr → Addr → Str → M Fl) (tl : M Fl) (v u k a : D) (h1 : gb [some v, some u, none, none, none] = .ok .nx [some v, some u, some k, none, none])
    (h2 : gc [some v, some u, some k, none, none] = .ok .nx [some v, some u, some k, none, some a]) (h3 : fnE (tl [some v, some u, some k, none, some a]) = .ok (.bl true) []) :
    fnE ((sSeq (sTry gb okc 3 g1) (sSeq (sTry gc okc 3 g2) tl)) [some v, some u, none, none, none]) = .ok (.bl true) [] := by
  rw [ev_seq, sTry_ok h1, Res.bind_ok]
  show fnE ((sSeq (sTry gc okc 3 g2) tl) [some v, some u, some k, none, none]) = _
  rw [ev_seq, sTry_ok h2, Res.bind_ok]
  exact h3
theorem told_tail (ms : Fn) (v u k a : D) (hu : u = .tup [k, a]) (h : ms [.tup [k, a], .tup [k, a]] = .ok (.bl true) []) :
    fnE ((sRet (eAnd (appM [.v (eV 1), .v (eC .non)] isNotD) (eCall ms [] [.v (eTup [(eV 2), (eV 4)]), .v (eV 1)] []))) [some v, some u, some k, none, some a]) = .ok (.bl true) [] := by
  subst hu
  have hl : lenOk 2 = true := by decide
  have hn : isNotD [.tup [k, a], .non] = some (.bl true) := rfl
  simp [evalA, fillA, h, hl, hn]
theorem told_good (kk : List Str) (es : List D) (h : BookPre kk es) (hpl : ∀ d ∈ es, pln 8 d = true) (hn : (tA es).length < 64) (hb : m_is_book [.tup [rw_ kk, .tup es]] = .ok (.bl true) []) :
    m__law_told [.tup [rw_ kk, .tup es], .tup [.tup [.int kk.length, .int es.length, .int (tA es).length], .tup ((srtI (tA es)).map .int)]] = .ok (.bl true) [] := by
  obtain ⟨h1, h2⟩ := sizes_eq kk es h hpl hn hb
  have e : (srtI (tA es)).length = (tA es).length := List.length_mergeSort _
  have hs : m__law_same [.tup [.tup [.int kk.length, .int es.length, .int (tA es).length], .tup ((srtI (tA es)).map .int)], .tup [.tup [.int kk.length, .int es.length, .int (tA es).length], .tup ((srtI (tA es)).map .int)]] = .ok (.bl true) [] := by
    refine same_ok _ (bnd_tup.mpr ⟨by simp, fun d hd => ?_⟩) ?_
    · simp only [List.mem_cons, List.not_mem_nil, or_false] at hd
      rcases hd with rfl | rfl
      · rfl
      · refine bnd_tup.mpr ⟨by rw [List.length_map]; omega, fun d hd => ?_⟩
        obtain ⟨x, _, rfl⟩ := List.mem_map.mp hd
        rfl
    · simp only [sz, szL, szL_map D.int (fun _ => rfl), e]
      omega
  generalize hv : D.tup [rw_ kk, .tup es] = v at *
  generalize hk : D.tup [.int kk.length, .int es.length, .int (tA es).length] = k at *
  generalize ha : D.tup ((srtI (tA es)).map .int) = a at *
  have e : m__law_told [v, .tup [k, a]] = fnE (g__law_told [some v, some (.tup [k, a]), none, none, none]) := fn_nw0 5 g__law_told [v, .tup [k, a]]
  rw [e]
  unfold g__law_told
  refine told_try _ _ _ _ _ _ v (.tup [k, a]) k a (by simp [evalA, fillA, h1]) (by simp [evalA, fillA, h2]) ?_
  exact told_tail m__law_same v (.tup [k, a]) k a rfl hs
end
end Gm
end
section
namespace Gm
open PySem DL Gx
noncomputable section
/-! the law's own ages -/
theorem mem_ints (n : Int) (ys : List Int) : notIn3D [.int n, .lst (ys.map .int)] = some (.bl (!decide (n ∈ ys))) := by
  have hf : (ys.map D.int).all D.flat = true := by simp [List.all_map, D.flat]
  have ha : ((ys.map D.int).any fun y => eqB y (.int n)) = decide (n ∈ ys) := by
    rw [Bool.eq_iff_iff]
    simp only [List.any_map, List.any_eq_true, Function.comp, eqB_ii, decide_eq_true_eq]
    exact ⟨fun ⟨y, hy, e⟩ => e ▸ hy, fun h => ⟨n, h, rfl⟩⟩
  show notD1 (inD [.int n, .lst (ys.map .int)]) = _
  simp only [inD, D.flat, hf, Bool.and_self, Bool.true_or, if_true, ha]
  rfl
def adI : M Fl := (sIf (tAndM (eTst (appM [.v (appM [.v (eV 4), .v (eC (.int 0))] ix2D), .v (eC (.str "age"))] eqD)) (tAndM (eTst (appM [.v (appM [.v (eV 4), .v (eC (.int 1))] ix2D), .v (eC (.int 0))] gtD)) (eTst (appM [.v (appM [.v (eV 4), .v (eC (.int 1))] ix2D), .p 1] notIn3D)))) (sApp 1 (appM [.v (eV 4), .v (eC (.int 1))] ix2D)) sNx)
def adN : M Fl := (sAsg (eIf (eTst (appM [.v (appM [.v (appM [.v (eV 2), .v (eC (.int 1))] ix2D), .v (eC (.int 0))] ix2D), .v (eNew (eLst [(eC (.str "older")), (eC (.str "as old"))]))] in3D)) (appM [.v (appM [.v (eV 2), .v (eC (.int 1))] ix2D), .v (asInt (eC (.int 1)))] slDlo) (eTup [])) (gV 3))
theorem ad_parts : g__law_ages_due = sSeq (sAsgO 1 (eLst [])) (sSeq (sFor (iSeq2 (eV 0)) (gV 2) (sSeq adN (sFor (iSeq2 (eV 3)) (gV 4) adI))) (sRet (appM [.p 1] sorted2D))) := by
  simp only [g__law_ages_due, adN, adI]
theorem adI_eq (v o2 o3 : Option D) (acc : List Int) (t : Tm) (hl : acc.length ≤ 4000) : adI [v, some (.lst (acc.map .int)), o2, o3, some t.d] = .ok .nx [v, some (.lst ((addAll acc t.ages).map .int)), o2, o3, some t.d] := by
  have hk : lenOk ((acc.map D.int).length + 1) = true := by rw [List.length_map]; exact decide_eq_true (by omega)
  cases t with
  | par a b =>
    have hn : decide (Str.ofString "parting" = Str.ofString "age") = false := by decide
    simp [adI, Tm.d, Tm.ages, addAll, hn]
  | age n =>
    by_cases h0 : 0 < n
    · by_cases hm : n ∈ acc
      · simp [adI, Tm.d, Tm.ages, addAll, addOne, h0, mem_ints, hm]
      · have ha := app_at (f := (appM [.v (eV 4), .v (eC (.int 1))] ix2D)) (ρ := [v, some (.lst (acc.map .int)), o2, o3, some (Tm.age n).d]) (i := 1) (d := .int n) (ds := acc.map .int) (by simp [Tm.d]) rfl hk
        unfold adI
        rw [ev_sif]
        have ht : (tAndM (eTst (appM [.v (appM [.v (eV 4), .v (eC (.int 0))] ix2D), .v (eC (.str "age"))] eqD)) (tAndM (eTst (appM [.v (appM [.v (eV 4), .v (eC (.int 1))] ix2D), .v (eC (.int 0))] gtD)) (eTst (appM [.v (appM [.v (eV 4), .v (eC (.int 1))] ix2D), .p 1] notIn3D)))) [v, some (.lst (acc.map .int)), o2, o3, some (Tm.age n).d] = .ok true [v, some (.lst (acc.map .int)), o2, o3, some (Tm.age n).d] := by
          simp [Tm.d, h0, mem_ints, hm]
        rw [ht, Res.bind_ok, cnd_t, ha]
        simp [Tm.ages, addAll, addOne, h0, hm]
    · simp [adI, Tm.d, Tm.ages, addAll, h0]
theorem adIn (v o2 o3 : Option D) : ∀ (ts : List Tm) (acc : List Int) (o4 : Option D), acc.length + (ts.flatMap Tm.ages).length ≤ 4000 → ∃ o4', DL.forL (gV 4) adI (ts.map Tm.d) [v, some (.lst (acc.map .int)), o2, o3, o4] = .ok .nx [v, some (.lst ((addAll acc (ts.flatMap Tm.ages)).map .int)), o2, o3, o4']
  | [], acc, o4, _ => ⟨o4, rfl⟩
  | t :: ts, acc, o4, hl => by
    rw [List.flatMap_cons, List.length_append] at hl
    have h1 := addAll_len t.ages acc
    obtain ⟨o, e⟩ := adIn v o2 o3 ts (addAll acc t.ages) (some t.d) (by omega)
    refine ⟨o, ?_⟩
    rw [List.map_cons, forL_cons _ _ _ _ _ _ _ (show gV 4 t.d [v, some (.lst (acc.map .int)), o2, o3, o4] = some [v, some (.lst (acc.map .int)), o2, o3, some t.d] from rfl) (adI_eq v o2 o3 acc t (by omega)), e, List.flatMap_cons, addAll_app]
/-- the terms of a statement -/
def Sta.tms : Sta → List Tm
  | .pl _ s t => [s, t]
  | _ => []
theorem tms_ages (s : Sta) : s.tms.flatMap Tm.ages = s.ages := by cases s <;> simp [Sta.tms, Sta.ages]
theorem adN_eq (v o1 o3 o4 : Option D) (i : Int) (s : Sta) (h : s.ok) : adN [v, o1, some (.tup [.int i, s.d]), o3, o4] = .ok .nx [v, o1, some (.tup [.int i, s.d]), some (.tup (s.tms.map Tm.d)), o4] := by
  have hl : lenOk 2 = true := by decide
  have hl0 : lenOk 0 = true := by decide
  cases s with
  | grp xs =>
    have hp : plainW "group" = false := by decide
    simp [adN, Sta.d, Sta.tms, law_plain_in, hp, hl, hl0]
  | mark xs ys =>
    have hp : plainW "mark" = false := by decide
    simp [adN, Sta.d, Sta.tms, law_plain_in, hp, hl, hl0]
  | pl w s t =>
    have hp : plainW w = true := by simp only [Sta.ok] at h; rcases h with rfl | rfl <;> decide
    simp [adN, Sta.d, Sta.tms, law_plain_in, hp, hl, lo_two]
theorem adOut (v : Option D) {kk : List Str} : ∀ (es : List D) (acc : List Int) (o2 o3 o4 : Option D), (∀ d ∈ es, EnV kk d) → acc.length + (es.flatMap eA).length ≤ 4000 →
    ∃ o2' o3' o4', DL.forL (gV 2) (sSeq adN (sFor (iSeq2 (eV 3)) (gV 4) adI)) es [v, some (.lst (acc.map .int)), o2, o3, o4] = .ok .nx [v, some (.lst ((addAll acc (es.flatMap eA)).map .int)), o2', o3', o4']
  | [], acc, o2, o3, o4, _, _ => ⟨o2, o3, o4, rfl⟩
  | d :: es, acc, o2, o3, o4, h, hl => by
    rw [List.flatMap_cons, List.length_append] at hl
    obtain ⟨i, s, rfl, _, _, _, hs, _⟩ := h d (List.mem_cons_self ..)
    have he : eA (.tup [.int i, s.d]) = s.ages := dA_eq s hs
    rw [he] at hl
    have h1 := addAll_len s.ages acc
    obtain ⟨o4a, e4⟩ := adIn v (some (.tup [.int i, s.d])) (some (.tup (s.tms.map Tm.d))) s.tms acc o4 (by rw [tms_ages]; omega)
    rw [tms_ages] at e4
    obtain ⟨p2, p3, p4, e⟩ := adOut v es (addAll acc s.ages) (some (.tup [.int i, s.d])) (some (.tup (s.tms.map Tm.d))) o4a (fun x hx => h x (List.mem_cons_of_mem _ hx)) (by omega)
    refine ⟨p2, p3, p4, ?_⟩
    have hb : (sSeq adN (sFor (iSeq2 (eV 3)) (gV 4) adI)) [v, some (.lst (acc.map .int)), some (.tup [.int i, s.d]), o3, o4] = .ok .nx [v, some (.lst ((addAll acc s.ages).map .int)), some (.tup [.int i, s.d]), some (.tup (s.tms.map Tm.d)), o4a] := by
      rw [ev_seq, adN_eq v _ o3 o4 i s hs, Res.bind_ok]
      exact e4
    rw [forL_cons _ _ _ _ _ _ _ (show gV 2 (D.tup [.int i, s.d]) [v, some (.lst (acc.map .int)), o2, o3, o4] = some [v, some (.lst (acc.map .int)), some (.tup [.int i, s.d]), o3, o4] from rfl) hb, e, List.flatMap_cons, addAll_app, he]
theorem ages_due_eq {kk : List Str} (es : List D) (h : ∀ d ∈ es, EnV kk d) (hl : es.length ≤ 1000) : m__law_ages_due [.lst es] = .ok (.lst ((srtI (tA es)).map .int)) [] := by
  have h1 := flat_len h
  obtain ⟨o2, o3, o4, e⟩ := adOut (some (.lst es)) es [] none none none h (by simp only [List.length_nil]; omega)
  have hs := sort_ints (tA es)
  simp only [m__law_ages_due, ad_parts, fn_nw0]
  have hl0 : lenOk 0 = true := by decide
  have h0 : (sAsgO 1 (eLst [])) (List.map some [.lst es] ++ List.replicate (5 - [D.lst es].length) none) = .ok .nx [some (.lst es), some (.lst []), none, none, none] := by
    simp [hl0]
  rw [ev_seq, h0, Res.bind_ok, ev_seq, ev_rf]
  show fnE ((((Res.ok es _).bind _)).bind _) = _
  rw [Res.bind_ok]
  have e : DL.forL (gV 2) (sSeq adN (sFor (iSeq2 (eV 3)) (gV 4) adI)) es [some (.lst es), some (.lst []), none, none, none] = .ok .nx [some (.lst es), some (.lst ((tA es).map .int)), o2, o3, o4] := e
  rw [e, Res.bind_ok]
  simp [hs, srtI]
end
end Gm
end
section
namespace Gm
open PySem DL Gx
noncomputable section
/-! the law's own reading of names -/
theorem in_lw (x : Str) (ks : List Str) : in3D [.str x, lw_ ks] = some (.bl (decide (x ∈ ks))) := by
  have h := mem_strs x ks
  have hf : (ks.map D.str).all D.flat = true := by simp [List.all_map, D.flat]
  show inD [.str x, .lst (ks.map .str)] = _
  have ha : ((ks.map D.str).any fun y => eqB y (.str x)) = decide (x ∈ ks) := by
    rw [Bool.eq_iff_iff]
    simp only [List.any_map, List.any_eq_true, Function.comp, eqB_ss, decide_eq_true_eq]
    exact ⟨fun ⟨y, hy, e⟩ => e ▸ hy, fun h => ⟨x, h, rfl⟩⟩
  simp only [inD, D.flat, hf, Bool.and_self, Bool.true_or, if_true, ha]
def nmA : M Fl := (sIf (eTst (appM [.v (appM [.v (appM [.v (eV 2), .v (eC (.int 1))] ix2D), .v (eC (.int 0))] ix2D), .v (eNew (eLst [(eC (.str "older")), (eC (.str "as old"))]))] in3D)) (sAsg (eIf (eTst (appM [.v (appM [.v (eV 3), .v (eC (.int 0))] ix2D), .v (eC (.str "parting"))] eqD)) (appM [.v (eV 3), .v (asInt (eC (.int 1)))] slDlo) (eTup [])) (gV 4)) sNx)
def nmC : M Fl := (sIf (tNotM (eTru (appM [.v (eNew (eLc (iSeq2 (eV 4)) [5] (gV 5) tTrue (appM [.v (eV 5), .v (eV 1)] in3D)))] allD))) (sRet (eC (.bl false))) sNx)
def nmB : M Fl := (sSeq (sAsg (eV 3) (gV 4)) (sSeq nmA nmC))
theorem nm_parts : g__law_named = sSeq (sFor (iSeq2 (eV 0)) (gV 2) (sFor (iSeq2 (appM [.v (appM [.v (eV 2), .v (eC (.int 1))] ix2D), .v (asInt (eC (.int 1)))] slDlo)) (gV 3) nmB)) (sRet (eC (.bl true))) := by
  simp only [g__law_named, nmB, nmA, nmC]
def Sta.its : Sta → List (D × List Str)
  | .grp xs => [(rw_ xs, xs)]
  | .mark xs ys => [(rw_ xs, xs), (rw_ ys, ys)]
  | .pl _ s t => [(s.d, s.names), (t.d, t.names)]
theorem its_names (s : Sta) : s.its.flatMap (·.2) = s.names := by cases s <;> simp [Sta.its, Sta.names]
theorem lo_its (s : Sta) : slDlo [s.d, .int 1] = some (.tup (s.its.map (·.1))) := by cases s <;> rfl
theorem nmC_eq (v o2 o3 : Option D) (kk xs : List Str) (hl : xs.length ≤ 1000) : nmC [v, some (lw_ kk), o2, o3, some (rw_ xs), none] = .ok (if allIn xs kk = true then .nx else .rt (.bl false)) [v, some (lw_ kk), o2, o3, some (rw_ xs), none] := by
  have hr := eLc_all (i := 5) (ρ := [v, some (lw_ kk), o2, o3, some (rw_ xs), none]) (f := iSeq2 (eV 4)) (te := appM [.v (eV 5), .v (eV 1)] in3D) (F := fun d => match d with | .str x => .bl (decide (x ∈ kk)) | d => d) (ds := xs.map .str) (by simp [rw_]) (by simp; omega) (by simp) (by
    intro d hd
    obtain ⟨x, _, rfl⟩ := List.mem_map.mp hd
    simp [in_lw])
  have hm : (xs.map D.str).map (fun d => match d with | .str x => D.bl (decide (x ∈ kk)) | d => d) = xs.map fun x => D.bl (decide (x ∈ kk)) := by
    rw [List.map_map]
    rfl
  rw [hm] at hr
  have ha := all_bl xs fun x => decide (x ∈ kk)
  cases c : allIn xs kk with
  | true =>
    have c' : xs.all (fun x => decide (x ∈ kk)) = true := c
    rw [c'] at ha
    simp [nmC]
    simp [hr, ha]
  | false =>
    have c' : xs.all (fun x => decide (x ∈ kk)) = false := c
    rw [c'] at ha
    simp [nmC]
    simp [hr, ha]
theorem nmA_row (v o1 : Option D) (i : Int) (s : Sta) (w : Str) (xs : List Str) (hw : plainW w = false) (hv : ix2D [s.d, .int 0] = some (.str w)) :
    (sSeq (sAsg (eV 3) (gV 4)) (sSeq nmA nmC)) [v, o1, some (.tup [.int i, s.d]), some (rw_ xs), o4, none] = nmC [v, o1, some (.tup [.int i, s.d]), some (rw_ xs), some (rw_ xs), none] := by
  have hl : lenOk 2 = true := by decide
  have h1 : (sAsg (eV 3) (gV 4)) [v, o1, some (.tup [.int i, s.d]), some (rw_ xs), o4, none] = .ok .nx [v, o1, some (.tup [.int i, s.d]), some (rw_ xs), some (rw_ xs), none] := by simp
  have h2 : nmA [v, o1, some (.tup [.int i, s.d]), some (rw_ xs), some (rw_ xs), none] = .ok .nx [v, o1, some (.tup [.int i, s.d]), some (rw_ xs), some (rw_ xs), none] := by
    simp [nmA, hv, law_plain_in, hw, hl]
  rw [ev_seq, h1, Res.bind_ok]
  show (sSeq nmA nmC) _ = _
  rw [ev_seq, h2, Res.bind_ok]
theorem nmA_tm (v o1 : Option D) (i : Int) (s : Sta) (w : Str) (t : Tm) (hw : plainW w = true) (hv : ix2D [s.d, .int 0] = some (.str w)) :
    (sSeq (sAsg (eV 3) (gV 4)) (sSeq nmA nmC)) [v, o1, some (.tup [.int i, s.d]), some t.d, o4, none] = nmC [v, o1, some (.tup [.int i, s.d]), some t.d, some (rw_ t.names), none] := by
  have hl : lenOk 2 = true := by decide
  have hl0 : lenOk 0 = true := by decide
  have h1 : (sAsg (eV 3) (gV 4)) [v, o1, some (.tup [.int i, s.d]), some t.d, o4, none] = .ok .nx [v, o1, some (.tup [.int i, s.d]), some t.d, some t.d, none] := by simp
  have h2 : nmA [v, o1, some (.tup [.int i, s.d]), some t.d, some t.d, none] = .ok .nx [v, o1, some (.tup [.int i, s.d]), some t.d, some (rw_ t.names), none] := by
    cases t with
    | age n =>
      have hn : decide (Str.ofString "age" = Str.ofString "parting") = false := by decide
      simp [nmA, hv, law_plain_in, hw, hl, hl0, Tm.d, Tm.names, rw_, hn]
    | par a b => simp [nmA, hv, law_plain_in, hw, hl, Tm.d, Tm.names, rw_, lo_two]
  rw [ev_seq, h1, Res.bind_ok]
  show (sSeq nmA nmC) _ = _
  rw [ev_seq, h2, Res.bind_ok]
theorem nmB_eq (v : Option D) (kk : List Str) (i : Int) (s : Sta) (hs : s.ok) (o4 : Option D) : ∀ p ∈ s.its, nmB [v, some (lw_ kk), some (.tup [.int i, s.d]), some p.1, o4, none] = .ok (if allIn p.2 kk = true then .nx else .rt (.bl false)) [v, some (lw_ kk), some (.tup [.int i, s.d]), some p.1, some (rw_ p.2), none] := by
  intro p hp
  have hn := s.names_len hs
  have hl : p.2.length ≤ 1000 := by
    have : p.2.length ≤ s.names.length := by
      cases s with
      | grp xs => simp only [Sta.its, List.mem_singleton] at hp; subst hp; exact Nat.le_refl _
      | mark xs ys =>
        simp only [Sta.its, List.mem_cons, List.not_mem_nil, or_false] at hp
        rcases hp with rfl | rfl <;> simp [Sta.names]
      | pl w a b =>
        simp only [Sta.its, List.mem_cons, List.not_mem_nil, or_false] at hp
        rcases hp with rfl | rfl <;> simp [Sta.names]
    omega
  rw [nmB]
  cases s with
  | grp xs =>
    simp only [Sta.its, List.mem_singleton] at hp
    subst hp
    rw [nmA_row v _ i (.grp xs) "group" xs (by decide) rfl]
    exact nmC_eq v _ _ kk xs hl
  | mark xs ys =>
    simp only [Sta.its, List.mem_cons, List.not_mem_nil, or_false] at hp
    rcases hp with rfl | rfl
    · rw [nmA_row v _ i (.mark xs ys) "mark" xs (by decide) rfl]
      exact nmC_eq v _ _ kk xs hl
    · rw [nmA_row v _ i (.mark xs ys) "mark" ys (by decide) rfl]
      exact nmC_eq v _ _ kk ys hl
  | pl w a b =>
    have hw : plainW w = true := by simp only [Sta.ok] at hs; rcases hs with rfl | rfl <;> decide
    simp only [Sta.its, List.mem_cons, List.not_mem_nil, or_false] at hp
    rcases hp with rfl | rfl
    · rw [nmA_tm v _ i (.pl w a b) w a hw rfl]
      exact nmC_eq v _ _ kk a.names hl
    · rw [nmA_tm v _ i (.pl w a b) w b hw rfl]
      exact nmC_eq v _ _ kk b.names hl
theorem nmIn (v : Option D) (kk : List Str) (i : Int) (s : Sta) (hs : s.ok) : ∀ (its : List (D × List Str)) (o3 o4 : Option D), (∀ p ∈ its, p ∈ s.its) → ∃ o3' o4',
    DL.forL (gV 3) nmB (its.map (·.1)) [v, some (lw_ kk), some (.tup [.int i, s.d]), o3, o4, none] = .ok (if allIn (its.flatMap (·.2)) kk = true then .nx else .rt (.bl false)) [v, some (lw_ kk), some (.tup [.int i, s.d]), o3', o4', none]
  | [], o3, o4, _ => ⟨o3, o4, rfl⟩
  | p :: its, o3, o4, h => by
    have hb := nmB_eq v kk i s hs o4 p (h p (List.mem_cons_self ..))
    have hg : gV 3 p.1 [v, some (lw_ kk), some (.tup [.int i, s.d]), o3, o4, none] = some [v, some (lw_ kk), some (.tup [.int i, s.d]), some p.1, o4, none] := rfl
    have hc : allIn ((p :: its).flatMap (·.2)) kk = (allIn p.2 kk && allIn (its.flatMap (·.2)) kk) := by simp only [allIn, List.flatMap_cons, List.all_append]
    cases c : allIn p.2 kk with
    | false =>
      rw [c] at hb
      refine ⟨some p.1, some (rw_ p.2), ?_⟩
      rw [hc, c, Bool.false_and, List.map_cons, forL_rt _ _ _ _ _ _ _ (.bl false) hg hb]
      rfl
    | true =>
      rw [c] at hb
      obtain ⟨o3', o4', e⟩ := nmIn v kk i s hs its (some p.1) (some (rw_ p.2)) fun q hq => h q (List.mem_cons_of_mem _ hq)
      refine ⟨o3', o4', ?_⟩
      rw [hc, c, Bool.true_and, List.map_cons, forL_cons _ _ _ _ _ _ _ hg hb, e]
theorem nmOut (v : Option D) (kk : List Str) {ks : List Str} : ∀ (es : List D) (o2 o3 o4 : Option D), (∀ d ∈ es, EnV ks d) → ∃ o2' o3' o4',
    DL.forL (gV 2) (sFor (iSeq2 (appM [.v (appM [.v (eV 2), .v (eC (.int 1))] ix2D), .v (asInt (eC (.int 1)))] slDlo)) (gV 3) nmB) es [v, some (lw_ kk), o2, o3, o4, none] = .ok (if es.all (envB kk) = true then .nx else .rt (.bl false)) [v, some (lw_ kk), o2', o3', o4', none]
  | [], o2, o3, o4, _ => ⟨o2, o3, o4, rfl⟩
  | d :: es, o2, o3, o4, h => by
    obtain ⟨i, s, rfl, hi0, hi1, hst, hs, _⟩ := h d (List.mem_cons_self ..)
    have hg : gV 2 (D.tup [.int i, s.d]) [v, some (lw_ kk), o2, o3, o4, none] = some [v, some (lw_ kk), some (.tup [.int i, s.d]), o3, o4, none] := rfl
    obtain ⟨p3, p4, e⟩ := nmIn v kk i s hs s.its o3 o4 fun p hp => hp
    rw [its_names] at e
    have hn : envB kk (.tup [.int i, s.d]) = allIn s.names kk := by
      rw [Bool.eq_iff_iff, envB_iff, allIn_iff]
      refine ⟨fun ⟨j, t, e, _, _, _, ht, h⟩ => ?_, fun h => ⟨i, s, rfl, hi0, hi1, hst, hs, h⟩⟩
      have e2 : s.d = t.d := by
        simp only [D.tup.injEq, List.cons.injEq, and_true] at e
        exact e.2
      have h6 := kw_eq t ht
      rw [← e2, kw_eq s hs] at h6
      simp only [FRes.ok.injEq, D.lst.injEq, and_true] at h6
      rw [strs_inj h6]
      exact h
    have hb : (sFor (iSeq2 (appM [.v (appM [.v (eV 2), .v (eC (.int 1))] ix2D), .v (asInt (eC (.int 1)))] slDlo)) (gV 3) nmB) [v, some (lw_ kk), some (.tup [.int i, s.d]), o3, o4, none] = .ok (if allIn s.names kk = true then .nx else .rt (.bl false)) [v, some (lw_ kk), some (.tup [.int i, s.d]), p3, p4, none] := by
      rw [ev_rf]
      have hi : (iSeq2 (appM [.v (appM [.v (eV 2), .v (eC (.int 1))] ix2D), .v (asInt (eC (.int 1)))] slDlo)) [v, some (lw_ kk), some (.tup [.int i, s.d]), o3, o4, none] = .ok (s.its.map (·.1)) [v, some (lw_ kk), some (.tup [.int i, s.d]), o3, o4, none] := by
        simp [lo_its]
      rw [hi, Res.bind_ok, e]
    rw [List.all_cons, hn]
    cases c : allIn s.names kk with
    | false =>
      rw [c] at hb
      exact ⟨some (.tup [.int i, s.d]), p3, p4, by rw [Bool.false_and, forL_rt _ _ _ _ _ _ _ (.bl false) hg hb]; rfl⟩
    | true =>
      rw [c] at hb
      obtain ⟨q2, q3, q4, e2⟩ := nmOut v kk es (some (.tup [.int i, s.d])) p3 p4 fun x hx => h x (List.mem_cons_of_mem _ hx)
      exact ⟨q2, q3, q4, by rw [Bool.true_and, forL_cons _ _ _ _ _ _ _ hg hb, e2]⟩
theorem named_eq (kk : List Str) {ks : List Str} (es : List D) (h : ∀ d ∈ es, EnV ks d) : m__law_named [.lst es, lw_ kk] = .ok (.bl (es.all (envB kk))) [] := by
  obtain ⟨o2, o3, o4, e⟩ := nmOut (some (.lst es)) kk es none none none h
  simp only [m__law_named, nm_parts, fn_nw0]
  show fnE ((sSeq _ _) [some (.lst es), some (lw_ kk), none, none, none, none]) = _
  rw [ev_seq, ev_rf]
  show fnE ((((Res.ok es _).bind _)).bind _) = _
  rw [Res.bind_ok, e]
  cases es.all (envB kk) <;> rfl
end
end Gm
end
section
namespace Gm
open PySem DL Gx
noncomputable section
def kpG (adue named says book told : Fn) : M Fl := (sSeq (sAsg (eCall adue [] [.v (eV 1)] []) (gV 2))
  (sSeq (sAsg (eAnd (appM [.v (appM [.v (eV 1)] len3D), .v (eC (.int 150))] leD) (eAnd (appM [.v (appM [.v (eV 2)] len3D), .v (eC (.int 12))] leD) (eAnd (eCall named [] [.v (eV 1), .v (eV 0)] []) (eChain (eC (.int 1)) (appM [.v (eV 0)] len3D) (eC (.int 16)) leD leD)))) (gV 3))
  (sSeq (sAsg (eTup [(appM [.v (eV 0)] tupleD), (appM [.v (eV 1)] tupleD)]) (gV 4))
  (sSeq (sAsg (eIf (eTru (eV 3)) (eTup [(eTup [(appM [.v (eV 0)] len3D), (appM [.v (eV 1)] len3D), (appM [.v (eV 2)] len3D)]), (appM [.v (eV 2)] tupleD)]) (eC .non)) (gV 5))
  (sRet (eAnd (eCall says [] [.v (eCall book [] [.v (eV 4)] []), .v (eV 3)] []) (eCall told [] [.v (eV 4), .v (eV 5)] [])))))))
theorem kp_parts : g__law_kept = kpG m__law_ages_due m__law_named m__law_says m_is_book m__law_told := by
  simp only [g__law_kept, kpG]
theorem kp_run (adue named says book told : Fn) (kk : List Str) (es : List D) (A : List Int) (nm gd : Bool) (due : D) (h1 : adue [.lst es] = .ok (.lst (A.map .int)) []) (h2 : named [.lst es, lw_ kk] = .ok (.bl nm) [])
    (hg : gd = (decide (es.length ≤ 150) && (decide (A.length ≤ 12) && (nm && (decide (1 ≤ kk.length) && decide (kk.length ≤ 16))))))
    (hd : due = if gd = true then .tup [.tup [.int kk.length, .int es.length, .int A.length], .tup (A.map .int)] else .non)
    (h3 : ∀ b, says [.bl b, .bl b] = .ok (.bl true) []) (h4 : book [.tup [rw_ kk, .tup es]] = .ok (.bl gd) []) (h5 : told [.tup [rw_ kk, .tup es], due] = .ok (.bl true) []) :
    fnE (kpG adue named says book told [some (lw_ kk), some (.lst es), none, none, none, none]) = .ok (.bl true) [] := by
  have c1 : decide ((es.length : Int) ≤ 150) = decide (es.length ≤ 150) := by
    by_cases z : es.length ≤ 150
    · rw [decide_eq_true z, decide_eq_true (by omega)]
    · rw [decide_eq_false z, decide_eq_false (by omega)]
  have c2 : decide ((A.length : Int) ≤ 12) = decide (A.length ≤ 12) := by
    by_cases z : A.length ≤ 12
    · rw [decide_eq_true z, decide_eq_true (by omega)]
    · rw [decide_eq_false z, decide_eq_false (by omega)]
  have c3 : decide ((1 : Int) ≤ (kk.length : Int)) = decide (1 ≤ kk.length) := by
    by_cases z : 1 ≤ kk.length
    · rw [decide_eq_true z, decide_eq_true (by omega)]
    · rw [decide_eq_false z, decide_eq_false (by omega)]
  have c4 : decide ((kk.length : Int) ≤ 16) = decide (kk.length ≤ 16) := by
    by_cases z : kk.length ≤ 16
    · rw [decide_eq_true z, decide_eq_true (by omega)]
    · rw [decide_eq_false z, decide_eq_false (by omega)]
  have l1 : len3D [.lst es] = some (.int es.length) := by simp
  have l2 : len3D [.lst (A.map .int)] = some (.int A.length) := by simp
  have l3 : len3D [lw_ kk] = some (.int kk.length) := by simp [lw_]
  have lk2 : lenOk 2 = true := by decide
  have lk3 : lenOk 3 = true := by decide
  have t1 : tupleD [lw_ kk] = some (rw_ kk) := rfl
  have t2 : tupleD [.lst es] = some (.tup es) := rfl
  have t3 : tupleD [.lst (A.map .int)] = some (.tup (A.map .int)) := rfl
  have s1 : (sAsg (eCall adue [] [.v (eV 1)] []) (gV 2)) [some (lw_ kk), some (.lst es), none, none, none, none] = .ok .nx [some (lw_ kk), some (.lst es), some (.lst (A.map .int)), none, none, none] := by simp [evalA, fillA, h1]
  have s2 : (sAsg (eAnd (appM [.v (appM [.v (eV 1)] len3D), .v (eC (.int 150))] leD) (eAnd (appM [.v (appM [.v (eV 2)] len3D), .v (eC (.int 12))] leD) (eAnd (eCall named [] [.v (eV 1), .v (eV 0)] []) (eChain (eC (.int 1)) (appM [.v (eV 0)] len3D) (eC (.int 16)) leD leD)))) (gV 3)) [some (lw_ kk), some (.lst es), some (.lst (A.map .int)), none, none, none] = .ok .nx [some (lw_ kk), some (.lst es), some (.lst (A.map .int)), some (.bl gd), none, none] := by
    subst hg
    cases z1 : decide (es.length ≤ 150) with
    | false => simp [l1, c1, z1]
    | true =>
      cases z2 : decide (A.length ≤ 12) with
      | false => simp [l1, l2, c1, c2, z1, z2]
      | true =>
        cases nm with
        | false => simp [l1, l2, c1, c2, z1, z2, evalA, fillA, h2]
        | true =>
          cases z3 : decide (1 ≤ kk.length) with
          | false => simp [l1, l2, l3, c1, c2, c3, c4, z1, z2, z3, evalA, fillA, h2]
          | true => cases z4 : decide (kk.length ≤ 16) <;> simp [l1, l2, l3, c1, c2, c3, c4, z1, z2, z3, z4, evalA, fillA, h2]
  have s3 : (sAsg (eTup [(appM [.v (eV 0)] tupleD), (appM [.v (eV 1)] tupleD)]) (gV 4)) [some (lw_ kk), some (.lst es), some (.lst (A.map .int)), some (.bl gd), none, none] = .ok .nx [some (lw_ kk), some (.lst es), some (.lst (A.map .int)), some (.bl gd), some (.tup [rw_ kk, .tup es]), none] := by simp [t1, t2, lk2]
  have s4 : (sAsg (eIf (eTru (eV 3)) (eTup [(eTup [(appM [.v (eV 0)] len3D), (appM [.v (eV 1)] len3D), (appM [.v (eV 2)] len3D)]), (appM [.v (eV 2)] tupleD)]) (eC .non)) (gV 5)) [some (lw_ kk), some (.lst es), some (.lst (A.map .int)), some (.bl gd), some (.tup [rw_ kk, .tup es]), none] =
      .ok .nx [some (lw_ kk), some (.lst es), some (.lst (A.map .int)), some (.bl gd), some (.tup [rw_ kk, .tup es]), some due] := by
    subst hd
    cases gd with
    | true => simp [l1, l2, l3, t3, lk2, lk3]
    | false => simp
  unfold kpG
  rw [ev_seq, s1, Res.bind_ok]
  show fnE ((sSeq _ _) _) = _
  rw [ev_seq, s2, Res.bind_ok]
  show fnE ((sSeq _ _) _) = _
  rw [ev_seq, s3, Res.bind_ok]
  show fnE ((sSeq _ _) _) = _
  rw [ev_seq, s4, Res.bind_ok]
  simp [evalA, fillA, h3, h4, h5]
structure EsP (ks : List Str) (es : List D) : Prop where
  en : ∀ d ∈ es, EnV ks d
  pl : ∀ d ∈ es, pln 8 d = true
  nd : es.Nodup
  few : es.length ≤ 900
  ag : (tA es).length < 64
theorem kept_ok (kk ks : List Str) (es : List D) (hk : ∀ x ∈ kk, kS x = true) (ha : ascD (kk.map .str) = true) (hh : kk.length ≤ 24) (h : EsP ks es) : m__law_kept [lw_ kk, .lst es] = .ok (.bl true) [] := by
  have h1 := ages_due_eq es h.en (by have := h.few; omega)
  have h2 := named_eq kk es h.en
  have hl : (srtI (tA es)).length = (tA es).length := List.length_mergeSort _
  have hkb := row_bnd hk (by omega)
  have heb : bnd (.tup es) = true := bnd_tup.mpr ⟨by have := h.few; omega, fun d hd => pln_bnd 8 d (h.pl d hd)⟩
  have e : m__law_kept [lw_ kk, .lst es] = fnE (g__law_kept [some (lw_ kk), some (.lst es), none, none, none, none]) := fn_nw0 6 g__law_kept [lw_ kk, .lst es]
  rw [e, kp_parts]
  by_cases hp : BookPre kk es
  · have hb := book_yes kk es hp hkb h.pl h.ag
    rw [decide_eq_true h.nd, Bool.true_and] at hb
    have hlo : 1 ≤ kk.length := by
      have := hp.row
      simp only [rw_, rowD, List.length_map, Bool.and_eq_true, decide_eq_true_eq] at this
      have := this.1.1.1
      omega
    have hall : es.all (envB kk) = true := List.all_eq_true.mpr fun d hd => envB_iff.mpr (hp.en d hd)
    have hgd : decide ((tA es).length ≤ 12) = (decide (es.length ≤ 150) && (decide ((srtI (tA es)).length ≤ 12) && (es.all (envB kk) && (decide (1 ≤ kk.length) && decide (kk.length ≤ 16))))) := by
      rw [hl, hall, decide_eq_true hp.few, decide_eq_true hlo, decide_eq_true hp.hi]
      simp
    refine kp_run _ _ _ _ _ kk es (srtI (tA es)) (es.all (envB kk)) (decide ((tA es).length ≤ 12)) _ h1 h2 hgd rfl says_eq hb ?_
    cases z : decide ((tA es).length ≤ 12) with
    | true =>
      rw [z] at hb
      have := told_good kk es hp h.pl h.ag hb
      rw [if_pos rfl, hl]
      exact this
    | false =>
      rw [z] at hb
      rw [if_neg (by simp)]
      exact told_bad _ hb
  · have hb : m_is_book [.tup [rw_ kk, .tup es]] = .ok (.bl false) [] := book_two (rw_ kk) (.tup es) hkb heb fun ⟨k2, e2, h1, h2, h3⟩ => by
      injection h2 with h2
      subst h2
      have : kk = k2 := by
        injection h1 with h1
        exact strs_inj h1
      subst this
      exact hp h3
    refine kp_run _ _ _ _ _ kk es (srtI (tA es)) (es.all (envB kk)) false _ h1 h2 ?_ rfl says_eq hb (by rw [if_neg (by simp)]; exact told_bad _ hb)
    cases z : (decide (es.length ≤ 150) && (decide ((srtI (tA es)).length ≤ 12) && (es.all (envB kk) && (decide (1 ≤ kk.length) && decide (kk.length ≤ 16))))) with
    | false => rfl
    | true =>
      simp only [Bool.and_eq_true, decide_eq_true_eq, List.all_eq_true] at z
      obtain ⟨z1, z2, z3, z4, z5⟩ := z
      exact absurd ⟨row_ok hk ha (by omega) hh, z1, z5, fun d hd => envB_iff.mp (z3 d hd)⟩ hp
end
end Gm
end
section
namespace Gm
open PySem DL Gx
noncomputable section
/-! drawn statements -/
structure KsP (ks : List Str) : Prop where
  kS : ∀ x ∈ ks, kS x = true
  asc : ascD (ks.map .str) = true
  lo : 1 ≤ ks.length
  hi : ks.length ≤ 24
def TmV (ks : List Str) (B : List Int) : Tm → Prop
  | .age n => n ∈ B ∧ 0 ≤ n ∧ n ≤ 9999
  | .par a b => a ∈ ks ∧ b ∈ ks
def TmP (ks : List Str) (B : List Int) (v : D) : Prop := ∃ t : Tm, v = t.d ∧ TmV ks B t
structure StV (ks : List Str) (B : List Int) (s : Sta) : Prop where
  ok : s.ok
  st : stD s.d = true
  nm : ∀ x ∈ s.names, x ∈ ks
  ag : ∀ a ∈ s.ages, a ∈ B
  pl : pln 3 s.d = true
def StP (ks : List Str) (B : List Int) (v : D) : Prop := ∃ s : Sta, v = s.d ∧ StV ks B s
theorem sf_kd (ns : List Int) {ks : List Str} (h : KsP ks) : SF ns m__law_pick [lw_ ks] fun v => ∃ x, v = .str x ∧ x ∈ ks := (sf_pick ns (ks.map .str) (by rw [List.length_map]; exact h.lo) (by have := h.hi; rw [List.length_map]; omega)).mono fun v hv => by
  obtain ⟨x, hx, rfl⟩ := List.mem_map.mp hv
  exact ⟨x, rfl, hx⟩
theorem sf_term (ns : List Int) (ks : List Str) (B : List Int) (h : KsP ks) (hB : ∀ a ∈ B, 0 ≤ a ∧ a ≤ 9999) (hB0 : 0 < B.length) (hB1 : B.length ≤ 1000) : SF ns m__law_term [lw_ ks, .lst (B.map .int)] (TmP ks B) := by
  have hl2 : lenOk 2 = true := by decide
  have hl3 : lenOk 3 = true := by decide
  refine SF.mk (SM.seq (SM.sif (SM.tst (SM.app2 (SM.digit (by simp) 3 (by decide) (by decide) (SM.c ⟨rfl, by simp, fun i hi0 hi1 => SM.c ⟨_, eq_ints i 0, _, rfl, ?_, ?_⟩⟩))))))
  · intro _
    refine SM.ret (SM.tup (SM.V1 (SM.c (SM.V1 (SM.call1 (by simp) (SM.v (d := .lst (B.map .int)) rfl ⟨by simp, (sf_pick ns (B.map .int) (by simpa using hB0) (by rw [List.length_map]; omega)).mono fun v hv => SM.V0 ⟨hl2, by simp, _, rfl, ?_⟩⟩))))))
    obtain ⟨n, hn, rfl⟩ := List.mem_map.mp hv
    exact ⟨.age n, rfl, hn, hB n hn⟩
  · intro _
    refine SM.nx (SM.seq (SM.asg (SM.call1 (by simp) (SM.v (d := lw_ ks) rfl ⟨by simp, (sf_kd ns h).mono fun v hv => ?_⟩))))
    obtain ⟨x, rfl, hx⟩ := hv
    refine SM.seq (SM.sif (SM.tst (SM.app2 (SM.digit (by simp) 9 (by decide) (by decide) (SM.c ⟨rfl, by simp, fun i hi0 hi1 => SM.c ⟨_, eq_ints i 0, _, rfl, ?_, ?_⟩⟩)))))
    · intro _
      exact SM.ret (SM.tup (SM.V1 (SM.c (SM.V1 (SM.v (d := .str x) rfl (SM.V1 (SM.v (d := .str x) rfl (SM.V0 ⟨hl3, by simp, _, rfl, .par x x, rfl, hx, hx⟩))))))))
    · intro _
      refine SM.nx (SM.ret (SM.tup (SM.V1 (SM.c (SM.V1 (SM.v (d := .str x) rfl (SM.V1 (SM.call1 (by simp) (SM.v (d := lw_ ks) rfl ⟨by simp, (sf_kd ns h).mono fun v hv => ?_⟩)))))))))
      obtain ⟨y, rfl, hy⟩ := hv
      exact SM.V0 ⟨hl3, by simp, _, rfl, .par x y, rfl, hx, hy⟩
theorem tm_good {ks : List Str} {B : List Int} (h : KsP ks) {t : Tm} (ht : TmV ks B t) : termD t.d = true ∧ pln 2 t.d = true ∧ (∀ x ∈ t.names, x ∈ ks) ∧ ∀ a ∈ t.ages, a ∈ B := by
  have hp1 : PyData.strOk "age" = true := by decide +kernel
  have hp2 : PyData.strOk "parting" = true := by decide +kernel
  cases t with
  | age n =>
    refine ⟨by simp [Tm.d, termD, inR, ht.2.1, ht.2.2], by simp [Tm.d, pln, plnL, hp1]; decide +kernel, fun x hx => (by cases hx), fun a ha => ?_⟩
    simp only [Tm.ages] at ha
    split at ha
    · rw [List.mem_singleton.mp ha]; exact ht.1
    · cases ha
  | par a b =>
    have h1 := h.kS a ht.1
    have h2 := h.kS b ht.2
    have hn : ¬ (Str.ofString "parting" = Str.ofString "age") := by decide
    refine ⟨by simp [Tm.d, termD, kD, h1, h2, hn], ?_, fun x hx => ?_, fun x hx => (by cases hx)⟩
    · simp only [Tm.d, pln, plnL, kS_pln 1 h1, kS_pln 1 h2, hp2, Bool.and_true, Bool.and_eq_true, decide_eq_true_eq]
      have k1 := kS_pln 1 h1
      have k2 := kS_pln 1 h2
      simp only [pln, Bool.and_eq_true, decide_eq_true_eq] at k1 k2
      exact ⟨by simp, by decide, k1, k2⟩
    · simp only [Tm.names, List.mem_cons, List.not_mem_nil, or_false] at hx
      rcases hx with rfl | rfl
      · exact ht.1
      · exact ht.2
theorem st_pl {ks : List Str} {B : List Int} (h : KsP ks) {w : Str} {t u : Tm} (hw : w = "older" ∨ w = "as old") (ht : TmV ks B t) (hu : TmV ks B u) : StV ks B (.pl w t u) := by
  obtain ⟨a1, a2, a3, a4⟩ := tm_good h ht
  obtain ⟨b1, b2, b3, b4⟩ := tm_good h hu
  have hp : plainW w = true := by rcases hw with rfl | rfl <;> decide
  have hs : pln 2 (.str w) = true := by rcases hw with rfl | rfl <;> decide +kernel
  refine ⟨hw, by simp only [Sta.d, stD, hp, if_true, a1, b1, Bool.and_self], fun x hx => ?_, fun x hx => ?_, ?_⟩
  · exact (List.mem_append.mp hx).elim (a3 x) (b3 x)
  · exact (List.mem_append.mp hx).elim (a4 x) (b4 x)
  · rw [Sta.d, pln, Bool.and_eq_true, decide_eq_true_eq]
    exact ⟨by simp, by simp only [plnL, hs, a2, b2, Bool.and_self]⟩
theorem rw_pln {xs : List Str} (h : ∀ x ∈ xs, kS x = true) (hl : xs.length ≤ 1000) : pln 2 (rw_ xs) = true := by
  rw [rw_, pln, Bool.and_eq_true, decide_eq_true_eq]
  exact ⟨by simpa using hl, plnL_of fun d hd => by
    obtain ⟨x, hx, rfl⟩ := List.mem_map.mp hd
    exact kS_pln 1 (h x hx)⟩
theorem disj_rw (xs ys : List Str) (h : ∀ y ∈ ys, y ∉ xs) : disjD (rw_ xs) (rw_ ys) = true := by
  simp only [rw_, disjD, List.all_map, List.all_eq_true, Function.comp, Bool.not_eq_true', List.any_map]
  intro y hy
  rw [Bool.eq_false_iff]
  intro z
  simp only [List.any_eq_true, Function.comp, eqB_ss, decide_eq_true_eq] at z
  obtain ⟨x, hx, e⟩ := z
  exact h y hy (e ▸ hx)
theorem st_mark {ks ones zs : List Str} {B : List Int} (h : KsP ks) (h1 : ∀ x ∈ ones, x ∈ ks) (h2 : ascD (ones.map .str) = true) (h3 : 2 ≤ ones.length) (h4 : ones.length ≤ ks.length) (hz : zs.Sublist ks) (hd : ∀ y ∈ zs, y ∉ ones) : StV ks B (.mark ones zs) := by
  have hh := h.hi
  have ho : ∀ x ∈ ones, kS x = true := fun x hx => h.kS x (h1 x hx)
  have hzk : ∀ x ∈ zs, kS x = true := fun x hx => h.kS x (hz.subset hx)
  have hzl := hz.length_le
  have hp : plainW "mark" = false := by decide
  have hs : pln 2 (.str "mark") = true := by decide +kernel
  have r1 : rowD (rw_ ones) 2 = true := row_ok ho h2 (by omega) (by omega)
  have r2 : rowD (rw_ zs) 0 = true := row_ok hzk (asc_sub h.asc hz) (by omega) (by omega)
  refine ⟨⟨by omega, by omega⟩, by simp [Sta.d, stD, hp, r1, r2, disj_rw ones zs hd], fun x hx => ?_, fun x hx => (by cases hx), ?_⟩
  · exact (List.mem_append.mp hx).elim (h1 x) fun z => hz.subset z
  · rw [Sta.d, pln, Bool.and_eq_true, decide_eq_true_eq]
    exact ⟨by simp, by simp only [plnL, hs, rw_pln ho (by omega), rw_pln hzk (by omega), Bool.and_self]⟩
theorem st_group {ks ones : List Str} {B : List Int} (h : KsP ks) (h1 : ∀ x ∈ ones, x ∈ ks) (h2 : ascD (ones.map .str) = true) (h3 : 2 ≤ ones.length) (h4 : ones.length ≤ ks.length) : StV ks B (.grp ones) := by
  have hh := h.hi
  have ho : ∀ x ∈ ones, kS x = true := fun x hx => h.kS x (h1 x hx)
  have hs : pln 2 (.str "group") = true := by decide +kernel
  have r1 : rowD (rw_ ones) 2 = true := row_ok ho h2 (by omega) (by omega)
  refine ⟨by show ones.length ≤ 24; omega, by simp [Sta.d, stD, r1], h1, fun x hx => (by cases hx), ?_⟩
  rw [Sta.d, pln, Bool.and_eq_true, decide_eq_true_eq]
  exact ⟨by simp, by simp only [plnL, hs, rw_pln ho (by omega), Bool.and_self]⟩
theorem notIn_rw (x : Str) (ks : List Str) : notIn3D [.str x, rw_ ks] = some (.bl (!decide (x ∈ ks))) := by
  show notD1 (in3D [.str x, rw_ ks]) = _
  rw [in_rw]
  rfl
theorem sf_statement (ns : List Int) (ks : List Str) (B : List Int) (h : KsP ks) (hB : ∀ a ∈ B, 0 ≤ a ∧ a ≤ 9999) (hB0 : 0 < B.length) (hB1 : B.length ≤ 1000) : SF ns m__law_statement [lw_ ks, .lst (B.map .int)] (StP ks B) := by
  have h1 := h.lo
  have h3 := h.hi
  have hl2 : lenOk 2 = true := by decide
  have hl3 : lenOk 3 = true := by decide
  have hlen : len3D [lw_ ks] = some (.int ks.length) := by simp [lw_]
  refine SF.mk (SM.seq (SM.asg (SM.digit (by simp) 8 (by decide) (by decide) (SM.c ⟨rfl, by simp, fun i hi0 hi1 => ?_⟩))))
  refine SM.retIf (b := decide (i < 6) || decide (ks.length = 1)) (fun s => ?_) (fun _ => ?_) (fun hb => ?_)
  · have c1 : decide ((ks.length : Int) = 1) = decide (ks.length = 1) := by
      by_cases z : ks.length = 1
      · rw [decide_eq_true z, decide_eq_true (by omega)]
      · rw [decide_eq_false z, decide_eq_false (by omega)]
    by_cases z : i < 6
    · simp [z]
    · cases c : decide (ks.length = 1) <;> rw [c] at c1 <;> simp [hlen, c1, c, z] <;> simpa using c
  · refine SM.tup (SM.V1 (SM.item (by simp) (SM.det [.str "older", .str "as old"] _ (fun s => rfl) ⟨by simp, by simp, fun w hw => ?_⟩)))
    refine SM.V1 (SM.call2 (by simp) (SM.v (d := lw_ ks) rfl (SM.v (d := .lst (B.map .int)) rfl ⟨by simp, (sf_term ns ks B h hB hB0 hB1).mono fun t ht => ?_⟩)))
    refine SM.V1 (SM.call2 (by simp) (SM.v (d := lw_ ks) rfl (SM.v (d := .lst (B.map .int)) rfl ⟨by simp, (sf_term ns ks B h hB hB0 hB1).mono fun u hu => ?_⟩)))
    refine SM.V0 ⟨hl3, by simp, _, rfl, ?_⟩
    obtain ⟨t, rfl, ht⟩ := ht
    obtain ⟨u, rfl, hu⟩ := hu
    simp only [List.mem_cons, List.not_mem_nil, or_false] at hw
    rcases hw with rfl | rfl
    · exact ⟨.pl "older" t u, rfl, st_pl h (.inl rfl) ht hu⟩
    · exact ⟨.pl "as old" t u, rfl, st_pl h (.inr rfl) ht hu⟩
  · simp only [Bool.or_eq_false_iff, decide_eq_false_iff_not] at hb
    have hK : Kds ks := ⟨h.kS, h.asc, by omega, h.hi⟩
    refine SM.seq (SM.asg (SM.call2 (by simp) (SM.v (d := lw_ ks) rfl (SM.c ⟨by simp, (sf_some ns ks 2 hK (by omega)).mono fun v hv => ?_⟩))))
    obtain ⟨ones, rfl, o1, o2, o3, o4⟩ := hv
    refine SM.retIf (b := decide (i = 6)) (fun s => by simp) (fun _ => ?_) (fun _ => ?_)
    · exact SM.tup (SM.V1 (SM.c (SM.V1 (SM.v (d := rw_ ones) rfl (SM.V0 ⟨hl2, by simp, _, rfl, .grp ones, rfl, st_group h o1 o2 o3 o4⟩)))))
    · refine SM.seq (SM.asg (SM.item (by simp) (SM.det [.int 1, .int 2, .int 4] _ (fun s => rfl) ⟨by simp, by simp, fun v hv => ?_⟩)))
      obtain ⟨m, rfl, hm0, hm1⟩ : ∃ m : Int, v = .int m ∧ 0 < m ∧ m < 1000 := by
        simp only [List.mem_cons, List.not_mem_nil, or_false] at hv
        rcases hv with rfl | rfl | rfl
        · exact ⟨1, rfl, by decide, by decide⟩
        · exact ⟨2, rfl, by decide, by decide⟩
        · exact ⟨4, rfl, by decide, by decide⟩
      refine SM.ret (SM.tup (SM.V1 (SM.c (SM.V1 (SM.v (d := rw_ ones) rfl (SM.V1 (SM.app1 (SM.new (SM.filt (ds := ks.map .str) (by simp) (by decide) (fun s => by simp [lw_]) (by simp; omega) (fun d => ∀ x, d = .str x → x ∉ ones) (fun d hd => ?_) fun ys hs hy => ?_)))))))))
      · obtain ⟨x, hx, rfl⟩ := List.mem_map.mp hd
        refine SM.tand (SM.tst (SM.app2 (SM.v (d := .str x) rfl (SM.v (d := rw_ ones) rfl ⟨_, notIn_rw x ones, _, rfl, fun hb => ?_, fun _ => ⟨rfl, fun z => by cases z⟩⟩))))
        refine SM.tst (SM.app2 (SM.digit (by simp) m hm0 (by omega) (SM.v (d := .int m) rfl ⟨rfl, by simp, fun i _ _ => SM.c ⟨_, eq_ints i 0, _, rfl, rfl, fun _ y e => ?_⟩⟩)))
        cases e
        simpa using hb
      · obtain ⟨zs, hz, rfl⟩ := sub_strs hs
        refine ⟨_, rfl, .tup (zs.map .str), rfl, SM.V0 ⟨hl3, by simp, _, rfl, .mark ones zs, rfl, st_mark h o1 o2 o3 o4 hz fun y hy' => hy (.str y) (List.mem_map_of_mem hy') y rfl⟩⟩
end
end Gm
end
section
namespace Gm
open PySem DL Gx
noncomputable section
/-! drawn ages -/
structure AgP (A : List Int) : Prop where
  nd : A.Nodup
  few : A.length ≤ 13
  lo : ∀ a ∈ A, 1 ≤ a ∧ a ≤ 9999
theorem map_nodup {α β : Type} (f : α → β) : ∀ (xs : List α), xs.Nodup → (∀ a ∈ xs, ∀ b ∈ xs, f a = f b → a = b) → (xs.map f).Nodup
  | [], _, _ => List.nodup_nil
  | x :: xs, h, hi => by
    rw [List.nodup_cons] at h
    rw [List.map_cons, List.nodup_cons]
    refine ⟨fun hm => ?_, map_nodup f xs h.2 fun a ha b hb => hi a (List.mem_cons_of_mem _ ha) b (List.mem_cons_of_mem _ hb)⟩
    obtain ⟨y, hy, e⟩ := List.mem_map.mp hm
    exact h.1 (hi y (List.mem_cons_of_mem _ hy) x (List.mem_cons_self ..) e ▸ hy)
def agF (f st : Int) (k : Nat) : Int := 1 + (f + (k : Int) * st) % 9999
theorem agF_ok (f st : Int) (n : Nat) (hn : n ≤ 13) (hs : st = 1 ∨ st = 37 ∨ st = 400) : AgP ((List.range n).map (agF f st)) := by
  refine ⟨map_nodup _ _ List.nodup_range fun a ha b hb e => ?_, by rw [List.length_map, List.length_range]; exact hn, fun a ha => ?_⟩
  · rw [List.mem_range] at ha hb
    simp only [agF] at e
    rcases hs with rfl | rfl | rfl <;> omega
  · obtain ⟨k, _, rfl⟩ := List.mem_map.mp ha
    simp only [agF]
    omega
theorem sf_ages (ns : List Int) : SF ns m__law_ages [] fun v => ∃ A : List Int, v = .lst (A.map .int) ∧ AgP A := by
  refine SF.mk (SM.seq (SM.asg (SM.digit (by simp) 9999 (by decide) (by decide) (SM.c ⟨rfl, by simp, fun f hf0 hf1 => ?_⟩))))
  refine SM.seq (SM.asg (SM.item (by simp) (SM.det [.int 1, .int 37, .int 400] _ (fun s => rfl) ⟨by simp, by simp, fun v hv => ?_⟩)))
  obtain ⟨st, rfl, hst⟩ : ∃ st : Int, v = .int st ∧ (st = 1 ∨ st = 37 ∨ st = 400) := by
    simp only [List.mem_cons, List.not_mem_nil, or_false] at hv
    rcases hv with rfl | rfl | rfl
    · exact ⟨1, rfl, .inl rfl⟩
    · exact ⟨37, rfl, .inr (.inl rfl)⟩
    · exact ⟨400, rfl, .inr (.inr rfl)⟩
  refine SM.seq (SM.asg (SM.item (by simp) ?_))
  refine SM.V1 (SM.c (SM.V1 (SM.c (SM.V1 (SM.c (SM.V1 (SM.c (SM.V1 (SM.c (SM.V1 (SM.c (SM.V1 (SM.digit (by simp) 13 (by decide) (by decide) (SM.c ⟨rfl, by simp, fun i hi0 hi1 => SM.V0 ⟨by simp, by simp, fun v hv => ?_⟩⟩)))))))))))))) 
  obtain ⟨n, rfl, hn⟩ : ∃ n : Nat, v = .int n ∧ n ≤ 13 := by
    simp only [List.mem_cons, List.not_mem_nil, or_false] at hv
    rcases hv with rfl | rfl | rfl | rfl | rfl | rfl | rfl
    · exact ⟨0, rfl, by decide⟩
    · exact ⟨1, rfl, by decide⟩
    · exact ⟨11, rfl, by decide⟩
    · exact ⟨12, rfl, by decide⟩
    · exact ⟨12, rfl, by decide⟩
    · exact ⟨13, rfl, by decide⟩
    · exact ⟨i.toNat, by rw [Int.toNat_of_nonneg hi0], by omega⟩
  refine SM.ret (SM.new (SM.same (.lst ((((List.range n).map (agF f st))).map .int)) (fun s => ?_) ⟨_, rfl, by simp, _, rfl, _, rfl, agF_ok f st n hn hst⟩))
  have hint : ∀ i : Int, intD [.int i] = some (.int i) := fun i => rfl
  have hmod : ∀ i : Int, modD [.int i, .int 9999] = some (.int (i % 9999)) := fun i => rfl
  have hmul : ∀ i : Int, mulD [.int i, .int st] = some (.int (i * st)) := fun i => by
    have : decide (st.natAbs < 2 ^ 64) = true := decide_eq_true (by rcases hst with rfl | rfl | rfl <;> decide)
    simp only [mulD, this, Bool.or_true, if_true]
  have hr := eLc_all (i := 4) (ρ := [some s, some (.int f), some (.int st), some (.int n), none]) (f := iRange1 (eV 3)) (te := (appM [.v (eC (.int 1)), .v (appM [.v (appM [.v (appM [.v (eV 1), .v (appM [.v (eV 4), .v (eV 2)] mulD)] addD)] intD), .v (eC (.int 9999))] modD)] addD))
    (F := fun d => match d with | .int k => .int (1 + (f + k * st) % 9999) | d => d) (ds := rangeL 0 n) (range1_eq n (by simp) (by omega)) (by rw [rangeL_len]; omega) (by simp) (by
      intro d hd
      simp only [rangeL, List.mem_map, List.mem_range] at hd
      obtain ⟨j, _, rfl⟩ := hd
      simp [hint, hmod, hmul])
  have e : (rangeL 0 n).map (fun d => match d with | .int k => D.int (1 + (f + k * st) % 9999) | d => d) = ((List.range n).map (agF f st)).map .int := by
    simp only [rangeL, List.map_map]
    refine List.map_congr_left fun k _ => ?_
    simp [agF]
  rw [e] at hr
  exact hr
/-! drawn terms -/
def TsP (ks : List Str) (B : List Int) (ts : List Tm) : Prop := ∀ t ∈ ts, TmV ks B t
theorem sf_terms (ns : List Int) (ks : List Str) (A : List Int) (h : KsP ks) (hA : AgP A) : SF ns m__law_terms [lw_ ks, .lst (A.map .int)] fun v => ∃ ts : List Tm, v = .lst (ts.map Tm.d) ∧ 0 < ts.length ∧ ts.length ≤ 40 ∧ TsP ks (0 :: A) ts := by
  have h1 := h.lo
  have hAl := hA.few
  obtain ⟨k0, kr, rfl⟩ : ∃ k0 kr, ks = k0 :: kr := by
    cases ks with
    | nil => simp at h1
    | cons a b => exact ⟨a, b, rfl⟩
  have hi : ix2D [lw_ (k0 :: kr), .int 0] = some (.str k0) := ixL _ 0 _ rfl
  have hl1 : lenOk 1 = true := by decide
  have hl2 : lenOk 2 = true := by decide
  have hl3 : lenOk 3 = true := by decide
  have hadd : addD [.lst [.int 0], .lst (A.map .int)] = some (.lst ((0 :: A).map .int)) := by
    have := lst_add [.int 0] (A.map .int) (by simp; omega)
    exact this
  have hcat : catD [.lst ((0 :: A).map fun a => (Tm.age a).d), .lst [(Tm.par k0 k0).d]] = some (.lst (((0 :: A).map Tm.age ++ [Tm.par k0 k0]).map Tm.d)) := by
    have hk : lenOk (((0 :: A).map fun a => (Tm.age a).d).length + [(Tm.par k0 k0).d].length) = true := decide_eq_true (by simp; omega)
    simp only [catD, hk, if_true, List.map_append, List.map_map]
    rfl
  refine SF.mk (SM.seq (SM.asgO (SM.app2 (SM.new (SM.same (.lst ((0 :: A).map fun a => (Tm.age a).d)) (fun s => ?_) ⟨_, rfl, SM.same (.lst [(Tm.par k0 k0).d]) (fun s => ?_) ⟨_, hcat, ?_⟩⟩)))))
  · have hr := eLc_all (i := 6) (ρ := [some s, some (lw_ (k0 :: kr)), some (.lst (A.map .int)), none, none, none, none]) (f := iSeq2 (appM [.v (eNew (eLst [(eC (.int 0))])), .v (eV 2)] addD)) (te := eTup [(eC (.str "age")), (eV 6)]) (F := fun d => .tup [.str "age", d]) (ds := (0 :: A).map .int)
      (by simp [hl1, hadd]) (by simp; omega) (by simp) (by
        intro d hd
        simp [hl2])
    rw [List.map_map] at hr
    exact hr
  · simp [hi, hl1, hl3, Tm.d]
  · have nq : ∀ {ts : List Tm}, TsP (k0 :: kr) (0 :: A) ts → ∀ d ∈ ts.map Tm.d, pln 2 d = true := fun {ts} ht d hd => by
      obtain ⟨t, hm, rfl⟩ := List.mem_map.mp hd
      exact (tm_good h (ht t hm)).2.1
    refine SM.seq (SM.sFor (SM.same (rangeL 0 20) (fun s => by simp [iRange1]) ?_))
    refine SM.forL (by decide) (fun rem r => ∃ (ts : List Tm) (o4 o5 : Option D), r = [none, some (lw_ (k0 :: kr)), some (.lst (A.map .int)), some (.lst (ts.map Tm.d)), o4, o5, none] ∧ 0 < ts.length ∧ ts.length + rem.length ≤ 40 ∧ TsP (k0 :: kr) (0 :: A) ts) ?_ ?_ _ _ ⟨(0 :: A).map Tm.age ++ [Tm.par k0 k0], none, none, rfl, by simp, ?_, ?_⟩
    · rintro d rem _ ⟨ts, o4, o5, rfl, h0, hl, ht⟩
      rw [List.length_cons] at hl
      refine SM.seq (SM.asg (SM.tup (SM.V1 (SM.c (SM.V1 (SM.call1 (by simp) (SM.v (d := lw_ (k0 :: kr)) rfl ⟨by simp, (sf_kd ns h).mono fun v hv => ?_⟩)))))))
      obtain ⟨x, rfl, hx⟩ := hv
      refine SM.V1 (SM.call1 (by simp) (SM.v (d := lw_ (k0 :: kr)) rfl ⟨by simp, (sf_kd ns h).mono fun v hv => ?_⟩))
      obtain ⟨y, rfl, hy⟩ := hv
      refine SM.V0 ⟨hl3, ?_⟩
      have hv : TmV (k0 :: kr) (0 :: A) (.par x y) := ⟨hx, hy⟩
      obtain ⟨b, eb, hb⟩ := notIn_lst (n := 2) (by decide) (tm_good h hv).2.1 (nq ht)
      show SM 0 ns _ [none, some (lw_ (k0 :: kr)), some (.lst (A.map .int)), some (.lst (ts.map Tm.d)), some d, some (Tm.par x y).d, none] _
      cases b with
      | false => exact SM.same .nx (fun s => by simp [eb]) ⟨ts, _, _, rfl, h0, by omega, ht⟩
      | true =>
        have hk : lenOk ((ts.map Tm.d).length + 1) = true := decide_eq_true (by rw [List.length_map]; omega)
        refine SM.det .nx [none, some (lw_ (k0 :: kr)), some (.lst (A.map .int)), some (.lst ((ts ++ [Tm.par x y]).map Tm.d)), some d, some (Tm.par x y).d, none] (fun s => ?_) ⟨ts ++ [Tm.par x y], _, _, rfl, by simp, by simp; omega, fun t hm => ?_⟩
        · rw [List.map_append, ev_sif]
          have ht : (eTst (appM [.v (eV 5), .p 3] notIn3D)) (List.set [none, some (lw_ (k0 :: kr)), some (.lst (A.map .int)), some (.lst (ts.map Tm.d)), some d, some (Tm.par x y).d, none] 0 (some s)) = .ok true (List.set [none, some (lw_ (k0 :: kr)), some (.lst (A.map .int)), some (.lst (ts.map Tm.d)), some d, some (Tm.par x y).d, none] 0 (some s)) := by simp [eb]
          rw [ht, Res.bind_ok, cnd_t]
          exact app_at (ds := ts.map Tm.d) (d := (Tm.par x y).d) (by simp) rfl hk
        · rcases List.mem_append.mp hm with hm | hm
          · exact ht t hm
          · rw [List.mem_singleton.mp hm]; exact hv
    · rintro _ ⟨ts, o4, o5, rfl, h0, hl, ht⟩
      exact SM.same (.rt (.lst (ts.map Tm.d))) (fun s => rfl) ⟨by simp, _, rfl, ts, rfl, h0, by omega, ht⟩
    · rw [rangeL_len]; simp; omega
    · intro t ht
      rcases List.mem_append.mp ht with ht | ht
      · obtain ⟨a, ha, rfl⟩ := List.mem_map.mp ht
        refine ⟨ha, ?_⟩
        rcases List.mem_cons.mp ha with rfl | ha
        · decide
        · have := hA.lo a ha
          omega
      · rw [List.mem_singleton.mp ht]
        exact ⟨List.mem_cons_self .., List.mem_cons_self ..⟩
end
end Gm
end
section
namespace Gm
open PySem DL Gx
noncomputable section
def enAges : M Fl := (sAsg (eCall m__law_ages [0] [.p 0] []) (gV 2))
def enF0 : M Fl := (sAsgO 3 (eLst []))
def enL10 : M Fl := (sAsg (eTup [(eC (.str "parting")), (eCall m__law_pick [0] [.p 0, .v (eV 1)] []), (eCall m__law_pick [0] [.p 0, .v (eV 1)] [])]) (gV 5))
def enL11 : M Fl := (sAsg (eCall m__law_pick [0] [.p 0, .v (eNew (eLst [(eTup [(eTup [(eC (.str "age")), (eV 4)]), (eV 5)]), (eTup [(eV 5), (eTup [(eC (.str "age")), (eV 4)])]), (eTup [(eTup [(eC (.str "age")), (eV 4)]), (eTup [(eC (.str "age")), (eC (.int 0))])])]))] []) (gV 6))
def enL12 : M Fl := (sApp 3 (eTup [(eCall m__law_next [0] [.p 0, .v (eC (.int 6))] []), (eTup [(eCall m__law_pick [0] [.p 0, .v (eNew (eLst [(eC (.str "older")), (eC (.str "as old"))]))] []), (appM [.v (eV 6), .v (eC (.int 0))] ix2D), (appM [.v (eV 6), .v (eC (.int 1))] ix2D)])]))
def enL1 : M Fl := (sFor (iSeq2 (eV 2)) (gV 4) (sSeq enL10 (sSeq enL11 enL12)))
def enL20 : M Fl := (sAsg (eTup [(eCall m__law_next [0] [.p 0, .v (eC (.int 6))] []), (eCall m__law_statement [0] [.p 0, .v (eV 1), .v (appM [.v (eNew (eLst [(eC (.int 0))])), .v (eV 2)] addD)] [])]) (gV 8))
def enL21 : M Fl := (sIf (eTst (appM [.v (eV 8), .p 3] notIn3D)) (sApp 3 (eV 8)) sNx)
def enL2 : M Fl := (sFor (iRange1 (eCall m__law_pick [0] [.p 0, .v (eNew (eLst [(eC (.int 0)), (eC (.int 2)), (eC (.int 5))]))] [])) (gV 7) (sSeq enL20 enL21))
def enT : M Fl := (sAsg (eCall m__law_terms [0] [.p 0, .v (eV 1), .v (eV 2)] []) (gV 9))
def enTot : M Fl := (sAsg (appM [.v (appM [.v (eC (.int 12)), .v (appM [.v (eV 9)] len3D)] mulD), .v (appM [.v (eV 9)] len3D)] mulD) (gV 10))
def enNum : M Fl := (sAsg (eCall m__law_next [0] [.p 0, .v (eV 10)] []) (gV 11))
def enMost : M Fl := (sAsg (eCall m__law_pick [0] [.p 0, .v (eNew (eLst [(eC (.int 0)), (eC (.int 30)), (eCall m__law_next [0] [.p 0, .v (eC (.int 150))] []), (eC (.int 149)), (eC (.int 150)), (eC (.int 150)), (eC (.int 151))]))] []) (gV 12))
def enK0 : M Fl := (sAsgO 13 eDct0)
def enFill : M Fl := (sForO 3 (gV 8) (sPutI 13 (eV 8) (eC (.bl true))))
def enL30 : M Fl := (sIf (eTst (appM [.v (appM [.p 3] len3D), .v (eV 12)] geD)) sBk sNx)
def enL31 : M Fl := (sAsg (appM [.v (appM [.v (appM [.v (eV 11), .v (eV 14)] addD)] intD), .v (eV 10)] modD) (gV 15))
def enL32 : M Fl := (sAsg (eNew (eLst [(appM [.v (eV 9), .v (appM [.v (appM [.v (appM [.v (eV 15), .v (eC (.int 12))] fdivD)] intD), .v (appM [.v (eV 9)] len3D)] modD)] ix2D), (appM [.v (eV 9), .v (appM [.v (eV 15), .v (appM [.v (eC (.int 12)), .v (appM [.v (eV 9)] len3D)] mulD)] fdivD)] ix2D)])) (gV 6))
def enL33 : M Fl := (sAsg (eTup [(appM [.v (appM [.v (eV 15)] intD), .v (eC (.int 6))] modD), (eTup [(appM [.v (eNew (eLst [(eC (.str "older")), (eC (.str "as old"))])), .v (appM [.v (appM [.v (appM [.v (eV 15), .v (eC (.int 6))] fdivD)] intD), .v (eC (.int 2))] modD)] ix2D), (appM [.v (eV 6), .v (eC (.int 0))] ix2D), (appM [.v (eV 6), .v (eC (.int 1))] ix2D)])]) (gV 8))
def enL34 : M Fl := (sIf (eTst (appM [.v (eV 8), .p 13] notIn3D)) (sSeq (sPutI 13 (eV 8) (eC (.bl true)))
  (sApp 3 (eV 8))) sNx)
def enL3 : M Fl := (sFor (iRange1 (eV 10)) (gV 14) (sSeq enL30 (sSeq enL31 (sSeq enL32 (sSeq enL33 enL34)))))
def enStart : M Fl := (sAsg (eCall m__law_next [0] [.p 0, .v (appM [.v (appM [.p 3] len3D), .v (eC (.int 1))] addD)] []) (gV 16))
def enRet : M Fl := (sRet (appM [.v (appM [.p 3, .v (asInt (eV 16))] slDlo), .v (appM [.p 3, .v (asInt (eV 16))] slDhi)] addD))
theorem en_parts : g__law_entries = (sSeq enAges (sSeq enF0 (sSeq enL1 (sSeq enL2 (sSeq enT (sSeq enTot (sSeq enNum (sSeq enMost (sSeq enK0 (sSeq enFill (sSeq enL3 (sSeq enStart enRet)))))))))))) := by
  simp only [g__law_entries, enAges, enF0, enL10, enL11, enL12, enL1, enL20, enL21, enL2, enT, enTot, enNum, enMost, enK0, enFill, enL30, enL31, enL32, enL33, enL34, enL3, enStart, enRet]
def eE (ks : List Str) (A : List Int) (o3 o4 o5 o6 o7 o8 o9 o10 o11 o12 o13 o14 o15 o16 : Option D) : DL.Env := [none, some (lw_ ks), some (.lst (A.map .int)), o3, o4, o5, o6, o7, o8, o9, o10, o11, o12, o13, o14, o15, o16]
def EnD (ks : List Str) (A : List Int) (d : D) : Prop := ∃ (i : Int) (s : Sta), d = .tup [.int i, s.d] ∧ 0 ≤ i ∧ i ≤ 5 ∧ StV ks (0 :: A) s
theorem EnD.pl {ks : List Str} {A : List Int} {d : D} (h : EnD ks A d) : pln 4 d = true := by
  obtain ⟨i, s, rfl, _, _, hs⟩ := h
  rw [pln, Bool.and_eq_true, decide_eq_true_eq]
  exact ⟨by simp, by simp only [plnL, hs.pl, pln, Bool.and_self]⟩
theorem EnD.isT {ks : List Str} {A : List Int} {d : D} (h : EnD ks A d) : isT d = true := by
  obtain ⟨i, s, rfl, _⟩ := h
  rfl
theorem SM.app {p : Nat} {ns : List Int} {r : DL.Env} {i : Nat} {f : M D} {Q : Fl → DL.Env → Prop} (hp : p ≠ i) {ds0 : List D} (hi : r[i]? = some (some (.lst ds0))) (h : SM p ns f r fun d r1 => ∃ ds, r1[i]? = some (some (.lst ds)) ∧ lenOk (ds.length + 1) = true ∧ Q .nx (r1.set i (some (.lst (ds ++ [d]))))) : SM p ns (sApp i f) r Q := fun c k => by
  obtain ⟨c', k', d, r1, e, ds, h1, h2, q⟩ := h c k
  refine ⟨c', k', .nx, r1.set i (some (.lst (ds ++ [d]))), ?_, q⟩
  have a1 : (r.set p (some (Sm ns c k)))[i]? = some (some (.lst ds0)) := by rw [List.getElem?_set_ne hp]; exact hi
  have a2 : (r1.set p (some (Sm ns c' k')))[i]? = some (some (.lst ds)) := by rw [List.getElem?_set_ne hp]; exact h1
  simp only [sApp, a1, M.bind_app, e, Res.bind_ok, a2, h2, if_true]
  rw [List.set_comm _ _ hp]
/-- a drawn pair of terms, one of which is the age -/
def PairP (ks : List Str) (A : List Int) (a : Int) (x y : Tm) : Prop := TmV ks (0 :: A) x ∧ TmV ks (0 :: A) y ∧ x.ages ++ y.ages = [a]
theorem enL1_step (ns : List Int) (ks : List Str) (A : List Int) (h : KsP ks) (hA : AgP A) (a : Int) (ha : a ∈ A) (es : List D) (hl : es.length ≤ 1000) (o5 o6 : Option D) :
    SM 0 ns (sSeq enL10 (sSeq enL11 enL12)) (eE ks A (some (.lst es)) (some (.int a)) o5 o6 none none none none none none none none none none) fun fl r => fl = .nx ∧ ∃ d o5' o6', r = eE ks A (some (.lst (es ++ [d]))) (some (.int a)) o5' o6' none none none none none none none none none none ∧ EnD ks A d ∧ eA d = [a] := by
  have hl2 : lenOk 2 = true := by decide
  have hl3 : lenOk 3 = true := by decide
  have hk : lenOk (es.length + 1) = true := decide_eq_true (by omega)
  have hlo := hA.lo a ha
  have hav : TmV ks (0 :: A) (.age a) := ⟨List.mem_cons_of_mem _ ha, by omega, by omega⟩
  have h0v : TmV ks (0 :: A) (.age 0) := ⟨List.mem_cons_self .., by omega, by omega⟩
  have haa : (Tm.age a).ages = [a] := by simp only [Tm.ages]; rw [if_pos (by omega)]
  have ha0 : (Tm.age 0).ages = [] := rfl
  refine SM.seq (SM.asg (SM.tup (SM.V1 (SM.c (SM.V1 (SM.call1 (by simp [eE]) (SM.v (d := lw_ ks) rfl ⟨by simp [eE], (sf_kd ns h).mono fun v hv => ?_⟩)))))))
  obtain ⟨x, rfl, hx⟩ := hv
  refine SM.V1 (SM.call1 (by simp [eE]) (SM.v (d := lw_ ks) rfl ⟨by simp [eE], (sf_kd ns h).mono fun v hv => ?_⟩))
  obtain ⟨y, rfl, hy⟩ := hv
  refine SM.V0 ⟨hl3, ?_⟩
  show SM 0 ns _ (eE ks A (some (.lst es)) (some (.int a)) (some (Tm.par x y).d) o6 none none none none none none none none none none) _
  have hpv : TmV ks (0 :: A) (.par x y) := ⟨hx, hy⟩
  refine SM.seq (SM.asg (SM.item (by simp [eE]) (SM.same [.tup [(Tm.age a).d, (Tm.par x y).d], .tup [(Tm.par x y).d, (Tm.age a).d], .tup [(Tm.age a).d, (Tm.age 0).d]] (fun s => by simp [eE, hl2, Tm.d]) ⟨by simp, by simp [eE], fun v hv => ?_⟩)))
  obtain ⟨t, u, rfl, htu⟩ : ∃ t u : Tm, v = .tup [t.d, u.d] ∧ PairP ks A a t u := by
    simp only [List.mem_cons, List.not_mem_nil, or_false] at hv
    rcases hv with rfl | rfl | rfl
    · exact ⟨_, _, rfl, hav, hpv, by rw [haa]; rfl⟩
    · exact ⟨_, _, rfl, hpv, hav, by rw [haa]; rfl⟩
    · exact ⟨_, _, rfl, hav, h0v, by rw [haa]; rfl⟩
  show SM 0 ns _ (eE ks A (some (.lst es)) (some (.int a)) (some (Tm.par x y).d) (some (.tup [t.d, u.d])) none none none none none none none none none none) _
  refine SM.app (by decide) (ds0 := es) rfl (SM.tup (SM.V1 (SM.digit (by simp [eE]) 6 (by decide) (by decide) (SM.c ⟨rfl, by simp [eE], fun i hi0 hi1 => ?_⟩))))
  refine SM.V1 (SM.tup (SM.V1 (SM.item (by simp [eE]) (SM.same [.str "older", .str "as old"] (fun s => rfl) ⟨by simp, by simp [eE], fun w hw => ?_⟩))))
  refine SM.V1 (SM.same t.d (fun s => by simp [eE]) (SM.V1 (SM.same u.d (fun s => by simp [eE]) (SM.V0 ⟨hl3, SM.V0 ⟨hl2, es, rfl, hk, rfl, ?_⟩⟩))))
  have fin : ∀ w' : Str, (w' = "older" ∨ w' = "as old") → EnD ks A (.tup [.int i, .tup [.str w', t.d, u.d]]) ∧ eA (.tup [.int i, .tup [.str w', t.d, u.d]]) = [a] := fun w' hw' => by
    have hs := st_pl h hw' htu.1 htu.2.1
    refine ⟨⟨i, .pl w' t u, rfl, hi0, by omega, hs⟩, ?_⟩
    show dA (Sta.pl w' t u).d = [a]
    rw [dA_eq _ hs.ok]
    exact htu.2.2
  simp only [List.mem_cons, List.not_mem_nil, or_false] at hw
  rcases hw with rfl | rfl
  · exact ⟨_, _, _, rfl, fin _ (.inl rfl)⟩
  · exact ⟨_, _, _, rfl, fin _ (.inr rfl)⟩
theorem nodup_of_map {α β : Type} (f : α → β) {xs : List α} (h : (xs.map f).Nodup) : xs.Nodup := by
  induction xs with
  | nil => exact List.nodup_nil
  | cons x xs ih =>
    rw [List.map_cons, List.nodup_cons] at h
    rw [List.nodup_cons]
    exact ⟨fun hm => h.1 (List.mem_map_of_mem hm), ih h.2⟩
theorem enL1_ok (ns : List Int) (ks : List Str) (A : List Int) (h : KsP ks) (hA : AgP A) :
    SM 0 ns enL1 (eE ks A (some (.lst [])) none none none none none none none none none none none none none) fun fl r => fl = .nx ∧ ∃ es o4 o5 o6, r = eE ks A (some (.lst es)) o4 o5 o6 none none none none none none none none none none ∧ (∀ d ∈ es, EnD ks A d) ∧ es.Nodup ∧ es.length ≤ 13 := by
  have hAl := hA.few
  refine SM.sFor (SM.same (A.map .int) (fun s => by simp [eE]) ?_)
  refine SM.forL (by decide) (fun rem r => ∃ (done rest : List Int) (es : List D) (o4 o5 o6 : Option D), A = done ++ rest ∧ rem = rest.map .int ∧ r = eE ks A (some (.lst es)) o4 o5 o6 none none none none none none none none none none ∧ (∀ d ∈ es, EnD ks A d) ∧ es.map eA = done.map fun a => [a]) ?_ ?_ _ _ ⟨[], A, [], none, none, none, rfl, rfl, rfl, (fun d hd => by cases hd), rfl⟩
  · rintro d rem _ ⟨done, rest, es, o4, o5, o6, hd, hr, rfl, he, hm⟩
    cases rest with
    | nil => cases hr
    | cons a rest =>
      rw [List.map_cons, List.cons.injEq] at hr
      obtain ⟨rfl, rfl⟩ := hr
      have hel : es.length = done.length := by
        have := congrArg List.length hm
        simpa using this
      have hdl : done.length ≤ A.length := by rw [hd]; simp
      refine (enL1_step ns ks A h hA a (by rw [hd]; simp) es (by omega) o5 o6).mono ?_
      rintro _ _ ⟨rfl, d, o5', o6', rfl, h1, h2⟩
      refine ⟨done ++ [a], rest, es ++ [d], _, _, _, by rw [hd]; simp, rfl, rfl, fun x hx => ?_, ?_⟩
      · rcases List.mem_append.mp hx with hx | hx
        · exact he x hx
        · rw [List.mem_singleton.mp hx]; exact h1
      · rw [List.map_append, List.map_append, hm, List.map_singleton, List.map_singleton, h2]
  · rintro _ ⟨done, rest, es, o4, o5, o6, hd, hr, rfl, he, hm⟩
    have hr' : rest = [] := by
      cases rest with
      | nil => rfl
      | cons a b => cases hr
    subst hr'
    rw [List.append_nil] at hd
    subst hd
    have hel : es.length = A.length := by
      have := congrArg List.length hm
      simpa using this
    refine ⟨rfl, es, o4, o5, o6, rfl, he, nodup_of_map eA ?_, by omega⟩
    rw [hm]
    exact map_nodup _ _ hA.nd fun a _ b _ e => by injection e
end
end Gm
end
section
namespace Gm
open PySem DL Gx
noncomputable section
/-- entries as they are drawn -/
structure EnL (ks : List Str) (A : List Int) (n : Nat) (es : List D) : Prop where
  en : ∀ d ∈ es, EnD ks A d
  nd : es.Nodup
  few : es.length ≤ n
theorem EnL.add {ks : List Str} {A : List Int} {n : Nat} {es : List D} {d : D} (h : EnL ks A n es) (hd : EnD ks A d) (hn : d ∉ es) (m : Nat) (hm : es.length + 1 ≤ m) : EnL ks A m (es ++ [d]) := by
  refine ⟨fun x hx => ?_, ?_, by simpa using hm⟩
  · rcases List.mem_append.mp hx with hx | hx
    · exact h.en x hx
    · rw [List.mem_singleton.mp hx]; exact hd
  · rw [List.nodup_append]
    exact ⟨h.nd, by simp, fun a ha b hb => by rw [List.mem_singleton.mp hb]; exact fun e => hn (e ▸ ha)⟩
theorem enL2_step (ns : List Int) (ks : List Str) (A : List Int) (h : KsP ks) (hA : AgP A) (es : List D) (n : Nat) (hes : EnL ks A n es) (hn : n ≤ 900) (o4 o5 o6 o7 o8 : Option D) :
    SM 0 ns (sSeq enL20 enL21) (eE ks A (some (.lst es)) o4 o5 o6 o7 o8 none none none none none none none none) fun fl r => fl = .nx ∧ ∃ es' o8', r = eE ks A (some (.lst es')) o4 o5 o6 o7 o8' none none none none none none none none ∧ EnL ks A (n + 1) es' := by
  have hl1 : lenOk 1 = true := by decide
  have hl2 : lenOk 2 = true := by decide
  have hAl := hA.few
  have hfew := hes.few
  have hadd : addD [.lst [.int 0], .lst (A.map .int)] = some (.lst ((0 :: A).map .int)) := lst_add [.int 0] (A.map .int) (by simp; omega)
  refine SM.seq (SM.asg (SM.tup (SM.V1 (SM.digit (by simp [eE]) 6 (by decide) (by decide) (SM.c ⟨rfl, by simp [eE], fun i hi0 hi1 => ?_⟩)))))
  refine SM.V1 (SM.call2 (by simp [eE]) (SM.v (d := lw_ ks) rfl (SM.same (.lst ((0 :: A).map .int)) (fun s => by simp [eE, hl1, hadd]) ⟨by simp [eE], (sf_statement ns ks (0 :: A) h (fun a ha => ?_) (by simp) (by simp; omega)).mono fun v hv => ?_⟩)))
  · rcases List.mem_cons.mp ha with rfl | ha
    · decide
    · have := hA.lo a ha; omega
  obtain ⟨st, rfl, hst⟩ := hv
  refine SM.V0 ⟨hl2, ?_⟩
  have hE : EnD ks A (.tup [.int i, st.d]) := ⟨i, st, rfl, hi0, by omega, hst⟩
  show SM 0 ns _ (eE ks A (some (.lst es)) o4 o5 o6 o7 (some (.tup [.int i, st.d])) none none none none none none none none) _
  obtain ⟨b, eb, hb⟩ := notIn_lst (n := 4) (by decide) hE.pl fun y hy => (hes.en y hy).pl
  cases b with
  | false => exact SM.same .nx (fun s => by simp [enL21, eE, eb]) ⟨rfl, es, _, rfl, hes.en, hes.nd, by omega⟩
  | true =>
    have hk : lenOk (es.length + 1) = true := decide_eq_true (by omega)
    have hm : ¬ (D.tup [.int i, st.d] ∈ es) := fun z => by have := hb.mpr z; cases this
    refine SM.det .nx (eE ks A (some (.lst (es ++ [.tup [.int i, st.d]]))) o4 o5 o6 o7 (some (.tup [.int i, st.d])) none none none none none none none none) (fun s => ?_) ⟨rfl, _, _, rfl, hes.add hE hm (n + 1) (by omega)⟩
    unfold enL21
    rw [ev_sif]
    have ht : (eTst (appM [.v (eV 8), .p 3] notIn3D)) ((eE ks A (some (.lst es)) o4 o5 o6 o7 (some (.tup [.int i, st.d])) none none none none none none none none).set 0 (some s)) = .ok true ((eE ks A (some (.lst es)) o4 o5 o6 o7 (some (.tup [.int i, st.d])) none none none none none none none none).set 0 (some s)) := by simp [eE, eb]
    rw [ht, Res.bind_ok, cnd_t]
    exact app_at (ds := es) (d := .tup [.int i, st.d]) (by simp [eE]) rfl hk
theorem enL2_ok (ns : List Int) (ks : List Str) (A : List Int) (h : KsP ks) (hA : AgP A) (es : List D) (hes : EnL ks A 13 es) (o4 o5 o6 : Option D) :
    SM 0 ns enL2 (eE ks A (some (.lst es)) o4 o5 o6 none none none none none none none none none none) fun fl r => fl = .nx ∧ ∃ es' o7 o8, r = eE ks A (some (.lst es')) o4 o5 o6 o7 o8 none none none none none none none none ∧ EnL ks A 18 es' := by
  refine SM.sFor (SM.bind (SM.item (by simp [eE]) (SM.same [.int 0, .int 2, .int 5] (fun s => rfl) ⟨by simp, by simp [eE], fun v hv => ?_⟩)))
  obtain ⟨m, rfl, hm⟩ : ∃ m : Nat, v = .int m ∧ m ≤ 5 := by
    simp only [List.mem_cons, List.not_mem_nil, or_false] at hv
    rcases hv with rfl | rfl | rfl
    · exact ⟨0, rfl, by decide⟩
    · exact ⟨2, rfl, by decide⟩
    · exact ⟨5, rfl, by decide⟩
  have hc : (decide (-4611686018427387904 ≤ (m : Int)) && decide ((m : Int) < 4611686018427387904)) = true := by
    rw [Bool.and_eq_true, decide_eq_true_eq, decide_eq_true_eq]
    omega
  refine SM.opt (rangeL 0 m) (by
    show (if (decide (-4611686018427387904 ≤ (m : Int)) && decide ((m : Int) < 4611686018427387904)) = true then some (rangeL 0 (m : Int).toNat) else none) = _
    rw [if_pos hc, Int.toNat_natCast]) ?_
  refine SM.forL (by decide) (fun rem r => ∃ (es : List D) (n : Nat) (o7 o8 : Option D), r = eE ks A (some (.lst es)) o4 o5 o6 o7 o8 none none none none none none none none ∧ EnL ks A n es ∧ n + rem.length ≤ 18) ?_ ?_ _ _ ⟨es, 13, none, none, rfl, hes, by rw [rangeL_len]; omega⟩
  · rintro d rem _ ⟨es, n, o7, o8, rfl, he, hl⟩
    rw [List.length_cons] at hl
    refine (enL2_step ns ks A h hA es n he (by omega) o4 o5 o6 (some d) o8).mono ?_
    rintro _ _ ⟨rfl, es', o8', rfl, he'⟩
    exact ⟨es', n + 1, some d, o8', rfl, he', by omega⟩
  · rintro _ ⟨es, n, o7, o8, rfl, he, hl⟩
    exact ⟨rfl, es, o7, o8, rfl, he.en, he.nd, by have := he.few; omega⟩
/-! the dict of what is there -/
theorem put_at {i j : Nat} {ρ : DL.Env} {ks : List D} {d : D} (h1 : ρ[j]? = some (some d)) (h2 : ρ[i]? = some (some (.dct (kvT ks)))) (hd : pln 8 d = true) (ht : isT d = true) (h : ∀ x ∈ ks, pln 8 x = true ∧ isT x = true) (hl : ks.length ≤ 1000000) :
    (sPutI i (eV j) (eC (.bl true))) ρ = .ok .nx (ρ.set i (some (.dct (kvT (addOne ks d))))) := by
  have ho := okKey_pln (Nat.le_refl 8) hd ht fun x hx => (h x hx).2
  have hk : lenOk ((kvT ks).length + 1) = true := decide_eq_true (by simp only [kvT, List.length_map]; omega)
  have hp := dput_kvT hd fun x hx => (h x hx).1
  have e : dput (kvT ks) d (.bl true) = kvT (addOne ks d) := by
    unfold addOne
    by_cases hm : d ∈ ks
    · rw [if_pos hm]; exact hp.1 hm
    · rw [if_neg hm]; exact hp.2 hm
  simp [sPutI, h1, h2, ho, hk, e]
theorem pln_more {n m : Nat} (h : n ≤ m) {d : D} (hd : pln n d = true) : pln m d = true := by
  obtain ⟨k, rfl⟩ := Nat.exists_eq_add_of_le h
  induction k with
  | zero => exact hd
  | succ k ih => exact pln_up _ _ (ih (by omega))
theorem EnD.pt {ks : List Str} {A : List Int} {d : D} (h : EnD ks A d) : pln 8 d = true ∧ Gm.isT d = true := ⟨pln_more (by decide) h.pl, h.isT⟩
theorem fillL (ks : List Str) (A : List Int) (es : List D) (o4 o5 o6 o7 o9 o10 o11 o12 o14 o15 o16 : Option D) (s : D) : ∀ (rem acc : List D) (o8 : Option D), (∀ d ∈ rem, pln 8 d = true ∧ isT d = true) → (∀ d ∈ acc, pln 8 d = true ∧ isT d = true) → acc.length + rem.length ≤ 1000 →
    ∃ o8', forLO 3 es (gV 8) (sPutI 13 (eV 8) (eC (.bl true))) rem ((eE ks A (some (.lst es)) o4 o5 o6 o7 o8 o9 o10 o11 o12 (some (.dct (kvT acc))) o14 o15 o16).set 0 (some s)) = .ok .nx ((eE ks A (some (.lst es)) o4 o5 o6 o7 o8' o9 o10 o11 o12 (some (.dct (kvT (addAll acc rem)))) o14 o15 o16).set 0 (some s))
  | [], acc, o8, _, _, _ => ⟨o8, by
    have hs : stood 3 es ((eE ks A (some (.lst es)) o4 o5 o6 o7 o8 o9 o10 o11 o12 (some (.dct (kvT acc))) o14 o15 o16).set 0 (some s)) = true := stood_iff.mpr rfl
    simp only [forLO, hs, if_true]
    rfl⟩
  | d :: rem, acc, o8, h1, h2, hl => by
    have hd := h1 d (List.mem_cons_self ..)
    rw [List.length_cons] at hl
    have h3 := addOne_len acc d
    obtain ⟨o8', e⟩ := fillL ks A es o4 o5 o6 o7 o9 o10 o11 o12 o14 o15 o16 s rem (addOne acc d) (some d) (fun x hx => h1 x (List.mem_cons_of_mem _ hx)) (fun x hx => ((addOne_mem acc d x).mp hx).elim (h2 x) fun z => z ▸ hd) (by omega)
    refine ⟨o8', ?_⟩
    have hs : stood 3 es ((eE ks A (some (.lst es)) o4 o5 o6 o7 o8 o9 o10 o11 o12 (some (.dct (kvT acc))) o14 o15 o16).set 0 (some s)) = true := stood_iff.mpr rfl
    have hp := put_at (i := 13) (j := 8) (ρ := (eE ks A (some (.lst es)) o4 o5 o6 o7 (some d) o9 o10 o11 o12 (some (.dct (kvT acc))) o14 o15 o16).set 0 (some s)) (ks := acc) (d := d) rfl rfl hd.1 hd.2 h2 (by omega)
    have hg : gV 8 d ((eE ks A (some (.lst es)) o4 o5 o6 o7 o8 o9 o10 o11 o12 (some (.dct (kvT acc))) o14 o15 o16).set 0 (some s)) = some ((eE ks A (some (.lst es)) o4 o5 o6 o7 (some d) o9 o10 o11 o12 (some (.dct (kvT acc))) o14 o15 o16).set 0 (some s)) := rfl
    simp only [forLO, hs, if_true, hg, hp]
    exact e
theorem fill_ok (ns : List Int) (ks : List Str) (A : List Int) (es : List D) (h : EnL ks A 900 es) (o4 o5 o6 o7 o9 o10 o11 o12 o14 o15 o16 : Option D) (o8 : Option D) :
    SM 0 ns enFill (eE ks A (some (.lst es)) o4 o5 o6 o7 o8 o9 o10 o11 o12 (some (.dct [])) o14 o15 o16) fun fl r => fl = .nx ∧ ∃ o8', r = eE ks A (some (.lst es)) o4 o5 o6 o7 o8' o9 o10 o11 o12 (some (.dct (kvT es))) o14 o15 o16 := fun c k => by
  obtain ⟨o8', e⟩ := fillL ks A es o4 o5 o6 o7 o9 o10 o11 o12 o14 o15 o16 (Sm ns c k) es [] o8 (fun d hd => (h.en d hd).pt) (fun d hd => by cases hd) (by have := h.few; simp only [List.length_nil]; omega)
  rw [addAll_self es [] (by simpa using h.nd), List.nil_append] at e
  exact ⟨c, k, .nx, _, e, rfl, o8', rfl⟩
end
end Gm
end
section
namespace Gm
open PySem DL Gx
noncomputable section
theorem modN (x m : Nat) (h : 0 < m) : modD [.int (x : Int), .int (m : Int)] = some (.int ((x % m : Nat) : Int)) := by
  have : decide (0 < (m : Int)) = true := decide_eq_true (by omega)
  simp only [modD, this, if_true]
  rfl
theorem divN (x m : Nat) (h : 0 < m) (h2 : m < 1073741824) : fdivD [.int (x : Int), .int (m : Int)] = some (.int ((x / m : Nat) : Int)) := by
  have c1 : decide (0 < (m : Int)) = true := decide_eq_true (by omega)
  have c2 : decide ((m : Int) < 1073741824) = true := decide_eq_true (by omega)
  simp only [fdivD, c1, c2, Bool.and_self, if_true]
  rfl
theorem mulN (x m : Nat) (h : x < 1000000) : mulD [.int (x : Int), .int (m : Int)] = some (.int ((x * m : Nat) : Int)) := by
  have c1 : decide ((x : Int).natAbs < 2 ^ 64) = true := decide_eq_true (by simp only [Int.natAbs_natCast]; omega)
  simp only [mulD, c1, Bool.true_or, if_true]
  rfl
theorem addN (x m : Nat) : addD [.int (x : Int), .int (m : Int)] = some (.int ((x + m : Nat) : Int)) := by
  rw [addD_int]
  rfl
theorem intN (x : Int) : intD [.int x] = some (.int x) := rfl
section
variable (ks : List Str) (A : List Int) (es : List D) (ts : List Tm) (o4 o5 o6 o7 o8 o15 o16 : Option D) (num most k : Nat)
/-- where the third loop stands -/
def eL (es : List D) (o6 o8 o14 o15 : Option D) : DL.Env := eE ks A (some (.lst es)) o4 o5 o6 o7 o8 (some (.lst (ts.map Tm.d))) (some (.int ((12 * ts.length * ts.length : Nat) : Int))) (some (.int (num : Int))) (some (.int (most : Int))) (some (.dct (kvT es))) o14 o15 o16
theorem w_eq (s : D) (h0 : Nat) (t u : Tm) : (appM [.v (eNew (eLst [(eC (.str "older")), (eC (.str "as old"))])), .v (appM [.v (appM [.v (appM [.v (eV 15), .v (eC (.int 6))] fdivD)] intD), .v (eC (.int 2))] modD)] ix2D) ((eL ks A ts o4 o5 o7 o16 num most es (some (.lst [t.d, u.d])) o8 (some (.int (k : Int))) (some (.int (h0 : Int)))).set 0 (some s)) = .ok (if h0 / 6 % 2 = 0 then .str "older" else .str "as old") ((eL ks A ts o4 o5 o7 o16 num most es (some (.lst [t.d, u.d])) o8 (some (.int (k : Int))) (some (.int (h0 : Int)))).set 0 (some s)) := by
  have f2 : fdivD [.int (h0 : Int), .int 6] = some (.int ((h0 / 6 : Nat) : Int)) := divN h0 6 (by decide) (by decide)
  have f3 : modD [.int ((h0 / 6 : Nat) : Int), .int 2] = some (.int ((h0 / 6 % 2 : Nat) : Int)) := modN (h0 / 6) 2 (by decide)
  have f4 : ix2D [.lst [.str "older", .str "as old"], .int ((h0 / 6 % 2 : Nat) : Int)] = some (if h0 / 6 % 2 = 0 then .str "older" else .str "as old") := by
    have h : h0 / 6 % 2 = 0 ∨ h0 / 6 % 2 = 1 := by omega
    rcases h with h | h
    · rw [h]; exact ixL _ 0 _ rfl
    · rw [h]; exact ixL _ 1 _ rfl
  have e0 : (eNew (eLst [(eC (.str "older")), (eC (.str "as old"))])) ((eL ks A ts o4 o5 o7 o16 num most es (some (.lst [t.d, u.d])) o8 (some (.int (k : Int))) (some (.int (h0 : Int)))).set 0 (some s)) = .ok (.lst [.str "older", .str "as old"]) ((eL ks A ts o4 o5 o7 o16 num most es (some (.lst [t.d, u.d])) o8 (some (.int (k : Int))) (some (.int (h0 : Int)))).set 0 (some s)) := rfl
  simp only [ev_app2v, e0, Res.bind_ok]
  simp only [eL, eE, ev_app2v, ev_app1v, ev_eV, eC_app, Res.bind_ok, List.set_cons_zero, List.getElem?_cons_succ, List.getElem?_cons_zero, M.opt_some, f2, f3, f4, intN]
theorem src_eq (s : D) (h0 : Nat) (t u : Tm) : (appM [.v (appM [.v (eV 15)] intD), .v (eC (.int 6))] modD) ((eL ks A ts o4 o5 o7 o16 num most es (some (.lst [t.d, u.d])) o8 (some (.int (k : Int))) (some (.int (h0 : Int)))).set 0 (some s)) = .ok (.int ((h0 % 6 : Nat) : Int)) ((eL ks A ts o4 o5 o7 o16 num most es (some (.lst [t.d, u.d])) o8 (some (.int (k : Int))) (some (.int (h0 : Int)))).set 0 (some s)) := by
  have f1 : modD [.int (h0 : Int), .int 6] = some (.int ((h0 % 6 : Nat) : Int)) := modN h0 6 (by decide)
  simp only [eL, eE, ev_app2v, ev_app1v, ev_eV, eC_app, Res.bind_ok, List.set_cons_zero, List.getElem?_cons_succ, List.getElem?_cons_zero, M.opt_some, f1, intN]
theorem len_ts : len3D [.lst (ts.map Tm.d)] = some (.int (ts.length : Int)) := by simp
theorem i1_eq (s : D) (h0 : Nat) (hn : 0 < ts.length) : (appM [.v (eV 9), .v (appM [.v (appM [.v (appM [.v (eV 15), .v (eC (.int 12))] fdivD)] intD), .v (appM [.v (eV 9)] len3D)] modD)] ix2D) ((eL ks A ts o4 o5 o7 o16 num most es o6 o8 (some (.int (k : Int))) (some (.int (h0 : Int)))).set 0 (some s)) =
    .ok (ts[h0 / 12 % ts.length]'(Nat.mod_lt _ hn)).d ((eL ks A ts o4 o5 o7 o16 num most es o6 o8 (some (.int (k : Int))) (some (.int (h0 : Int)))).set 0 (some s)) := by
  have f1 : fdivD [.int (h0 : Int), .int 12] = some (.int ((h0 / 12 : Nat) : Int)) := divN h0 12 (by decide) (by decide)
  have f2 := modN (h0 / 12) ts.length hn
  have f3 : ix2D [.lst (ts.map Tm.d), .int ((h0 / 12 % ts.length : Nat) : Int)] = some (ts[h0 / 12 % ts.length]'(Nat.mod_lt _ hn)).d := ixL _ _ _ (by rw [List.getElem?_map, List.getElem?_eq_getElem (Nat.mod_lt _ hn)]; rfl)
  simp only [eL, eE, ev_app2v, ev_app1v, ev_eV, eC_app, Res.bind_ok, List.set_cons_zero, List.getElem?_cons_succ, List.getElem?_cons_zero, M.opt_some, f1, intN, len_ts, f2, f3]
theorem i2_eq (s : D) (h0 : Nat) (hn0 : 0 < ts.length) (hl : ts.length ≤ 40) (hn : h0 / (12 * ts.length) < ts.length) : (appM [.v (eV 9), .v (appM [.v (eV 15), .v (appM [.v (eC (.int 12)), .v (appM [.v (eV 9)] len3D)] mulD)] fdivD)] ix2D) ((eL ks A ts o4 o5 o7 o16 num most es o6 o8 (some (.int (k : Int))) (some (.int (h0 : Int)))).set 0 (some s)) =
    .ok (ts[h0 / (12 * ts.length)]'hn).d ((eL ks A ts o4 o5 o7 o16 num most es o6 o8 (some (.int (k : Int))) (some (.int (h0 : Int)))).set 0 (some s)) := by
  have f1 : mulD [.int 12, .int (ts.length : Int)] = some (.int ((12 * ts.length : Nat) : Int)) := mulN 12 ts.length (by decide)
  have f2 := divN h0 (12 * ts.length) (by omega) (by omega)
  have f3 : ix2D [.lst (ts.map Tm.d), .int ((h0 / (12 * ts.length) : Nat) : Int)] = some (ts[h0 / (12 * ts.length)]'hn).d := ixL _ _ _ (by rw [List.getElem?_map, List.getElem?_eq_getElem hn]; rfl)
  simp only [eL, eE, ev_app2v, ev_app1v, ev_eV, eC_app, Res.bind_ok, List.set_cons_zero, List.getElem?_cons_succ, List.getElem?_cons_zero, M.opt_some, len_ts, f1, f2, f3]
theorem h_eq (s : D) (hp : 0 < 12 * ts.length * ts.length) : (appM [.v (appM [.v (appM [.v (eV 11), .v (eV 14)] addD)] intD), .v (eV 10)] modD) ((eL ks A ts o4 o5 o7 o16 num most es o6 o8 (some (.int (k : Int))) o15).set 0 (some s)) =
    .ok (.int (((num + k) % (12 * ts.length * ts.length) : Nat) : Int)) ((eL ks A ts o4 o5 o7 o16 num most es o6 o8 (some (.int (k : Int))) o15).set 0 (some s)) := by
  have f1 := addN num k
  have f2 := modN (num + k) (12 * ts.length * ts.length) hp
  simp only [eL, eE, ev_app2v, ev_app1v, ev_eV, eC_app, Res.bind_ok, List.set_cons_zero, List.getElem?_cons_succ, List.getElem?_cons_zero, M.opt_some, f1, intN, f2]
end
theorem enL3_step (ns : List Int) (ks : List Str) (A : List Int) (ts : List Tm) (o4 o5 o7 o16 : Option D) (num most : Nat) (h : KsP ks) (ht : TsP ks (0 :: A) ts) (h0 : 0 < ts.length) (h1 : ts.length ≤ 40) (es : List D) (hes : EnL ks A 200 es) (hm : most ≤ 151) (k : Nat) (o6 o8 o15 : Option D) :
    SM 0 ns (sSeq enL30 (sSeq enL31 (sSeq enL32 (sSeq enL33 enL34)))) (eL ks A ts o4 o5 o7 o16 num most es o6 o8 (some (.int (k : Int))) o15) fun fl r => (fl = .nx ∨ fl = .bk) ∧ ∃ es' o6' o8' o15', r = eL ks A ts o4 o5 o7 o16 num most es' o6' o8' (some (.int (k : Int))) o15' ∧ EnL ks A 200 es' := by
  have hl2 : lenOk 2 = true := by decide
  have hl3 : lenOk 3 = true := by decide
  have hfew := hes.few
  have hp : 0 < 12 * ts.length * ts.length := Nat.mul_pos (by omega) h0
  have c1 : decide ((most : Int) ≤ (es.length : Int)) = decide (most ≤ es.length) := by
    by_cases z : most ≤ es.length
    · rw [decide_eq_true z, decide_eq_true (by omega)]
    · rw [decide_eq_false z, decide_eq_false (by omega)]
  by_cases hb : most ≤ es.length
  · refine SM.seq (SM.same .bk (fun s => ?_) ⟨.inr rfl, es, o6, o8, o15, rfl, hes⟩)
    have : (eTst (appM [.v (appM [.p 3] len3D), .v (eV 12)] geD)) ((eL ks A ts o4 o5 o7 o16 num most es o6 o8 (some (.int (k : Int))) o15).set 0 (some s)) = .ok true ((eL ks A ts o4 o5 o7 o16 num most es o6 o8 (some (.int (k : Int))) o15).set 0 (some s)) := by simp [eL, eE, c1, hb]
    unfold enL30
    rw [ev_sif, this]
    rfl
  · refine SM.seq (SM.same .nx (fun s => ?_) ?_)
    · have : (eTst (appM [.v (appM [.p 3] len3D), .v (eV 12)] geD)) ((eL ks A ts o4 o5 o7 o16 num most es o6 o8 (some (.int (k : Int))) o15).set 0 (some s)) = .ok false ((eL ks A ts o4 o5 o7 o16 num most es o6 o8 (some (.int (k : Int))) o15).set 0 (some s)) := by simp [eL, eE, c1, hb]
      unfold enL30
      rw [ev_sif, this]
      rfl
    refine SM.seq (SM.asg (SM.same _ (fun s => h_eq ks A es ts o4 o5 o6 o7 o8 o15 o16 num most k s hp) ?_))
    generalize hh : (num + k) % (12 * ts.length * ts.length) = h
    have hlt : h < 12 * ts.length * ts.length := by rw [← hh]; exact Nat.mod_lt _ hp
    have hdiv : h / (12 * ts.length) < ts.length := Nat.div_lt_of_lt_mul hlt
    show SM 0 ns _ (eL ks A ts o4 o5 o7 o16 num most es o6 o8 (some (.int (k : Int))) (some (.int (h : Int)))) _
    refine SM.seq (SM.asg (SM.new (SM.lst (SM.V1 (SM.same _ (fun s => i1_eq ks A es ts o4 o5 o6 o7 o8 o16 num most k s h h0) (SM.V1 (SM.same _ (fun s => i2_eq ks A es ts o4 o5 o6 o7 o8 o16 num most k s h h0 h1 hdiv) (SM.V0 ⟨hl2, _, rfl, ?_⟩))))))))
    have ht1 := ht _ (List.getElem_mem (Nat.mod_lt (h / 12) h0))
    have ht2 := ht _ (List.getElem_mem hdiv)
    generalize ts[h / 12 % ts.length]'(Nat.mod_lt _ h0) = t at ht1
    generalize ts[h / (12 * ts.length)]'hdiv = u at ht2
    show SM 0 ns _ (eL ks A ts o4 o5 o7 o16 num most es (some (.lst [t.d, u.d])) o8 (some (.int (k : Int))) (some (.int (h : Int)))) _
    have f5 : ix2D [.lst [t.d, u.d], .int 0] = some t.d := ixL _ 0 _ rfl
    have f6 : ix2D [.lst [t.d, u.d], .int 1] = some u.d := ixL _ 1 _ rfl
    refine SM.seq (SM.asg (SM.tup (SM.V1 (SM.same _ (fun s => src_eq ks A es ts o4 o5 o7 o8 o16 num most k s h t u) (SM.V1 (SM.tup (SM.V1 (SM.same _ (fun s => w_eq ks A es ts o4 o5 o7 o8 o16 num most k s h t u) (SM.V1 (SM.same t.d (fun s => by simp [eL, eE, f5]) (SM.V1 (SM.same u.d (fun s => by simp [eL, eE, f6]) (SM.V0 ⟨hl3, SM.V0 ⟨hl2, ?_⟩⟩)))))))))))))
    obtain ⟨w, hw, hww⟩ : ∃ w : Str, (if h / 6 % 2 = 0 then D.str "older" else .str "as old") = .str w ∧ (w = "older" ∨ w = "as old") := by
      split
      · exact ⟨_, rfl, .inl rfl⟩
      · exact ⟨_, rfl, .inr rfl⟩
    rw [hw]
    have hE : EnD ks A (.tup [.int ((h % 6 : Nat) : Int), .tup [.str w, t.d, u.d]]) := ⟨_, .pl w t u, rfl, by omega, by omega, st_pl (by assumption) hww ht1 ht2⟩
    generalize D.tup [.int ((h % 6 : Nat) : Int), .tup [.str w, t.d, u.d]] = d at hE
    show SM 0 ns _ (eL ks A ts o4 o5 o7 o16 num most es (some (.lst [t.d, u.d])) (some d) (some (.int (k : Int))) (some (.int (h : Int)))) _
    have hpt : ∀ x ∈ es, pln 8 x = true ∧ isT x = true := fun x hx => (hes.en x hx).pt
    obtain ⟨b, eb, hb2⟩ := notIn_dct (Nat.le_refl 8) hE.pt.1 hE.pt.2 hpt
    cases b with
    | false => exact SM.same .nx (fun s => by simp [enL34, eL, eE, eb]) ⟨.inl rfl, es, _, _, _, rfl, hes⟩
    | true =>
      have hk : lenOk (es.length + 1) = true := decide_eq_true (by omega)
      have hni : ¬ (d ∈ es) := fun z => by have := hb2.mpr z; cases this
      refine SM.det .nx (eL ks A ts o4 o5 o7 o16 num most (es ++ [d]) (some (.lst [t.d, u.d])) (some d) (some (.int (k : Int))) (some (.int (h : Int)))) (fun s => ?_) ⟨.inl rfl, _, _, _, _, rfl, hes.add hE hni 200 (by omega)⟩
      unfold enL34
      rw [ev_sif]
      have hc : (eTst (appM [.v (eV 8), .p 13] notIn3D)) ((eL ks A ts o4 o5 o7 o16 num most es (some (.lst [t.d, u.d])) (some d) (some (.int (k : Int))) (some (.int (h : Int)))).set 0 (some s)) = .ok true ((eL ks A ts o4 o5 o7 o16 num most es (some (.lst [t.d, u.d])) (some d) (some (.int (k : Int))) (some (.int (h : Int)))).set 0 (some s)) := by simp [eL, eE, eb]
      rw [hc, Res.bind_ok, cnd_t, ev_seq, put_at (ks := es) (d := d) rfl rfl hE.pt.1 hE.pt.2 hpt (by omega), Res.bind_ok]
      have ea : addOne es d = es ++ [d] := by unfold addOne; rw [if_neg hni]
      rw [ea]
      exact app_at (ds := es) (d := d) rfl rfl hk
end
end Gm
end
section
namespace Gm
open PySem DL Gx
noncomputable section
theorem range_nat {n : Nat} : ∀ d ∈ rangeL 0 n, ∃ k : Nat, d = .int (k : Int) := fun d hd => by
  simp only [rangeL, List.mem_map] at hd
  obtain ⟨k, _, rfl⟩ := hd
  exact ⟨k, by simp⟩
theorem enL3_ok (ns : List Int) (ks : List Str) (A : List Int) (ts : List Tm) (o4 o5 o6 o7 o8 : Option D) (num most : Nat) (h : KsP ks) (ht : TsP ks (0 :: A) ts) (h0 : 0 < ts.length) (h1 : ts.length ≤ 40) (es : List D) (hes : EnL ks A 200 es) (hm : most ≤ 151) :
    SM 0 ns enL3 (eL ks A ts o4 o5 o7 none num most es o6 o8 none none) fun fl r => fl = .nx ∧ ∃ es' o6' o8' o14' o15', r = eL ks A ts o4 o5 o7 none num most es' o6' o8' o14' o15' ∧ EnL ks A 200 es' := by
  have hq : 12 * ts.length * ts.length ≤ 12 * 40 * 40 := Nat.mul_le_mul (Nat.mul_le_mul_left 12 h1) h1
  refine SM.sFor (SM.same (rangeL 0 (12 * ts.length * ts.length)) (fun s => range1_eq (12 * ts.length * ts.length) rfl (by omega)) ?_)
  refine SM.forL (by decide) (fun rem r => ∃ (es : List D) (o6 o8 o14 o15 : Option D), r = eL ks A ts o4 o5 o7 none num most es o6 o8 o14 o15 ∧ EnL ks A 200 es ∧ ∀ d ∈ rem, ∃ k : Nat, d = .int (k : Int)) ?_ ?_ _ _ ⟨es, o6, o8, none, none, rfl, hes, range_nat⟩
  · rintro d rem _ ⟨es, o6, o8, o14, o15, rfl, he, hr⟩
    obtain ⟨k, rfl⟩ := hr d (List.mem_cons_self ..)
    refine (enL3_step ns ks A ts o4 o5 o7 none num most h ht h0 h1 es he hm k o6 o8 o15).mono ?_
    rintro fl _ ⟨hf, es', o6', o8', o15', rfl, he'⟩
    rcases hf with rfl | rfl
    · exact ⟨es', _, _, _, _, rfl, he', fun x hx => hr x (List.mem_cons_of_mem _ hx)⟩
    · exact ⟨rfl, es', _, _, _, _, rfl, he'⟩
  · rintro _ ⟨es, o6, o8, o14, o15, rfl, he, _⟩
    exact ⟨rfl, es, _, _, _, _, rfl, he⟩
theorem sf_entries (ns : List Int) (ks : List Str) (h : KsP ks) : SF ns m__law_entries [lw_ ks] fun v => ∃ A es, v = .lst es ∧ AgP A ∧ EnL ks A 200 es := by
  unfold m__law_entries
  rw [en_parts]
  refine SF.mk (SM.seq (SM.asg (SM.call0 (by simp) ((sf_ages ns).mono fun v hv => ?_))))
  obtain ⟨A, rfl, hA⟩ := hv
  refine SM.seq (SM.asgO (SM.lst (SM.V0 ⟨by decide, ?_⟩)))
  show SM 0 ns _ (eE ks A (some (.lst [])) none none none none none none none none none none none none none) _
  refine SM.seq ((enL1_ok ns ks A h hA).mono ?_)
  rintro _ _ ⟨rfl, es, o4, o5, o6, rfl, e1, e2, e3⟩
  refine SM.seq ((enL2_ok ns ks A h hA es ⟨e1, e2, e3⟩ o4 o5 o6).mono ?_)
  rintro _ _ ⟨rfl, es, o7, o8, rfl, he⟩
  refine SM.seq (SM.asg (SM.call2 (by simp [eE]) (SM.v (d := lw_ ks) rfl (SM.v (d := .lst (A.map .int)) rfl ⟨by simp [eE], (sf_terms ns ks A h hA).mono fun v hv => ?_⟩))))
  obtain ⟨ts, rfl, h0, h1, ht⟩ := hv
  have hq : 12 * ts.length * ts.length ≤ 12 * 40 * 40 := Nat.mul_le_mul (Nat.mul_le_mul_left 12 h1) h1
  have hp : 0 < 12 * ts.length * ts.length := Nat.mul_pos (by omega) h0
  have f1 : mulD [.int 12, .int (ts.length : Int)] = some (.int ((12 * ts.length : Nat) : Int)) := mulN 12 ts.length (by decide)
  have f2 := mulN (12 * ts.length) ts.length (by omega)
  have f0 : len3D [.lst (ts.map Tm.d)] = some (.int (ts.length : Int)) := len_ts ts
  show SM 0 ns _ (eE ks A (some (.lst es)) o4 o5 o6 o7 o8 (some (.lst (ts.map Tm.d))) none none none none none none none) _
  refine SM.seq (SM.asg (SM.same (.int ((12 * ts.length * ts.length : Nat) : Int)) (fun s => by
    simp only [eE, ev_app2v, ev_app1v, ev_eV, eC_app, Res.bind_ok, List.set_cons_zero, List.getElem?_cons_succ, List.getElem?_cons_zero, M.opt_some, f0, f1, f2]) ?_))
  show SM 0 ns _ (eE ks A (some (.lst es)) o4 o5 o6 o7 o8 (some (.lst (ts.map Tm.d))) (some (.int ((12 * ts.length * ts.length : Nat) : Int))) none none none none none none) _
  refine SM.seq (SM.asg (SM.digit (by simp [eE]) ((12 * ts.length * ts.length : Nat) : Int) (by omega) (by omega) (SM.v (d := .int ((12 * ts.length * ts.length : Nat) : Int)) rfl ⟨rfl, by simp [eE], fun num hn0 hn1 => ?_⟩)))
  obtain ⟨num, rfl⟩ : ∃ n : Nat, num = (n : Int) := ⟨num.toNat, by omega⟩
  show SM 0 ns _ (eE ks A (some (.lst es)) o4 o5 o6 o7 o8 (some (.lst (ts.map Tm.d))) (some (.int ((12 * ts.length * ts.length : Nat) : Int))) (some (.int (num : Int))) none none none none none) _
  refine SM.seq (SM.asg (SM.item (by simp [eE]) ?_))
  refine SM.V1 (SM.c (SM.V1 (SM.c (SM.V1 (SM.digit (by simp [eE]) 150 (by decide) (by decide) (SM.c ⟨rfl, by simp [eE], fun i hi0 hi1 => SM.V1 (SM.c (SM.V1 (SM.c (SM.V1 (SM.c (SM.V1 (SM.c (SM.V0 ⟨by simp, by simp [eE], fun v hv => ?_⟩))))))))⟩))))))
  obtain ⟨most, rfl, hm⟩ : ∃ n : Nat, v = .int (n : Int) ∧ n ≤ 151 := by
    simp only [List.mem_cons, List.not_mem_nil, or_false] at hv
    rcases hv with rfl | rfl | rfl | rfl | rfl | rfl | rfl
    · exact ⟨0, rfl, by decide⟩
    · exact ⟨30, rfl, by decide⟩
    · exact ⟨i.toNat, by rw [Int.toNat_of_nonneg hi0], by omega⟩
    · exact ⟨149, rfl, by decide⟩
    · exact ⟨150, rfl, by decide⟩
    · exact ⟨150, rfl, by decide⟩
    · exact ⟨151, rfl, by decide⟩
  show SM 0 ns _ (eE ks A (some (.lst es)) o4 o5 o6 o7 o8 (some (.lst (ts.map Tm.d))) (some (.int ((12 * ts.length * ts.length : Nat) : Int))) (some (.int (num : Int))) (some (.int (most : Int))) none none none none) _
  refine SM.seq (SM.asgO (SM.same (.dct []) (fun s => rfl) ?_))
  show SM 0 ns _ (eE ks A (some (.lst es)) o4 o5 o6 o7 o8 (some (.lst (ts.map Tm.d))) (some (.int ((12 * ts.length * ts.length : Nat) : Int))) (some (.int (num : Int))) (some (.int (most : Int))) (some (.dct [])) none none none) _
  refine SM.seq ((fill_ok ns ks A es ⟨he.en, he.nd, by have := he.few; omega⟩ o4 o5 o6 o7 _ _ _ _ none none none o8).mono ?_)
  rintro _ _ ⟨rfl, o8', rfl⟩
  show SM 0 ns _ (eL ks A ts o4 o5 o7 none num most es o6 o8' none none) _
  refine SM.seq ((enL3_ok ns ks A ts o4 o5 o6 o7 o8' num most h ht h0 h1 es ⟨he.en, he.nd, by have := he.few; omega⟩ hm).mono ?_)
  rintro _ _ ⟨rfl, es, o6, o8, o14, o15, rfl, he⟩
  have hfew := he.few
  refine SM.seq (SM.asg (SM.digit (by simp [eL, eE]) ((es.length : Int) + 1) (by omega) (by omega) (SM.same (.int ((es.length : Int) + 1)) (fun s => by simp [eL, eE]) ⟨rfl, by simp [eL, eE], fun st hs0 hs1 => ?_⟩)))
  obtain ⟨st, rfl⟩ : ∃ n : Nat, st = (n : Int) := ⟨st.toNat, by omega⟩
  show SM 0 ns _ (eL ks A ts o4 o5 o7 (some (.int (st : Int))) num most es o6 o8 o14 o15) _
  have hadd : addD [.lst (es.drop st), .lst (es.take st)] = some (.lst (es.drop st ++ es.take st)) := lst_add _ _ (by rw [List.length_drop, List.length_take]; omega)
  have hlo : slDlo [.lst es, .int (st : Int)] = some (.lst (es.drop st)) := by simp only [slDlo, cutD, cut_drop]
  have hhi : slDhi [.lst es, .int (st : Int)] = some (.lst (es.take st)) := by simp only [slDhi, cutD, cut_take]
  refine SM.ret (SM.same (.lst (es.drop st ++ es.take st)) (fun s => by simp [eL, eE, hlo, hhi, hadd]) ⟨by simp [eL, eE], _, rfl, A, _, rfl, hA, fun d hd => ?_, ?_, ?_⟩)
  · rcases List.mem_append.mp hd with hd | hd
    · exact he.en d (List.mem_of_mem_drop hd)
    · exact he.en d (List.mem_of_mem_take hd)
  · rw [List.perm_append_comm.nodup_iff, List.take_append_drop]
    exact he.nd
  · rw [List.length_append, List.length_drop, List.length_take]
    omega
end
end Gm
end
section
namespace Gm
open PySem DL Gx
noncomputable section
def spRow : M Fl := (sAsg (appM [.v (eV 1)] tupleD) (gV 3))
def spWay : M Fl := (sAsg (eCall m__law_next [0] [.p 0, .v (eC (.int 6))] []) (gV 4))
def sp0 : M Fl := (sIf (eTst (appM [.v (eV 4), .v (eC (.int 0))] eqD)) (sSeq (sAsg (eCall m__law_pick [0] [.p 0, .v (eNew (eLst [(eTup []), (appM [.v (eV 1)] list2D), (appM [.v (eV 3), .v (appM [.v (eV 3), .v (asInt (eC (.int 1)))] slDhi)] addD), (appM [.v (appM [.v (eV 3)] backD), .v (eTup [(eC (.str "a")), (eC (.str "a"))])] addD), (appM [.v (eV 3), .v (eC (.int 0))] ix2D), (eC .non), (appM [.v (eTup [(eC (.str "A"))]), .v (eV 3)] addD), (appM [.v (eCall m__law_kinds [0] [.p 0, .v (eC (.int 17))] [])] tupleD)]))] []) (gV 5))
  (sRet (eTup [(eV 5), (appM [.v (eV 2)] tupleD)]))) sNx)
def sp1 : M Fl := (sIf (eTst (appM [.v (eV 4), .v (eC (.int 1))] eqD)) (sRet (eCall m__law_pick [0] [.p 0, .v (eNew (eLst [(eTup [(eV 3)]), (eTup [(eV 3), (appM [.v (eV 2)] list2D)]), (eNew (eLst [(eV 3), (appM [.v (eV 2)] tupleD)])), (eTup [(eV 3), (appM [.v (eV 2)] tupleD), (eTup [])]), (eTup [(appM [.v (eV 2)] tupleD), (eV 3)]), (eV 3), (eC .non)]))] [])) sNx)
def spE : M Fl := (sIf (eTst (appM [.v (appM [.v (eV 2)] len3D), .v (eC (.int 0))] eqD)) (sRet (eTup [(eV 3), (eTup [(eTup [(eC (.int 6)), (eTup [(eC (.str "older")), (eTup [(eC (.str "age")), (eC (.int 1))]), (eTup [(eC (.str "age")), (eC (.int 0))])])])])])) sNx)
def spAt : M Fl := (sAsg (eCall m__law_next [0] [.p 0, .v (appM [.v (eV 2)] len3D)] []) (gV 6))
def spGet : M Fl := (sAsg (appM [.v (eV 2), .v (eV 6)] ix2D) (gTup 2 (gsC (gV 7) (gsC (gV 8) gsN))))
def sp2 : M Fl := (sIf (eTst (appM [.v (eV 4), .v (eC (.int 2))] eqD)) (sSeq (sAsg (eCall m__law_next [0] [.p 0, .v (appM [.v (appM [.v (eV 2)] len3D), .v (eC (.int 1))] addD)] []) (gV 9))
  (sRet (eTup [(eV 3), (appM [.v (appM [.v (appM [.v (appM [.v (eV 2), .v (asInt (eV 9))] slDhi), .v (eNew (eLst [(appM [.v (eV 2), .v (eV 6)] ix2D)]))] addD), .v (appM [.v (eV 2), .v (asInt (eV 9))] slDlo)] addD)] tupleD)]))) sNx)
def spW1 : M Fl := (sAsg (eNew (eLst [(eTup [(eC (.int 6)), (eV 8)]), (eTup [(appM [.v (eC (.int 1))] negD), (eV 8)]), (eTup [(eC (.bl true)), (eV 8)]), (eTup [(eC .non), (eV 8)]), (eTup [(eV 7), (eV 8), (eC (.int 0))]), (eNew (eLst [(eV 7), (eV 8)])), (eTup [(eV 8), (eV 7)])])) (gV 10))
def spW2 : M Fl := (sAsg (appM [.v (eV 10), .v (eNew (eLst [(eTup [(eV 7), (appM [.v (eV 8)] list2D)]), (eTup [(eV 7)]), (eV 8), (eC .non), (eTup [(eV 7), (appM [.v (eV 8), .v (asInt (eC (.int 1)))] slDhi)]), (eTup [(eV 7), (eTup [(eC (.str "group")), (appM [.v (eV 3), .v (asInt (eC (.int 1)))] slDhi)])]), (eTup [(eV 7), (eTup [])])]))] addD) (gV 10))
def spW3 : M Fl := (sAsg (appM [.v (eV 10), .v (eNew (eLst [(eTup [(eV 7), (eTup [(eTup [(eC (.str "older")), (eTup [(eC (.str "age")), (eC (.int 1))]), (eTup [(eC (.str "age")), (eC (.int 0))])])])]), (eTup [(eC (.str "0")), (eV 8)]), (eTup [(eV 7), (eTup [(eC (.str "older")), (eTup [(eC (.str "age")), (eC (.int 10000))]), (eTup [(eC (.str "age")), (eC (.int 0))])])])]))] addD) (gV 10))
def spRet : M Fl := (sRet (eTup [(eV 3), (appM [.v (appM [.v (appM [.v (appM [.v (eV 2), .v (asInt (eV 6))] slDhi), .v (eNew (eLst [(eCall m__law_pick [0] [.p 0, .v (eV 10)] [])]))] addD), .v (appM [.v (eV 2), .v (asInt (appM [.v (eV 6), .v (eC (.int 1))] addD))] slDlo)] addD)] tupleD)]))
theorem sp_parts : g__law_spoilt = (sSeq spRow (sSeq spWay (sSeq sp0 (sSeq sp1 (sSeq spE (sSeq spAt (sSeq spGet (sSeq sp2 (sSeq spW1 (sSeq spW2 (sSeq spW3 spRet))))))))))) := by
  simp only [g__law_spoilt, spRow, spWay, sp0, sp1, spE, spAt, spGet, sp2, spW1, spW2, spW3, spRet]
theorem nodup_leA {α : Type} [DecidableEq α] : ∀ {xs ys : List α}, xs.Nodup → xs ⊆ ys → xs.length ≤ ys.length
  | [], _, _, _ => Nat.zero_le _
  | x :: xs, ys, hn, hs => by
    rw [List.nodup_cons] at hn
    have hx : x ∈ ys := hs (List.mem_cons_self ..)
    have h2 : xs ⊆ ys.erase x := fun y hy => by
      have hne : y ≠ x := by
        rintro rfl
        exact hn.1 hy
      exact (List.mem_erase_of_ne hne).mpr (hs (List.mem_cons_of_mem _ hy))
    have h3 := nodup_leA hn.2 h2
    rw [List.length_erase_of_mem hx] at h3
    have h4 := List.length_pos_of_mem hx
    simp only [List.length_cons]
    omega
theorem EnD.v {ks : List Str} {A : List Int} {d : D} (h : EnD ks A d) : EnV ks d := by
  obtain ⟨i, s, rfl, h0, h1, hs⟩ := h
  exact ⟨i, s, rfl, h0, h1, hs.st, hs.ok, hs.nm⟩
theorem tA_sub {ks : List Str} {A : List Int} {es : List D} (h : ∀ d ∈ es, EnD ks A d) : tA es ⊆ 0 :: A := fun a ha => by
  rw [tA, addAll_mem] at ha
  rcases ha with ha | ha
  · cases ha
  · obtain ⟨d, hd, ha⟩ := List.mem_flatMap.mp ha
    obtain ⟨i, s, rfl, _, _, hs⟩ := h d hd
    have : a ∈ dA s.d := ha
    rw [dA_eq s hs.ok] at this
    exact hs.ag a this
theorem tA_few {ks : List Str} {A : List Int} {es : List D} (hA : AgP A) (h : ∀ d ∈ es, EnD ks A d) : (tA es).length < 64 := by
  have h1 := nodup_leA (addAll_nodup (es.flatMap eA) List.nodup_nil) (tA_sub h)
  have h2 := hA.few
  have h3 : (tA es).length = (addAll [] (es.flatMap eA)).length := rfl
  rw [List.length_cons] at h1
  omega
theorem EnL.esp {ks : List Str} {A : List Int} {n : Nat} {es : List D} (hA : AgP A) (h : EnL ks A n es) (hn : n ≤ 900) : EsP ks es :=
  ⟨fun d hd => (h.en d hd).v, fun d hd => (h.en d hd).pt.1, h.nd, by have := h.few; omega, tA_few hA h.en⟩
theorem EnL.take {ks : List Str} {A : List Int} {n : Nat} {es : List D} (h : EnL ks A n es) (k : Nat) : EnL ks A n (es.take k) :=
  ⟨fun d hd => h.en d (List.mem_of_mem_take hd), h.nd.sublist (List.take_sublist k es), by have := h.few; rw [List.length_take]; omega⟩
/-- what is no book -/
def NoB (v : D) : Prop := m_is_book [v] = .ok (.bl false) []
def badK (b : D) : Prop := ∀ kk : List Str, b = rw_ kk → rowD (rw_ kk) 1 = true → kk.length ≤ 16 → False
theorem nob_k {b e : D} (hb : bnd b = true) (he : bnd e = true) (h : badK b) : NoB (.tup [b, e]) :=
  book_two b e hb he fun ⟨kk, es, e1, _, hp⟩ => h kk e1 hp.row hp.hi
/-- a value that is no entry -/
def entB : D → Bool
  | .tup [.int i, st] => decide (0 ≤ i) && (decide (i ≤ 5) && stD st)
  | _ => false
theorem EnV.b {kk : List Str} {d : D} (h : EnV kk d) : entB d = true := by
  obtain ⟨i, s, rfl, h0, h1, hst, _⟩ := h
  simp only [entB, h0, h1, hst, decide_true, Bool.and_self]
theorem nob_e {b : D} {es : List D} {w : D} (hb : bnd b = true) (he : bnd (.tup es) = true) (hw : w ∈ es) (h : entB w = false) : NoB (.tup [b, .tup es]) :=
  book_two b (.tup es) hb he fun ⟨kk, es', _, e2, hp⟩ => by
    injection e2 with e2
    subst e2
    rw [(hp.en w hw).b] at h
    cases h
theorem es_bnd {ks : List Str} {A : List Int} {es : List D} (h : EnL ks A 200 es) : bnd (.tup es) = true := bnd_tup.mpr ⟨by have := h.few; omega, fun d hd => pln_bnd 8 d (h.en d hd).pt.1⟩
theorem rw_asc {kk : List Str} (h : rowD (rw_ kk) 1 = true) : ascD (kk.map .str) = true ∧ (∀ x ∈ kk, kS x = true) ∧ 1 ≤ kk.length := by
  simp only [rw_, rowD, Bool.and_eq_true, decide_eq_true_eq, List.length_map] at h
  refine ⟨h.2, fun x hx => ?_, by have := h.1.1.1; omega⟩
  exact List.all_eq_true.mp h.1.2 (.str x) (List.mem_map_of_mem hx)
theorem badK_dup {xs : List D} {kk0 : List Str} (e : xs = kk0.map .str) (hn : ¬ kk0.Nodup) : badK (.tup xs) := fun kk e2 hr _ => by
  subst e
  have : kk0 = kk := by
    injection e2 with e2
    exact strs_inj e2
  subst this
  exact hn (asc_nodup (rw_asc hr).1)
structure EdP (ks : List Str) (A : List Int) (es : List D) : Prop where
  k : KsP ks
  a : AgP A
  e : EnL ks A 200 es
theorem sp0_ok (ns : List Int) (ks : List Str) (A : List Int) (es : List D) (h : EdP ks A es) (r4 : Option D) : SM 0 ns (sSeq (sAsg (eCall m__law_pick [0] [.p 0, .v (eNew (eLst [(eTup []), (appM [.v (eV 1)] list2D), (appM [.v (eV 3), .v (appM [.v (eV 3), .v (asInt (eC (.int 1)))] slDhi)] addD), (appM [.v (appM [.v (eV 3)] backD), .v (eTup [(eC (.str "a")), (eC (.str "a"))])] addD), (appM [.v (eV 3), .v (eC (.int 0))] ix2D), (eC .non), (appM [.v (eTup [(eC (.str "A"))]), .v (eV 3)] addD), (appM [.v (eCall m__law_kinds [0] [.p 0, .v (eC (.int 17))] [])] tupleD)]))] []) (gV 5))
  (sRet (eTup [(eV 5), (appM [.v (eV 2)] tupleD)]))) [none, some (lw_ ks), some (.lst es), some (rw_ ks), r4, none, none, none, none, none, none] fun fl r => 0 < r.length ∧ ∃ v, fl = .rt v ∧ bnd v = true ∧ NoB v := by
  have hk := h.k
  have hlo := hk.lo
  have hhi := hk.hi
  have hl0 : lenOk 0 = true := by decide
  have hl1 : lenOk 1 = true := by decide
  have hl2 : lenOk 2 = true := by decide
  have tadd : ∀ x y : List D, x.length + y.length ≤ 1000 → addD [.tup x, .tup y] = some (.tup (x ++ y)) := fun x y hxy => by
    have hk : lenOk (x.length + y.length) = true := decide_eq_true (by omega)
    simp only [addD, hk, if_true]
  obtain ⟨k0, kr, rfl⟩ : ∃ k0 kr, ks = k0 :: kr := by
    cases ks with
    | nil => simp at hlo
    | cons a b => exact ⟨a, b, rfl⟩
  have hrb : bnd (rw_ (k0 :: kr)) = true := row_bnd hk.kS (by omega)
  have heb := es_bnd h.e
  have hkb : ∀ x ∈ (k0 :: kr).map D.str, bnd x = true := (bnd_tup.mp hrb).2
  have v1 : list2D [lw_ (k0 :: kr)] = some (lw_ (k0 :: kr)) := rfl
  have v2 : slDhi [rw_ (k0 :: kr), .int 1] = some (.tup [.str k0]) := by
    have : slDhi [rw_ (k0 :: kr), .int ((1 : Nat) : Int)] = some (.tup (((k0 :: kr).map D.str).take 1)) := by simp only [rw_, slDhi, cutD, cut_take]
    exact this
  have v3 : addD [rw_ (k0 :: kr), .tup [.str k0]] = some (.tup ((k0 :: kr).map .str ++ [.str k0])) := tadd _ _ (by simp only [List.length_map, List.length_cons, List.length_nil] at *; omega)
  have v4 : backD [rw_ (k0 :: kr)] = some (.tup ((k0 :: kr).map D.str).reverse) := rfl
  have v5 : addD [.tup ((k0 :: kr).map D.str).reverse, .tup [.str "a", .str "a"]] = some (.tup (((k0 :: kr).map D.str).reverse ++ [.str "a", .str "a"])) := tadd _ _ (by simp only [List.length_reverse, List.length_map, List.length_cons, List.length_nil] at *; omega)
  have v6 : ix2D [rw_ (k0 :: kr), .int 0] = some (.str k0) := ixT _ 0 _ rfl
  have v7 : addD [.tup [.str "A"], rw_ (k0 :: kr)] = some (.tup (.str "A" :: (k0 :: kr).map .str)) := tadd [.str "A"] ((k0 :: kr).map .str) (by simp only [List.length_map, List.length_cons, List.length_nil] at *; omega)
  have done : ∀ b, bnd b = true → badK b → SM 0 ns (sRet (eTup [(eV 5), (appM [.v (eV 2)] tupleD)])) [none, some (lw_ (k0 :: kr)), some (.lst es), some (rw_ (k0 :: kr)), r4, some b, none, none, none, none, none] fun fl r => 0 < r.length ∧ ∃ v, fl = .rt v ∧ bnd v = true ∧ NoB v := fun b hb hbk =>
    SM.ret (SM.tup (SM.V1 (SM.v (d := b) rfl (SM.V1 (SM.app1 (SM.v (d := .lst es) rfl ⟨_, tuple_lst es, SM.V0 ⟨hl2, by simp, _, rfl, bnd_tup.mpr ⟨by simp, fun d hd => by
      simp only [List.mem_cons, List.not_mem_nil, or_false] at hd
      rcases hd with rfl | rfl <;> assumption⟩, nob_k hb heb hbk⟩⟩))))))
  refine SM.seq (SM.asg (SM.item (by simp) ?_))
  refine SM.V1 (SM.same (.tup []) (fun s => by simp [hl0]) (SM.V1 (SM.same (lw_ (k0 :: kr)) (fun s => by simp [v1]) (SM.V1 (SM.same (.tup ((k0 :: kr).map .str ++ [.str k0])) (fun s => by
    simp only [ev_app2v, ev_app1v, ev_asInt, ev_eV, eC_app, Res.bind_ok, List.set_cons_zero, List.getElem?_cons_succ, List.getElem?_cons_zero, M.pure_app, M.opt_some, v2, v3]) ?_)))))
  refine SM.V1 (SM.same (.tup (((k0 :: kr).map D.str).reverse ++ [.str "a", .str "a"])) (fun s => by
    have e : (eTup [(eC (.str "a")), (eC (.str "a"))]) [some s, some (lw_ (k0 :: kr)), some (.lst es), some (rw_ (k0 :: kr)), r4, none, none, none, none, none, none] = .ok (.tup [.str "a", .str "a"]) [some s, some (lw_ (k0 :: kr)), some (.lst es), some (rw_ (k0 :: kr)), r4, none, none, none, none, none, none] := rfl
    simp only [ev_app2v, ev_app1v, ev_eV, Res.bind_ok, List.set_cons_zero, List.getElem?_cons_succ, List.getElem?_cons_zero, M.opt_some, v4, e, v5]) ?_)
  refine SM.V1 (SM.same (.str k0) (fun s => by simp [v6]) (SM.V1 (SM.c (SM.V1 (SM.same (.tup (.str "A" :: (k0 :: kr).map .str)) (fun s => by
    have e : (eTup [(eC (.str "A"))]) [some s, some (lw_ (k0 :: kr)), some (.lst es), some (rw_ (k0 :: kr)), r4, none, none, none, none, none, none] = .ok (.tup [.str "A"]) [some s, some (lw_ (k0 :: kr)), some (.lst es), some (rw_ (k0 :: kr)), r4, none, none, none, none, none, none] := rfl
    simp only [ev_app2v, ev_eV, Res.bind_ok, List.set_cons_zero, List.getElem?_cons_succ, List.getElem?_cons_zero, M.opt_some, e, v7]) ?_)))))
  refine SM.V1 (SM.app1 (SM.call1 (by simp) (SM.c ⟨by simp, (sf_kinds ns 17 (by decide) (by decide)).mono fun v hv => ?_⟩)))
  obtain ⟨vs, rfl, hl, hkd, ha⟩ := hv
  obtain ⟨xs, rfl⟩ := strs_of hkd
  have hxs : ∀ x ∈ xs, kS x = true := fun x hx => List.all_eq_true.mp hkd (.str x) (List.mem_map_of_mem hx)
  rw [List.length_map] at hl
  refine ⟨_, tuple_lst _, SM.V0 ⟨by simp, by simp, fun v hv => ?_⟩⟩
  have sa : bnd (.str "a") = true := by decide
  have sA : bnd (.str "A") = true := by decide
  simp only [List.mem_cons, List.not_mem_nil, or_false] at hv
  rcases hv with rfl | rfl | rfl | rfl | rfl | rfl | rfl | rfl
  · exact done _ rfl fun kk e hr _ => by
      have := (rw_asc hr).2.2
      injection e with e
      cases kk with
      | nil => simp at this
      | cons a b => cases e
  · exact done _ (bnd_lst.mpr ⟨by rw [List.length_map]; omega, hkb⟩) fun kk e _ _ => by cases e
  · refine done _ (bnd_tup.mpr ⟨by simp only [List.length_append, List.length_map, List.length_cons, List.length_nil] at *; omega, fun d hd => ?_⟩) (badK_dup (kk0 := (k0 :: kr) ++ [k0]) (by simp) (by simp))
    rcases List.mem_append.mp hd with hd | hd
    · exact hkb d hd
    · rw [List.mem_singleton.mp hd]; exact hkb _ (by simp)
  · refine done _ (bnd_tup.mpr ⟨by simp only [List.length_append, List.length_reverse, List.length_map, List.length_cons, List.length_nil] at *; omega, fun d hd => ?_⟩) (badK_dup (kk0 := (k0 :: kr).reverse ++ ([Str.ofString "a", Str.ofString "a"] : List Str)) (by simp [List.map_reverse]) (fun z => by
      have := (List.nodup_append.mp z).2.1
      simp at this))
    rcases List.mem_append.mp hd with hd | hd
    · exact hkb d (List.mem_reverse.mp hd)
    · simp only [List.mem_cons, List.not_mem_nil, or_false] at hd
      rcases hd with rfl | rfl <;> exact sa
  · exact done _ (hkb _ (by simp)) fun kk e _ _ => by cases e
  · exact done _ rfl fun kk e _ _ => by cases e
  · refine done _ (bnd_tup.mpr ⟨by simp only [List.length_map, List.length_cons] at *; omega, fun d hd => ?_⟩) fun kk e hr _ => ?_
    · rcases List.mem_cons.mp hd with rfl | hd
      · exact sA
      · exact hkb d hd
    · injection e with e
      cases kk with
      | nil => cases e
      | cons a b =>
        have hka := (rw_asc hr).2.1 a (List.mem_cons_self ..)
        have e : D.str (Str.ofString "A") :: (k0 :: kr).map D.str = D.str a :: b.map D.str := e
        have : Str.ofString "A" = a := by
          have := (List.cons.inj e).1
          injection this
        subst this
        exact absurd hka (by decide)
  · refine done _ (row_bnd hxs (by omega)) fun kk e _ hkl => ?_
    have : xs = kk := by
      injection e with e
      exact strs_inj e
    subst this
    omega
end
end Gm
end
section
namespace Gm
open PySem DL Gx
noncomputable section
def G0 : Fl → DL.Env → Prop := fun fl r => 0 < r.length ∧ ∃ v, fl = .rt v ∧ bnd v = true ∧ NoB v
def sE (ks : List Str) (es : List D) (w o5 o6 o7 o8 o9 o10 : Option D) : DL.Env := [none, some (lw_ ks), some (.lst es), some (rw_ ks), w, o5, o6, o7, o8, o9, o10]
theorem nob_form {v : D} (hv : bnd v = true) (h : ∀ kk es, v = .tup [rw_ kk, .tup es] → rowD (rw_ kk) 1 = true → False) : NoB v :=
  book_no v hv fun ⟨kk, es, e, hp⟩ => h kk es e hp.row
theorem rw_pos {kk : List Str} (h : rowD (rw_ kk) 1 = true) : ∃ a b, kk = a :: b := by
  have := (rw_asc h).2.2
  cases kk with
  | nil => simp at this
  | cons a b => exact ⟨a, b, rfl⟩
theorem sp1_vals (ks : List Str) (A : List Int) (es : List D) (h : EdP ks A es) : ∀ v ∈ [D.tup [rw_ ks], .tup [rw_ ks, .lst es], .lst [rw_ ks, .tup es], .tup [rw_ ks, .tup es, .tup []], .tup [.tup es, rw_ ks], rw_ ks, .non], bnd v = true ∧ NoB v := by
  have hk := h.k
  have hhi := hk.hi
  have hrb : bnd (rw_ ks) = true := row_bnd hk.kS (by omega)
  have heb := es_bnd h.e
  have hel : bnd (.lst es) = true := bnd_lst.mpr (bnd_tup.mp heb)
  intro v hv
  have b2 : ∀ a b : D, bnd a = true → bnd b = true → bnd (.tup [a, b]) = true := fun a b ha hb => bnd_tup.mpr ⟨by simp, fun d hd => by
    simp only [List.mem_cons, List.not_mem_nil, or_false] at hd
    rcases hd with rfl | rfl <;> assumption⟩
  simp only [List.mem_cons, List.not_mem_nil, or_false] at hv
  rcases hv with rfl | rfl | rfl | rfl | rfl | rfl | rfl
  · have hb : bnd (.tup [rw_ ks]) = true := bnd_tup.mpr ⟨by simp, fun d hd => by rw [List.mem_singleton.mp hd]; exact hrb⟩
    exact ⟨hb, nob_form hb fun kk es' e _ => by simp at e⟩
  · have hb := b2 _ _ hrb hel
    exact ⟨hb, nob_form hb fun kk es' e _ => by simp at e⟩
  · have hb : bnd (.lst [rw_ ks, .tup es]) = true := bnd_lst.mpr (bnd_tup.mp (b2 _ _ hrb heb))
    exact ⟨hb, nob_form hb fun kk es' e _ => by simp at e⟩
  · have hb : bnd (.tup [rw_ ks, .tup es, .tup []]) = true := bnd_tup.mpr ⟨by simp, fun d hd => by
      simp only [List.mem_cons, List.not_mem_nil, or_false] at hd
      rcases hd with rfl | rfl | rfl
      · exact hrb
      · exact heb
      · rfl⟩
    exact ⟨hb, nob_form hb fun kk es' e _ => by simp at e⟩
  · have hb := b2 _ _ heb hrb
    refine ⟨hb, nob_form hb fun kk es' e hr => ?_⟩
    obtain ⟨a, b, rfl⟩ := rw_pos hr
    simp only [rw_, List.map_cons, D.tup.injEq, List.cons.injEq] at e
    have e1 := e.1
    cases es with
    | nil => cases e1
    | cons d ds =>
      rw [List.cons.injEq] at e1
      have := (h.e.en d (List.mem_cons_self ..)).isT
      rw [e1.1] at this
      cases this
  · refine ⟨hrb, nob_form hrb fun kk es' e hr => ?_⟩
    rw [rw_, D.tup.injEq] at e
    cases ks with
    | nil => cases e
    | cons a b =>
      have e : D.str a :: b.map D.str = [rw_ kk, .tup es'] := e
      rw [List.cons.injEq] at e
      have := e.1
      simp [rw_] at this
  · exact ⟨rfl, nob_form rfl fun kk es' e _ => by cases e⟩
theorem es_len (es : List D) : len3D [.lst es] = some (.int (es.length : Int)) := by simp
theorem two_bnd {a b : D} (ha : bnd a = true) (hb : bnd b = true) : bnd (.tup [a, b]) = true := bnd_tup.mpr ⟨by simp, fun d hd => by
    simp only [List.mem_cons, List.not_mem_nil, or_false] at hd
    rcases hd with rfl | rfl <;> assumption⟩
theorem sp2_val (ks : List Str) (A : List Int) (es : List D) (h : EdP ks A es) (x : D) (place : Nat) (hat : x ∈ es) : bnd (.tup [rw_ ks, .tup (es.take place ++ [x] ++ es.drop place)]) = true ∧ NoB (.tup [rw_ ks, .tup (es.take place ++ [x] ++ es.drop place)]) := by
  have hfew := h.e.few
  have hrb : bnd (rw_ ks) = true := row_bnd h.k.kS (by have := h.k.hi; omega)
  have hen : ∀ d ∈ es.take place ++ [x] ++ es.drop place, EnD ks A d := fun d hd => by
    rcases List.mem_append.mp hd with hd | hd
    · rcases List.mem_append.mp hd with hd | hd
      · exact h.e.en d (List.mem_of_mem_take hd)
      · rw [List.mem_singleton.mp hd]; exact h.e.en _ hat
    · exact h.e.en d (List.mem_of_mem_drop hd)
  have hl : (es.take place ++ [x] ++ es.drop place).length = es.length + 1 := by
    simp only [List.length_append, List.length_take, List.length_drop, List.length_cons, List.length_nil]
    omega
  have hnd : ¬ (es.take place ++ [x] ++ es.drop place).Nodup := fun z => by
    have hm := hat
    rw [← List.take_append_drop place es] at hm
    have z2 := z
    rw [List.nodup_append] at z
    rw [List.append_assoc, List.nodup_append] at z2
    rcases List.mem_append.mp hm with hm | hm
    · exact z2.2.2 _ hm _ (List.mem_append_left _ (List.mem_singleton.mpr rfl)) rfl
    · exact z.2.2 _ (List.mem_append_right _ (List.mem_singleton.mpr rfl)) _ hm rfl
  have heb : bnd (.tup (es.take place ++ [x] ++ es.drop place)) = true := bnd_tup.mpr ⟨by omega, fun d hd => pln_bnd 8 d (hen d hd).pt.1⟩
  refine ⟨two_bnd hrb heb, ?_⟩
  by_cases hp : BookPre ks (es.take place ++ [x] ++ es.drop place)
  · have := book_yes ks _ hp hrb (fun d hd => (hen d hd).pt.1) (tA_few h.a hen)
    rw [decide_eq_false hnd, Bool.false_and] at this
    exact this
  · exact book_two _ _ hrb heb fun ⟨kk, es', e1, e2, hp'⟩ => by
      injection e2 with e2
      subst e2
      have : ks = kk := by
        injection e1 with e1
        exact strs_inj e1
      subst this
      exact hp hp'
/-- the wrong entries -/
def w1L (i : Int) (st : D) : List D := [.tup [.int 6, st], .tup [.int (-1), st], .tup [.bl true, st], .tup [.non, st], .tup [.int i, st, .int 0], .lst [.int i, st], .tup [st, .int i]]
def w2L (i : Int) (st : D) (xs : List D) (row : List D) : List D := [.tup [.int i, .lst xs], .tup [.int i], st, .non, .tup [.int i, .tup (xs.take 1)], .tup [.int i, .tup [.str "group", .tup (row.take 1)]], .tup [.int i, .tup []]]
def w3L (i : Int) (st : D) : List D := [.tup [.int i, .tup [.tup [.str "older", .tup [.str "age", .int 1], .tup [.str "age", .int 0]]]], .tup [.str "0", st], .tup [.int i, .tup [.str "older", .tup [.str "age", .int 10000], .tup [.str "age", .int 0]]]]
theorem wrong_ok (i : Int) (s : Sta) (ks : List Str) (hk : ∀ x ∈ ks, kS x = true) (hs : pln 3 s.d = true) (xs : List D) (hx : s.d = .tup xs) : ∀ w ∈ w1L i s.d ++ w2L i s.d xs (ks.map .str) ++ w3L i s.d, bnd w = true ∧ entB w = false := by
  have hb : bnd s.d = true := pln_bnd 3 _ hs
  have hxb : xs.length ≤ 1000 ∧ ∀ d ∈ xs, bnd d = true := by rw [hx] at hb; exact bnd_tup.mp hb
  have hi : bnd (.int i) = true := rfl
  have so : bnd (.str "older") = true := by decide
  have sa : bnd (.str "age") = true := by decide
  have sg : bnd (.str "group") = true := by decide
  have sz : bnd (.str "0") = true := by decide
  have h3 : ∀ a b c : D, bnd a = true → bnd b = true → bnd c = true → bnd (.tup [a, b, c]) = true := fun a b c ha hb hc => bnd_tup.mpr ⟨by simp, fun d hd => by
    simp only [List.mem_cons, List.not_mem_nil, or_false] at hd
    rcases hd with rfl | rfl | rfl <;> assumption⟩
  have h1 : ∀ a : D, bnd a = true → bnd (.tup [a]) = true := fun a ha => bnd_tup.mpr ⟨by simp, fun d hd => by rw [List.mem_singleton.mp hd]; exact ha⟩
  have ag : ∀ n : Int, bnd (.tup [.str "age", .int n]) = true := fun n => two_bnd sa rfl
  have kb : ∀ d ∈ (ks.map D.str).take 1, bnd d = true := fun d hd => by
    obtain ⟨x, hx, rfl⟩ := List.mem_map.mp (List.mem_of_mem_take hd)
    have := (kS_len (hk x hx)).2
    exact decide_eq_true (by omega)
  intro w hw
  simp only [w1L, w2L, w3L, List.cons_append, List.nil_append, List.mem_cons, List.not_mem_nil, or_false] at hw
  rcases hw with rfl | rfl | rfl | rfl | rfl | rfl | rfl | rfl | rfl | rfl | rfl | rfl | rfl | rfl | rfl | rfl | rfl
  · exact ⟨two_bnd rfl hb, rfl⟩
  · exact ⟨two_bnd rfl hb, rfl⟩
  · exact ⟨two_bnd rfl hb, rfl⟩
  · exact ⟨two_bnd rfl hb, rfl⟩
  · exact ⟨h3 _ _ _ rfl hb rfl, rfl⟩
  · exact ⟨bnd_lst.mpr (bnd_tup.mp (two_bnd hi hb)), rfl⟩
  · exact ⟨two_bnd hb rfl, by cases s <;> rfl⟩
  · exact ⟨two_bnd rfl (bnd_lst.mpr hxb), by simp [entB, stD]⟩
  · exact ⟨h1 _ rfl, rfl⟩
  · exact ⟨hb, by cases s <;> rfl⟩
  · exact ⟨rfl, rfl⟩
  · refine ⟨two_bnd rfl (bnd_tup.mpr ⟨by rw [List.length_take]; omega, fun d hd => hxb.2 d (List.mem_of_mem_take hd)⟩), ?_⟩
    have : stD (.tup (xs.take 1)) = false := by
      cases s <;> (simp only [Sta.d, D.tup.injEq] at hx; subst hx; rfl)
    simp [entB, this]
  · refine ⟨two_bnd rfl (two_bnd sg (bnd_tup.mpr ⟨by rw [List.length_take]; omega, kb⟩)), ?_⟩
    have hr : rowD (.tup ((ks.map D.str).take 1)) 2 = false := by
      have : decide ((2 : Int) ≤ ((ks.map D.str).take 1).length) = false := decide_eq_false (by rw [List.length_take]; omega)
      simp only [rowD, this, Bool.false_and]
    have : stD (.tup [.str "group", .tup ((ks.map D.str).take 1)]) = false := by simp [stD, hr]
    simp [entB, this]
  · exact ⟨two_bnd rfl rfl, by simp [entB, stD]⟩
  · exact ⟨two_bnd rfl (h1 _ (h3 _ _ _ so (ag 1) (ag 0))), by simp [entB, stD]⟩
  · exact ⟨two_bnd sz hb, rfl⟩
  · refine ⟨two_bnd rfl (h3 _ _ _ so (ag 10000) (ag 0)), ?_⟩
    have : stD (.tup [.str "older", .tup [.str "age", .int 10000], .tup [.str "age", .int 0]]) = false := by decide +kernel
    simp [entB, this]
end
end Gm
end
section
namespace Gm
open PySem DL Gx
noncomputable section
theorem tl_lst (xs : List D) : tupleD [.lst xs] = some (.tup xs) := rfl
theorem ll_lst (xs : List D) : list2D [.lst xs] = some (.lst xs) := rfl
theorem ll_tup (xs : List D) : list2D [.tup xs] = some (.lst xs) := rfl
theorem ladd (x y : List D) (h : x.length + y.length ≤ 1000) : addD [.lst x, .lst y] = some (.lst (x ++ y)) := lst_add x y h
theorem lhi (xs : List D) (n : Nat) : slDhi [.lst xs, .int (n : Int)] = some (.lst (xs.take n)) := by simp only [slDhi, cutD, cut_take]
theorem llo (xs : List D) (n : Nat) : slDlo [.lst xs, .int (n : Int)] = some (.lst (xs.drop n)) := by simp only [slDlo, cutD, cut_drop]
theorem thi (xs : List D) (n : Nat) : slDhi [.tup xs, .int (n : Int)] = some (.tup (xs.take n)) := by simp only [slDhi, cutD, cut_take]
theorem st_tup (s : Sta) : ∃ xs, s.d = .tup xs := by cases s <;> exact ⟨_, rfl⟩
theorem evV_cons (f : M D) (fs : List (M D)) (ρ : DL.Env) (d : D) (ds : List D) (h1 : f ρ = .ok d ρ) (h2 : evalV fs ρ = .ok ds ρ) : evalV (f :: fs) ρ = .ok (d :: ds) ρ := by
  show (f ρ).bind _ = _
  rw [h1, Res.bind_ok, M.bind_app, h2]
  rfl
theorem eLst_ok (fs : List (M D)) (ρ : DL.Env) (ds : List D) (h : evalV fs ρ = .ok ds ρ) (hl : lenOk ds.length = true) : eNew (eLst fs) ρ = .ok (.lst ds) ρ := by
  show ((evalV fs ρ).bind _).bind _ = _
  rw [h, Res.bind_ok, if_pos hl]
  rfl
theorem eTup_ok (fs : List (M D)) (ρ : DL.Env) (ds : List D) (h : evalV fs ρ = .ok ds ρ) (hl : lenOk ds.length = true) : eTup fs ρ = .ok (.tup ds) ρ := by
  show ((evalV fs ρ).bind _) = _
  rw [h, Res.bind_ok, if_pos hl]
  rfl
section
variable (ns : List Int) (ks : List Str) (A : List Int) (es : List D) (h : EdP ks A es)
include h
theorem sp1_ok (r : DL.Env) (r4 : Option D) (hr : r = sE ks es r4 none none none none none none) : SM 0 ns (sRet (eCall m__law_pick [0] [.p 0, .v (eNew (eLst [(eTup [(eV 3)]), (eTup [(eV 3), (appM [.v (eV 2)] list2D)]), (eNew (eLst [(eV 3), (appM [.v (eV 2)] tupleD)])), (eTup [(eV 3), (appM [.v (eV 2)] tupleD), (eTup [])]), (eTup [(appM [.v (eV 2)] tupleD), (eV 3)]), (eV 3), (eC .non)]))] [])) r G0 := by
  subst hr
  have hl0 : lenOk 0 = true := by decide
  have hl1 : lenOk 1 = true := by decide
  have hl2 : lenOk 2 = true := by decide
  have hl3 : lenOk 3 = true := by decide
  refine SM.ret (SM.item (by simp [sE]) (SM.same [D.tup [rw_ ks], .tup [rw_ ks, .lst es], .lst [rw_ ks, .tup es], .tup [rw_ ks, .tup es, .tup []], .tup [.tup es, rw_ ks], rw_ ks, .non] (fun s => ?_) ⟨by simp, by simp [sE], fun v hv => ⟨by simp [sE], v, rfl, sp1_vals ks A es h v hv⟩⟩))
  have e3 : eV 3 ((sE ks es r4 none none none none none none).set 0 (some s)) = .ok (rw_ ks) ((sE ks es r4 none none none none none none).set 0 (some s)) := rfl
  have eL : (appM [.v (eV 2)] list2D) ((sE ks es r4 none none none none none none).set 0 (some s)) = .ok (.lst es) ((sE ks es r4 none none none none none none).set 0 (some s)) := by simp [sE, ll_lst]
  have eT : (appM [.v (eV 2)] tupleD) ((sE ks es r4 none none none none none none).set 0 (some s)) = .ok (.tup es) ((sE ks es r4 none none none none none none).set 0 (some s)) := by simp [sE, tl_lst]
  generalize (sE ks es r4 none none none none none none).set 0 (some s) = ρ at e3 eL eT
  have n0 : evalV [] ρ = .ok [] ρ := rfl
  refine evV_cons _ _ _ _ _ (eTup_ok _ _ _ (evV_cons _ _ _ _ _ e3 n0) hl1) ?_
  refine evV_cons _ _ _ _ _ (eTup_ok _ _ _ (evV_cons _ _ _ _ _ e3 (evV_cons _ _ _ _ _ eL n0)) hl2) ?_
  refine evV_cons _ _ _ _ _ (eLst_ok _ _ _ (evV_cons _ _ _ _ _ e3 (evV_cons _ _ _ _ _ eT n0)) hl2) ?_
  refine evV_cons _ _ _ _ _ (eTup_ok _ _ _ (evV_cons _ _ _ _ _ e3 (evV_cons _ _ _ _ _ eT (evV_cons _ _ _ _ _ (eTup_ok _ _ _ n0 hl0) n0))) hl3) ?_
  refine evV_cons _ _ _ _ _ (eTup_ok _ _ _ (evV_cons _ _ _ _ _ eT (evV_cons _ _ _ _ _ e3 n0)) hl2) ?_
  exact evV_cons _ _ _ _ _ e3 (evV_cons _ _ _ _ _ rfl n0)
theorem spRet_ok (w at_ : Nat) (W : List D) (hat : at_ < es.length) (r4 o7 o8 : Option D) (hW0 : 0 < W.length) (hW1 : W.length < 1000) (hW : ∀ d ∈ W, bnd d = true ∧ entB d = false) : SM 0 ns spRet (sE ks es r4 none (some (.int (at_ : Int))) o7 o8 none (some (.lst W))) G0 := by
  have hfew := h.e.few
  have hl1 : lenOk 1 = true := by decide
  have hl2 : lenOk 2 = true := by decide
  have hrb : bnd (rw_ ks) = true := row_bnd h.k.kS (by have := h.k.hi; omega)
  have heb := (bnd_tup.mp (es_bnd h.e)).2
  refine SM.ret (SM.tup (SM.V1 (SM.v (d := rw_ ks) rfl (SM.V1 (SM.app1 (SM.app2 (SM.app2 (SM.same (.lst (es.take at_)) (fun s => ?_) (SM.new (SM.lst (SM.V1 (SM.call1 (by simp [sE]) (SM.v (d := .lst W) rfl ⟨by simp [sE], (sf_pick ns W hW0 (by omega)).mono fun x hx => SM.V0 ⟨hl1, _, rfl, _, ladd _ _ ?_, SM.same (.lst (es.drop (at_ + 1))) (fun s => ?_) ⟨_, ladd _ _ ?_, _, tl_lst _, SM.V0 ⟨hl2, by simp [sE], _, rfl, ?_⟩⟩⟩⟩)))))))))))))
  · have := lhi es at_
    simp [sE, this]
  · rw [List.length_take]; simp only [List.length_cons, List.length_nil]; omega
  · have f1 : addD [.int (at_ : Int), .int 1] = some (.int ((at_ + 1 : Nat) : Int)) := addN at_ 1
    have f2 := llo es (at_ + 1)
    simp only [sE, ev_app2v, ev_asInt, ev_eV, eC_app, Res.bind_ok, List.set_cons_zero, List.getElem?_cons_succ, List.getElem?_cons_zero, M.pure_app, M.opt_some, f1, f2]
  · simp only [List.length_append, List.length_take, List.length_drop, List.length_cons, List.length_nil]; omega
  · have hb : bnd (.tup (es.take at_ ++ [x] ++ es.drop (at_ + 1))) = true := bnd_tup.mpr ⟨by simp only [List.length_append, List.length_take, List.length_drop, List.length_cons, List.length_nil]; omega, fun d hd => by
      rcases List.mem_append.mp hd with hd | hd
      · rcases List.mem_append.mp hd with hd | hd
        · exact heb d (List.mem_of_mem_take hd)
        · rw [List.mem_singleton.mp hd]; exact (hW x hx).1
      · exact heb d (List.mem_of_mem_drop hd)⟩
    exact ⟨two_bnd hrb hb, nob_e hrb hb (List.mem_append_left _ (List.mem_append_right _ (List.mem_singleton.mpr rfl))) (hW x hx).2⟩
end
end
end Gm
end
section
namespace Gm
open PySem DL Gx
noncomputable section
theorem spW_vals (ks : List Str) (es : List D) (r4 o6 o9 : Option D) (i : Int) (st : D) (xs : List D) (hx : st = .tup xs) (s : D) (o10 : Option D) :
    spW1 ((sE ks es r4 none o6 (some (.int i)) (some st) o9 o10).set 0 (some s)) = .ok .nx ((sE ks es r4 none o6 (some (.int i)) (some st) o9 (some (.lst (w1L i st)))).set 0 (some s)) ∧
    spW2 ((sE ks es r4 none o6 (some (.int i)) (some st) o9 (some (.lst (w1L i st)))).set 0 (some s)) = .ok .nx ((sE ks es r4 none o6 (some (.int i)) (some st) o9 (some (.lst (w1L i st ++ w2L i st xs (ks.map .str))))).set 0 (some s)) ∧
    spW3 ((sE ks es r4 none o6 (some (.int i)) (some st) o9 (some (.lst (w1L i st ++ w2L i st xs (ks.map .str))))).set 0 (some s)) = .ok .nx ((sE ks es r4 none o6 (some (.int i)) (some st) o9 (some (.lst (w1L i st ++ w2L i st xs (ks.map .str) ++ w3L i st)))).set 0 (some s)) := by
  have hl0 : lenOk 0 = true := by decide
  have hl1 : lenOk 1 = true := by decide
  have hl2 : lenOk 2 = true := by decide
  have hl3 : lenOk 3 = true := by decide
  have hl7 : lenOk 7 = true := by decide
  have neg : negD [.int 1] = some (.int (-1)) := rfl
  have t1 : slDhi [st, .int 1] = some (.tup (xs.take 1)) := by subst hx; exact thi xs 1
  have t2 : slDhi [rw_ ks, .int 1] = some (.tup ((ks.map D.str).take 1)) := thi (ks.map .str) 1
  have t3 : list2D [st] = some (.lst xs) := by subst hx; rfl
  have a2 : addD [.lst (w1L i st), .lst (w2L i st xs (ks.map .str))] = some (.lst (w1L i st ++ w2L i st xs (ks.map .str))) := ladd _ _ (by simp [w1L, w2L])
  have a3 : addD [.lst (w1L i st ++ w2L i st xs (ks.map .str)), .lst (w3L i st)] = some (.lst (w1L i st ++ w2L i st xs (ks.map .str) ++ w3L i st)) := ladd _ _ (by simp [w1L, w2L, w3L])
  have nil : ∀ ρ, evalV [] ρ = .ok [] ρ := fun ρ => rfl
  have cst : ∀ (d : D) (ρ : DL.Env), eC d ρ = .ok d ρ := fun d ρ => rfl
  refine ⟨?_, ?_, ?_⟩
  · have e7 : eV 7 ((sE ks es r4 none o6 (some (.int i)) (some st) o9 o10).set 0 (some s)) = .ok (.int i) ((sE ks es r4 none o6 (some (.int i)) (some st) o9 o10).set 0 (some s)) := rfl
    have e8 : eV 8 ((sE ks es r4 none o6 (some (.int i)) (some st) o9 o10).set 0 (some s)) = .ok st ((sE ks es r4 none o6 (some (.int i)) (some st) o9 o10).set 0 (some s)) := rfl
    have en : (appM [.v (eC (.int 1))] negD) ((sE ks es r4 none o6 (some (.int i)) (some st) o9 o10).set 0 (some s)) = .ok (.int (-1)) ((sE ks es r4 none o6 (some (.int i)) (some st) o9 o10).set 0 (some s)) := by simp [neg]
    unfold spW1
    have hS : ∀ ρ, ρ = (sE ks es r4 none o6 (some (.int i)) (some st) o9 o10).set 0 (some s) → (eNew (eLst [(eTup [(eC (.int 6)), (eV 8)]), (eTup [(appM [.v (eC (.int 1))] negD), (eV 8)]), (eTup [(eC (.bl true)), (eV 8)]), (eTup [(eC .non), (eV 8)]), (eTup [(eV 7), (eV 8), (eC (.int 0))]), (eNew (eLst [(eV 7), (eV 8)])), (eTup [(eV 8), (eV 7)])])) ρ = .ok (.lst (w1L i st)) ρ := by
      rintro ρ rfl
      generalize (sE ks es r4 none o6 (some (.int i)) (some st) o9 o10).set 0 (some s) = ρ at e7 e8 en
      refine eLst_ok _ _ _ ?_ hl7
      refine evV_cons _ _ _ _ _ (eTup_ok _ _ _ (evV_cons _ _ _ _ _ (cst _ _) (evV_cons _ _ _ _ _ e8 (nil _))) hl2) ?_
      refine evV_cons _ _ _ _ _ (eTup_ok _ _ _ (evV_cons _ _ _ _ _ en (evV_cons _ _ _ _ _ e8 (nil _))) hl2) ?_
      refine evV_cons _ _ _ _ _ (eTup_ok _ _ _ (evV_cons _ _ _ _ _ (cst _ _) (evV_cons _ _ _ _ _ e8 (nil _))) hl2) ?_
      refine evV_cons _ _ _ _ _ (eTup_ok _ _ _ (evV_cons _ _ _ _ _ (cst _ _) (evV_cons _ _ _ _ _ e8 (nil _))) hl2) ?_
      refine evV_cons _ _ _ _ _ (eTup_ok _ _ _ (evV_cons _ _ _ _ _ e7 (evV_cons _ _ _ _ _ e8 (evV_cons _ _ _ _ _ (cst _ _) (nil _)))) hl3) ?_
      refine evV_cons _ _ _ _ _ (eLst_ok _ _ _ (evV_cons _ _ _ _ _ e7 (evV_cons _ _ _ _ _ e8 (nil _))) hl2) ?_
      exact evV_cons _ _ _ _ _ (eTup_ok _ _ _ (evV_cons _ _ _ _ _ e8 (evV_cons _ _ _ _ _ e7 (nil _))) hl2) (nil _)
    rw [ev_asg, hS _ rfl]
    rfl
  · have e7 : eV 7 ((sE ks es r4 none o6 (some (.int i)) (some st) o9 (some (.lst (w1L i st)))).set 0 (some s)) = .ok (.int i) ((sE ks es r4 none o6 (some (.int i)) (some st) o9 (some (.lst (w1L i st)))).set 0 (some s)) := rfl
    have e8 : eV 8 ((sE ks es r4 none o6 (some (.int i)) (some st) o9 (some (.lst (w1L i st)))).set 0 (some s)) = .ok st ((sE ks es r4 none o6 (some (.int i)) (some st) o9 (some (.lst (w1L i st)))).set 0 (some s)) := rfl
    have e10 : eV 10 ((sE ks es r4 none o6 (some (.int i)) (some st) o9 (some (.lst (w1L i st)))).set 0 (some s)) = .ok (.lst (w1L i st)) ((sE ks es r4 none o6 (some (.int i)) (some st) o9 (some (.lst (w1L i st)))).set 0 (some s)) := rfl
    have el : (appM [.v (eV 8)] list2D) ((sE ks es r4 none o6 (some (.int i)) (some st) o9 (some (.lst (w1L i st)))).set 0 (some s)) = .ok (.lst xs) ((sE ks es r4 none o6 (some (.int i)) (some st) o9 (some (.lst (w1L i st)))).set 0 (some s)) := by simp only [ev_app1v, e8, Res.bind_ok, t3, M.opt_some]
    have eh : (appM [.v (eV 8), .v (asInt (eC (.int 1)))] slDhi) ((sE ks es r4 none o6 (some (.int i)) (some st) o9 (some (.lst (w1L i st)))).set 0 (some s)) = .ok (.tup (xs.take 1)) ((sE ks es r4 none o6 (some (.int i)) (some st) o9 (some (.lst (w1L i st)))).set 0 (some s)) := by simp only [ev_app2v, e8, Res.bind_ok, ev_asInt, eC_app, M.pure_app, t1, M.opt_some]
    have er : (appM [.v (eV 3), .v (asInt (eC (.int 1)))] slDhi) ((sE ks es r4 none o6 (some (.int i)) (some st) o9 (some (.lst (w1L i st)))).set 0 (some s)) = .ok (.tup ((ks.map D.str).take 1)) ((sE ks es r4 none o6 (some (.int i)) (some st) o9 (some (.lst (w1L i st)))).set 0 (some s)) := by
      have e3 : eV 3 ((sE ks es r4 none o6 (some (.int i)) (some st) o9 (some (.lst (w1L i st)))).set 0 (some s)) = .ok (rw_ ks) ((sE ks es r4 none o6 (some (.int i)) (some st) o9 (some (.lst (w1L i st)))).set 0 (some s)) := rfl
      simp only [ev_app2v, e3, Res.bind_ok, ev_asInt, eC_app, M.pure_app, t2, M.opt_some]
    unfold spW2
    have hS : ∀ ρ, ρ = (sE ks es r4 none o6 (some (.int i)) (some st) o9 (some (.lst (w1L i st)))).set 0 (some s) → (eNew (eLst [(eTup [(eV 7), (appM [.v (eV 8)] list2D)]), (eTup [(eV 7)]), (eV 8), (eC .non), (eTup [(eV 7), (appM [.v (eV 8), .v (asInt (eC (.int 1)))] slDhi)]), (eTup [(eV 7), (eTup [(eC (.str "group")), (appM [.v (eV 3), .v (asInt (eC (.int 1)))] slDhi)])]), (eTup [(eV 7), (eTup [])])])) ρ = .ok (.lst (w2L i st xs (ks.map .str))) ρ := by
      rintro ρ rfl
      generalize (sE ks es r4 none o6 (some (.int i)) (some st) o9 (some (.lst (w1L i st)))).set 0 (some s) = ρ at e7 e8 el eh er
      refine eLst_ok _ _ _ ?_ hl7
      refine evV_cons _ _ _ _ _ (eTup_ok _ _ _ (evV_cons _ _ _ _ _ e7 (evV_cons _ _ _ _ _ el (nil _))) hl2) ?_
      refine evV_cons _ _ _ _ _ (eTup_ok _ _ _ (evV_cons _ _ _ _ _ e7 (nil _)) hl1) ?_
      refine evV_cons _ _ _ _ _ e8 (evV_cons _ _ _ _ _ (cst _ _) ?_)
      refine evV_cons _ _ _ _ _ (eTup_ok _ _ _ (evV_cons _ _ _ _ _ e7 (evV_cons _ _ _ _ _ eh (nil _))) hl2) ?_
      refine evV_cons _ _ _ _ _ (eTup_ok _ _ _ (evV_cons _ _ _ _ _ e7 (evV_cons _ _ _ _ _ (eTup_ok _ _ _ (evV_cons _ _ _ _ _ (cst _ _) (evV_cons _ _ _ _ _ er (nil _))) hl2) (nil _))) hl2) ?_
      exact evV_cons _ _ _ _ _ (eTup_ok _ _ _ (evV_cons _ _ _ _ _ e7 (evV_cons _ _ _ _ _ (eTup_ok _ _ _ (nil _) hl0) (nil _))) hl2) (nil _)
    rw [ev_asg, ev_app2v, e10, Res.bind_ok, hS _ rfl, Res.bind_ok, a2]
    rfl
  · have e7 : eV 7 ((sE ks es r4 none o6 (some (.int i)) (some st) o9 (some (.lst (w1L i st ++ w2L i st xs (ks.map .str))))).set 0 (some s)) = .ok (.int i) ((sE ks es r4 none o6 (some (.int i)) (some st) o9 (some (.lst (w1L i st ++ w2L i st xs (ks.map .str))))).set 0 (some s)) := rfl
    have e8 : eV 8 ((sE ks es r4 none o6 (some (.int i)) (some st) o9 (some (.lst (w1L i st ++ w2L i st xs (ks.map .str))))).set 0 (some s)) = .ok st ((sE ks es r4 none o6 (some (.int i)) (some st) o9 (some (.lst (w1L i st ++ w2L i st xs (ks.map .str))))).set 0 (some s)) := rfl
    have e10 : eV 10 ((sE ks es r4 none o6 (some (.int i)) (some st) o9 (some (.lst (w1L i st ++ w2L i st xs (ks.map .str))))).set 0 (some s)) = .ok (.lst (w1L i st ++ w2L i st xs (ks.map .str))) ((sE ks es r4 none o6 (some (.int i)) (some st) o9 (some (.lst (w1L i st ++ w2L i st xs (ks.map .str))))).set 0 (some s)) := rfl
    unfold spW3
    have hS : ∀ ρ, ρ = (sE ks es r4 none o6 (some (.int i)) (some st) o9 (some (.lst (w1L i st ++ w2L i st xs (ks.map .str))))).set 0 (some s) → (eNew (eLst [(eTup [(eV 7), (eTup [(eTup [(eC (.str "older")), (eTup [(eC (.str "age")), (eC (.int 1))]), (eTup [(eC (.str "age")), (eC (.int 0))])])])]), (eTup [(eC (.str "0")), (eV 8)]), (eTup [(eV 7), (eTup [(eC (.str "older")), (eTup [(eC (.str "age")), (eC (.int 10000))]), (eTup [(eC (.str "age")), (eC (.int 0))])])])])) ρ = .ok (.lst (w3L i st)) ρ := by
      rintro ρ rfl
      generalize (sE ks es r4 none o6 (some (.int i)) (some st) o9 (some (.lst (w1L i st ++ w2L i st xs (ks.map .str))))).set 0 (some s) = ρ at e7 e8
      have ag : ∀ n : Int, (eTup [(eC (.str "age")), (eC (.int n))]) ρ = .ok (.tup [.str "age", .int n]) ρ := fun n => eTup_ok _ _ _ (evV_cons _ _ _ _ _ (cst _ _) (evV_cons _ _ _ _ _ (cst _ _) (nil _))) hl2
      have old : ∀ n : Int, (eTup [(eC (.str "older")), (eTup [(eC (.str "age")), (eC (.int n))]), (eTup [(eC (.str "age")), (eC (.int 0))])]) ρ = .ok (.tup [.str "older", .tup [.str "age", .int n], .tup [.str "age", .int 0]]) ρ := fun n => eTup_ok _ _ _ (evV_cons _ _ _ _ _ (cst _ _) (evV_cons _ _ _ _ _ (ag n) (evV_cons _ _ _ _ _ (ag 0) (nil _)))) hl3
      refine eLst_ok _ _ _ ?_ hl3
      refine evV_cons _ _ _ _ _ (eTup_ok _ _ _ (evV_cons _ _ _ _ _ e7 (evV_cons _ _ _ _ _ (eTup_ok _ _ _ (evV_cons _ _ _ _ _ (old 1) (nil _)) hl1) (nil _))) hl2) ?_
      refine evV_cons _ _ _ _ _ (eTup_ok _ _ _ (evV_cons _ _ _ _ _ (cst _ _) (evV_cons _ _ _ _ _ e8 (nil _))) hl2) ?_
      exact evV_cons _ _ _ _ _ (eTup_ok _ _ _ (evV_cons _ _ _ _ _ e7 (evV_cons _ _ _ _ _ (old 10000) (nil _))) hl2) (nil _)
    rw [ev_asg, ev_app2v, e10, Res.bind_ok, hS _ rfl, Res.bind_ok, a3]
    rfl
theorem sf_spoilt (ns : List Int) (ks : List Str) (A : List Int) (es : List D) (h : EdP ks A es) : SF ns m__law_spoilt [lw_ ks, .lst es] fun v => bnd v = true ∧ NoB v := by
  have hfew := h.e.few
  have hl1 : lenOk 1 = true := by decide
  have hl2 : lenOk 2 = true := by decide
  have hl3 : lenOk 3 = true := by decide
  have hrb : bnd (rw_ ks) = true := row_bnd h.k.kS (by have := h.k.hi; omega)
  have t1 : tupleD [lw_ ks] = some (rw_ ks) := rfl
  unfold m__law_spoilt
  rw [sp_parts]
  refine SF.mk (SM.seq (SM.asg (SM.app1 (SM.v (d := lw_ ks) rfl ⟨_, t1, ?_⟩))))
  refine SM.seq (SM.asg (SM.digit (by simp) 6 (by decide) (by decide) (SM.c ⟨rfl, by simp, fun way hw0 hw1 => ?_⟩)))
  show SM 0 ns _ (sE ks es (some (.int way)) none none none none none none) G0
  have kick : ∀ {s : M Fl} {r : DL.Env} {t : M Fl}, SM 0 ns s r G0 → SM 0 ns s r fun fl r1 => match fl with | .nx => SM 0 ns t r1 G0 | fl => G0 fl r1 := fun {s r t} hs => hs.mono fun fl r1 hq => by
    obtain ⟨h1, v, rfl, h2⟩ := hq
    exact ⟨h1, v, rfl, h2⟩
  refine SM.seq (SM.sif (SM.tst (SM.app2 (SM.v (d := .int way) rfl (SM.c ⟨_, eq_ints way 0, _, rfl, fun _ => kick (sp0_ok ns ks A es h (some (.int way))), fun _ => SM.nx ?_⟩)))))
  refine SM.seq (SM.sif (SM.tst (SM.app2 (SM.v (d := .int way) rfl (SM.c ⟨_, eq_ints way 1, _, rfl, fun _ => kick (sp1_ok ns ks A es h _ (some (.int way)) rfl), fun _ => SM.nx ?_⟩)))))
  refine SM.retIf (b := decide ((es.length : Int) = 0)) (fun s => by simp [sE]) (fun _ => ?_) (fun hne => ?_)
  · have n0 : ∀ ρ, evalV [] ρ = .ok [] ρ := fun ρ => rfl
    have cst : ∀ (d : D) (ρ : DL.Env), eC d ρ = .ok d ρ := fun d ρ => rfl
    have ag : ∀ (n : Int) (ρ : DL.Env), (eTup [(eC (.str "age")), (eC (.int n))]) ρ = .ok (.tup [.str "age", .int n]) ρ := fun n ρ => eTup_ok _ _ _ (evV_cons _ _ _ _ _ (cst _ _) (evV_cons _ _ _ _ _ (cst _ _) (n0 _))) hl2
    have old : ∀ (n : Int) (ρ : DL.Env), (eTup [(eC (.str "older")), (eTup [(eC (.str "age")), (eC (.int n))]), (eTup [(eC (.str "age")), (eC (.int 0))])]) ρ = .ok (.tup [.str "older", .tup [.str "age", .int n], .tup [.str "age", .int 0]]) ρ := fun n ρ => eTup_ok _ _ _ (evV_cons _ _ _ _ _ (cst _ _) (evV_cons _ _ _ _ _ (ag n _) (evV_cons _ _ _ _ _ (ag 0 _) (n0 _)))) hl3
    refine SM.same (.tup [rw_ ks, .tup [.tup [.int 6, .tup [.str "older", .tup [.str "age", .int 1], .tup [.str "age", .int 0]]]]]) (fun s => ?_) ⟨by simp [sE], _, rfl, ?_⟩
    · have e3 : eV 3 ((sE ks es (some (.int way)) none none none none none none).set 0 (some s)) = .ok (rw_ ks) ((sE ks es (some (.int way)) none none none none none none).set 0 (some s)) := rfl
      exact eTup_ok _ _ _ (evV_cons _ _ _ _ _ e3 (evV_cons _ _ _ _ _ (eTup_ok _ _ _ (evV_cons _ _ _ _ _ (eTup_ok _ _ _ (evV_cons _ _ _ _ _ (cst _ _) (evV_cons _ _ _ _ _ (old 1 _) (n0 _))) hl2) (n0 _)) hl1) (n0 _))) hl2
    · have hb : bnd (.tup [.tup [.int 6, .tup [.str "older", .tup [.str "age", .int 1], .tup [.str "age", .int 0]]]]) = true := by decide +kernel
      exact ⟨two_bnd hrb hb, nob_e hrb hb (List.mem_singleton.mpr rfl) (by decide +kernel)⟩
  · have hpos : 0 < es.length := by
      have := of_decide_eq_false hne
      omega
    refine SM.seq (SM.asg (SM.digit (by simp [sE]) (es.length : Int) (by omega) (by omega) (SM.same (.int (es.length : Int)) (fun s => by simp [sE]) ⟨rfl, by simp [sE], fun at_ ha0 ha1 => ?_⟩)))
    obtain ⟨at_, rfl⟩ : ∃ n : Nat, at_ = (n : Int) := ⟨at_.toNat, by omega⟩
    have hat : at_ < es.length := by omega
    show SM 0 ns _ (sE ks es (some (.int way)) none (some (.int (at_ : Int))) none none none none) G0
    have hix : ix2D [.lst es, .int (at_ : Int)] = some es[at_] := ixL es at_ _ (List.getElem?_eq_getElem hat)
    obtain ⟨i, s, hd, hi0, hi1, hs⟩ := h.e.en es[at_] (List.getElem_mem hat)
    obtain ⟨xs, hxs⟩ := st_tup s
    refine SM.seq (SM.det .nx (sE ks es (some (.int way)) none (some (.int (at_ : Int))) (some (.int i)) (some s.d) none none) (fun σ => ?_) ?_)
    · have e : (appM [.v (eV 2), .v (eV 6)] ix2D) ((sE ks es (some (.int way)) none (some (.int (at_ : Int))) none none none none).set 0 (some σ)) = .ok (.tup [.int i, s.d]) ((sE ks es (some (.int way)) none (some (.int (at_ : Int))) none none none none).set 0 (some σ)) := by
        rw [← hd]
        simp [sE, hix]
      unfold spGet
      rw [ev_asg, e]
      rfl
    show SM 0 ns _ _ G0
    refine SM.seq (SM.sif (SM.tst (SM.app2 (SM.v (d := .int way) rfl (SM.c ⟨_, eq_ints way 2, _, rfl, fun _ => kick ?_, fun _ => SM.nx ?_⟩)))))
    · refine SM.seq (SM.asg (SM.digit (by simp [sE]) ((es.length : Int) + 1) (by omega) (by omega) (SM.same (.int ((es.length : Int) + 1)) (fun s => by simp [sE]) ⟨rfl, by simp [sE], fun pl hp0 hp1 => ?_⟩)))
      obtain ⟨pl, rfl⟩ : ∃ n : Nat, pl = (n : Int) := ⟨pl.toNat, by omega⟩
      show SM 0 ns _ (sE ks es (some (.int way)) none (some (.int (at_ : Int))) (some (.int i)) (some s.d) (some (.int (pl : Int))) none) G0
      have f1 := lhi es pl
      have f2 := llo es pl
      have a1 : addD [.lst (es.take pl), .lst [es[at_]]] = some (.lst (es.take pl ++ [es[at_]])) := ladd _ _ (by rw [List.length_take]; simp only [List.length_cons, List.length_nil]; omega)
      have a2 : addD [.lst (es.take pl ++ [es[at_]]), .lst (es.drop pl)] = some (.lst (es.take pl ++ [es[at_]] ++ es.drop pl)) := ladd _ _ (by simp only [List.length_append, List.length_take, List.length_drop, List.length_cons, List.length_nil]; omega)
      refine SM.ret (SM.same (.tup [rw_ ks, .tup (es.take pl ++ [es[at_]] ++ es.drop pl)]) (fun σ => ?_) ⟨by simp [sE], _, rfl, sp2_val ks A es h es[at_] pl (List.getElem_mem hat)⟩)
      have e1 : (eNew (eLst [(appM [.v (eV 2), .v (eV 6)] ix2D)])) ((sE ks es (some (.int way)) none (some (.int (at_ : Int))) (some (.int i)) (some s.d) (some (.int (pl : Int))) none).set 0 (some σ)) = .ok (.lst [es[at_]]) ((sE ks es (some (.int way)) none (some (.int (at_ : Int))) (some (.int i)) (some s.d) (some (.int (pl : Int))) none).set 0 (some σ)) := by simp [sE, hix, hl1]
      have e3 : eV 3 ((sE ks es (some (.int way)) none (some (.int (at_ : Int))) (some (.int i)) (some s.d) (some (.int (pl : Int))) none).set 0 (some σ)) = .ok (rw_ ks) ((sE ks es (some (.int way)) none (some (.int (at_ : Int))) (some (.int i)) (some s.d) (some (.int (pl : Int))) none).set 0 (some σ)) := rfl
      have eh : (appM [.v (eV 2), .v (asInt (eV 9))] slDhi) ((sE ks es (some (.int way)) none (some (.int (at_ : Int))) (some (.int i)) (some s.d) (some (.int (pl : Int))) none).set 0 (some σ)) = .ok (.lst (es.take pl)) ((sE ks es (some (.int way)) none (some (.int (at_ : Int))) (some (.int i)) (some s.d) (some (.int (pl : Int))) none).set 0 (some σ)) := by simp [sE, f1]
      have el : (appM [.v (eV 2), .v (asInt (eV 9))] slDlo) ((sE ks es (some (.int way)) none (some (.int (at_ : Int))) (some (.int i)) (some s.d) (some (.int (pl : Int))) none).set 0 (some σ)) = .ok (.lst (es.drop pl)) ((sE ks es (some (.int way)) none (some (.int (at_ : Int))) (some (.int i)) (some s.d) (some (.int (pl : Int))) none).set 0 (some σ)) := by simp [sE, f2]
      refine eTup_ok _ _ _ (evV_cons _ _ _ _ _ e3 (evV_cons _ _ _ _ _ ?_ rfl)) hl2
      rw [ev_app1v, ev_app2v, ev_app2v, eh, Res.bind_ok, e1, Res.bind_ok, a1, M.opt_some, Res.bind_ok, el, Res.bind_ok, a2, M.opt_some, Res.bind_ok, tl_lst, M.opt_some]
    · refine SM.seq (SM.det .nx (sE ks es (some (.int way)) none (some (.int (at_ : Int))) (some (.int i)) (some s.d) none (some (.lst (w1L i s.d)))) (fun σ => (spW_vals ks es _ _ none i s.d xs hxs σ none).1) ?_)
      refine SM.seq (SM.det .nx (sE ks es (some (.int way)) none (some (.int (at_ : Int))) (some (.int i)) (some s.d) none (some (.lst (w1L i s.d ++ w2L i s.d xs (ks.map .str))))) (fun σ => (spW_vals ks es _ _ none i s.d xs hxs σ none).2.1) ?_)
      refine SM.seq (SM.det .nx (sE ks es (some (.int way)) none (some (.int (at_ : Int))) (some (.int i)) (some s.d) none (some (.lst (w1L i s.d ++ w2L i s.d xs (ks.map .str) ++ w3L i s.d)))) (fun σ => (spW_vals ks es _ _ none i s.d xs hxs σ none).2.2) ?_)
      exact spRet_ok ns ks A es h 0 at_ _ hat _ _ _ (by simp [w1L]) (by simp [w1L, w2L, w3L]) (wrong_ok i s ks h.k.kS hs.pl xs hxs)
end
end Gm
end
section
namespace Gm
open PySem DL Gx
noncomputable section
def lwK : M Fl := (sAsg (eCall m__law_kinds [0] [.p 1, .v (eCall m__law_pick [0] [.p 1, .v (eNew (eLst [(eC (.int 1)), (eC (.int 2)), (eC (.int 15)), (eC (.int 16)), (eC (.int 16)), (eC (.int 17)), (appM [.v (eC (.int 1)), .v (eCall m__law_next [0] [.p 1, .v (eC (.int 16))] [])] addD)]))] [])] []) (gV 2))
def lwE : M Fl := (sAsg (eCall m__law_entries [0] [.p 1, .v (eV 2)] []) (gV 3))
def lwI1 : M Fl := (sIf (tOrM (tNotM (eTru (eCall m__law_kept [] [.v (eV 2), .v (eV 3)] []))) (tNotM (eTru (eCall m__law_kept [] [.v (eV 2), .v (appM [.v (eV 3), .v (asInt (eC (.int 150)))] slDhi)] [])))) (sRet (eC (.bl false))) sNx)
def lwL : M Fl := (sAsg (eCall m__law_pick [0] [.p 1, .v (eV 2)] []) (gV 4))
def lwI2 : M Fl := (sIf (tNotM (eTru (eCall m__law_kept [] [.v (eNew (eLc (iSeq2 (eV 2)) [7] (gV 7) (eTst (appM [.v (eV 7), .v (eV 4)] neD)) (eV 7))), .v (appM [.v (eV 3), .v (asInt (eCall m__law_pick [0] [.p 1, .v (eNew (eLst [(eC (.int 3)), (eC (.int 40)), (eC (.int 150))]))] []))] slDhi)] []))) (sRet (eC (.bl false))) sNx)
def lwF : M Fl := (sFor (iRange1 (eC (.int 3))) (gV 5) (sSeq (sAsg (eCall m__law_spoilt [0] [.p 1, .v (eV 2), .v (appM [.v (eV 3), .v (asInt (eCall m__law_pick [0] [.p 1, .v (eNew (eLst [(eC (.int 1)), (eC (.int 20)), (eC (.int 150))]))] []))] slDhi)] []) (gV 6))
  (sIf (tOrM (eTst (appM [.v (eCall m_is_book [] [.v (eV 6)] []), .v (eC (.bl false))] isNotD)) (tNotM (eTru (eCall m__law_told [] [.v (eV 6), .v (eC .non)] [])))) (sRet (eC (.bl false))) sNx)))
def lwR : M Fl := (sRet (eAnd (eCall m__law_kept [] [.v (eV 2), .v (eNew (eLst []))] []) (eCall m__law_says [] [.v (eCall m_is_book [] [.v (eCall m__law_pick [0] [.p 1, .v (eNew (eLst [(eC .non), (eC (.int 0)), (eC (.str "a")), (eTup []), (eNew (eLst [])), (eTup [(eTup []), (eTup [])])]))] [])] []), .v (eC (.bl false))] [])))
theorem law_parts : g_law = sSeq (sAsgO 1 (eCall m__law_stream [] [.v (eV 0)] [])) (sSeq lwK (sSeq lwE (sSeq lwI1 (sSeq lwL (sSeq lwI2 (sSeq lwF lwR)))))) := by
  simp only [g_law, lwK, lwE, lwI1, lwL, lwI2, lwF, lwR]
def lE (sc : D) (o2 o3 o4 o5 o6 o7 : Option D) : DL.Env := [some sc, none, o2, o3, o4, o5, o6, o7]
/-- a pair is kept -/
theorem SM.kept {ns : List Int} {r : DL.Env} {f g : M D} {Q : Bool → DL.Env → Prop} {ks : List Str}
    (hf : SM 1 ns f r fun k r1 => SM 1 ns g r1 fun e r2 => ∃ kk es, k = lw_ kk ∧ e = .lst es ∧ (∀ x ∈ kk, kS x = true) ∧ ascD (kk.map .str) = true ∧ kk.length ≤ 24 ∧ EsP ks es ∧ Q true r2) :
    SM 1 ns (eTru (eCall m__law_kept [] [.v f, .v g] [])) r Q :=
  SM.tru (SM.pcall2 (hf.mono fun k r1 hg => hg.mono fun e r2 ⟨kk, es, e1, e2, h1, h2, h3, h4, q⟩ => by
    subst e1 e2
    exact ⟨_, kept_ok kk ks es h1 h2 h3 h4, true, rfl, q⟩))
theorem lwK_ok (ns : List Int) (sc : D) : SM 1 ns lwK (lE sc none none none none none none) fun fl r => fl = .nx ∧ ∃ ks, KsP ks ∧ ks.length ≤ 17 ∧ r = lE sc (some (lw_ ks)) none none none none none := by
  refine SM.asg (SM.call1 (by simp [lE]) (SM.item (by simp [lE]) ?_))
  refine SM.V1 (SM.c (SM.V1 (SM.c (SM.V1 (SM.c (SM.V1 (SM.c (SM.V1 (SM.c (SM.V1 (SM.c (SM.V1 (SM.app2 (SM.c (SM.digit (by simp [lE]) 16 (by decide) (by decide) (SM.c ⟨rfl, by simp [lE], fun i hi0 hi1 => ⟨_, addD_int 1 i, SM.V0 ⟨by simp, by simp [lE], fun v hv => ?_⟩⟩⟩))))))))))))))))
  obtain ⟨m, rfl, hm0, hm1⟩ : ∃ m : Int, v = .int m ∧ 1 ≤ m ∧ m ≤ 17 := by
    simp only [List.mem_cons, List.not_mem_nil, or_false] at hv
    rcases hv with rfl | rfl | rfl | rfl | rfl | rfl | rfl
    · exact ⟨1, rfl, by decide, by decide⟩
    · exact ⟨2, rfl, by decide, by decide⟩
    · exact ⟨15, rfl, by decide, by decide⟩
    · exact ⟨16, rfl, by decide, by decide⟩
    · exact ⟨16, rfl, by decide, by decide⟩
    · exact ⟨17, rfl, by decide, by decide⟩
    · exact ⟨1 + i, rfl, by omega, by omega⟩
  refine ⟨by simp [lE], (sf_kinds ns m (by omega) (by omega)).mono fun v hv => ?_⟩
  obtain ⟨vs, rfl, hl, hk, ha⟩ := hv
  obtain ⟨ks, rfl⟩ := strs_of hk
  rw [List.length_map] at hl
  exact ⟨rfl, ks, ⟨fun x hx => List.all_eq_true.mp hk (.str x) (List.mem_map_of_mem hx), ha, by omega, by omega⟩, by omega, rfl⟩
section
variable (ns : List Int) (sc : D) (ks : List Str) (A : List Int) (es : List D) (h : EdP ks A es)
include h
theorem lwI1_ok : SM 1 ns lwI1 (lE sc (some (lw_ ks)) (some (.lst es)) none none none none) fun fl r => fl = .nx ∧ r = lE sc (some (lw_ ks)) (some (.lst es)) none none none none := by
  have hk := h.k
  have f1 := lhi es 150
  refine SM.sif (SM.tor (SM.tnot (SM.kept (ks := ks) (SM.v (d := lw_ ks) rfl (SM.v (d := .lst es) rfl ⟨ks, es, rfl, rfl, hk.kS, hk.asc, hk.hi, h.e.esp h.a (by decide), fun z => (by cases z), fun _ => ?_⟩)))))
  exact SM.tnot (SM.kept (ks := ks) (SM.v (d := lw_ ks) rfl (SM.same (.lst (es.take 150)) (fun s => by
    have f1 : slDhi [.lst es, .int 150] = some (.lst (es.take 150)) := lhi es 150
    simp [lE, f1]) ⟨ks, es.take 150, rfl, rfl, hk.kS, hk.asc, hk.hi, (h.e.take 150).esp h.a (by decide), fun z => (by cases z), fun _ => SM.nx ⟨rfl, rfl⟩⟩)))
/-- some of the entries, as many as are drawn -/
theorem sm_some {r : DL.Env} {Q : D → DL.Env → Prop} (a b c : Nat) (hc : a ≤ 1000 ∧ b ≤ 1000 ∧ c ≤ 1000) (h3 : r[3]? = some (some (.lst es))) (hr : 1 < r.length) (q : ∀ n, Q (.lst (es.take n)) r) :
    SM 1 ns (appM [.v (eV 3), .v (asInt (eCall m__law_pick [0] [.p 1, .v (eNew (eLst [(eC (.int (a : Int))), (eC (.int (b : Int))), (eC (.int (c : Int)))]))] []))] slDhi) r Q := by
  refine SM.app2 (SM.v (d := .lst es) h3 (SM.asInt (SM.item hr (SM.same [.int (a : Int), .int (b : Int), .int (c : Int)] (fun s => rfl) ⟨by simp, hr, fun v hv => ?_⟩))))
  obtain ⟨n, rfl⟩ : ∃ n : Nat, v = .int (n : Int) := by
    simp only [List.mem_cons, List.not_mem_nil, or_false] at hv
    rcases hv with rfl | rfl | rfl <;> exact ⟨_, rfl⟩
  exact ⟨_, rfl, _, lhi es n, q n⟩
theorem lwI2_ok (x : Str) : SM 1 ns lwI2 (lE sc (some (lw_ ks)) (some (.lst es)) (some (.str x)) none none none) fun fl r => fl = .nx ∧ r = lE sc (some (lw_ ks)) (some (.lst es)) (some (.str x)) none none none := by
  have hk := h.k
  have hhi := hk.hi
  refine SM.sif (SM.tnot (SM.kept (ks := ks) (SM.new (SM.filt (ds := ks.map .str) (by simp [lE]) (by decide) (fun s => by simp [lE, lw_]) (by simp; omega) (fun _ => True) (fun d hd => ?_) fun ys hs _ => ?_))))
  · obtain ⟨y, hy, rfl⟩ := List.mem_map.mp hd
    exact SM.tst (SM.app2 (SM.v (d := .str y) rfl (SM.v (d := .str x) rfl ⟨_, ne_strs y x, _, rfl, rfl, fun _ => trivial⟩)))
  · obtain ⟨zs, hz, rfl⟩ := sub_strs hs
    refine ⟨_, rfl, sm_some ns ks A es h 3 40 150 (by decide) rfl (by simp [lE]) fun n => ?_⟩
    have := hz.length_le
    exact ⟨zs, es.take n, rfl, rfl, fun y hy => hk.kS y (hz.subset hy), asc_sub hk.asc hz, by omega, (h.e.take n).esp h.a (by decide), fun z => (by cases z), fun _ => SM.nx ⟨rfl, rfl⟩⟩
theorem lwF_ok (x : Str) : SM 1 ns lwF (lE sc (some (lw_ ks)) (some (.lst es)) (some (.str x)) none none none) fun fl r => fl = .nx ∧ ∃ o5 o6, r = lE sc (some (lw_ ks)) (some (.lst es)) (some (.str x)) o5 o6 none := by
  refine SM.sFor (SM.same (rangeL 0 3) (fun s => by simp [iRange1]) ?_)
  refine SM.forL (by decide) (fun _ r => ∃ o5 o6, r = lE sc (some (lw_ ks)) (some (.lst es)) (some (.str x)) o5 o6 none) ?_ (fun r hr => ⟨rfl, hr⟩) _ _ ⟨_, _, rfl⟩
  rintro d ds _ ⟨o5, o6, rfl⟩
  refine SM.seq (SM.asg (SM.call2 (by simp [lE]) (SM.v (d := lw_ ks) rfl (sm_some ns ks A es h 1 20 150 (by decide) rfl (by simp [lE]) fun n => ⟨by simp [lE], (sf_spoilt ns ks A (es.take n) ⟨h.k, h.a, h.e.take n⟩).mono fun v hv => ?_⟩))))
  have hn : isNotD [.bl false, .bl false] = some (.bl false) := rfl
  refine SM.sif (SM.tor (SM.tst (SM.app2 (SM.pcall1 (SM.v (d := v) rfl ⟨_, hv.2, SM.c ⟨_, hn, false, rfl, fun z => (by cases z), fun _ => ?_⟩⟩)))))
  exact SM.tnot (SM.tru (SM.pcall2 (SM.v (d := v) rfl (SM.c ⟨_, told_bad v hv.2, true, rfl, fun z => (by cases z), fun _ => SM.nx ⟨_, _, rfl⟩⟩))))
theorem nob_small : ∀ v ∈ [D.non, .int 0, .str "a", .tup [], .lst [], .tup [.tup [], .tup []]], NoB v := by
  have sa : bnd (.str "a") = true := by decide
  intro v hv
  simp only [List.mem_cons, List.not_mem_nil, or_false] at hv
  rcases hv with rfl | rfl | rfl | rfl | rfl | rfl
  · exact nob_form rfl fun kk es e _ => by cases e
  · exact nob_form rfl fun kk es e _ => by cases e
  · exact nob_form sa fun kk es e _ => by cases e
  · exact nob_form rfl fun kk es e _ => by cases e
  · exact nob_form rfl fun kk es e _ => by cases e
  · refine nob_form rfl fun kk es e hr => ?_
    obtain ⟨a, b, rfl⟩ := rw_pos hr
    simp only [rw_, List.map_cons, D.tup.injEq, List.cons.injEq] at e
    cases e.1
theorem lwR_ok (x : Str) (o5 o6 : Option D) : SM 1 ns lwR (lE sc (some (lw_ ks)) (some (.lst es)) (some (.str x)) o5 o6 none) fun fl r => fl = .rt (.bl true) := by
  have hk := h.k
  have hl0 : lenOk 0 = true := by decide
  have hl2 : lenOk 2 = true := by decide
  have h0 : EsP ks [] := ⟨fun d hd => (by cases hd), fun d hd => (by cases hd), List.nodup_nil, by decide, by decide⟩
  refine SM.ret (SM.and (SM.pcall2 (SM.v (d := lw_ ks) rfl (SM.same (.lst []) (fun s => by simp [hl0]) ⟨_, kept_ok ks ks [] hk.kS hk.asc hk.hi h0, true, rfl, fun _ => ?_, fun z => (by cases z)⟩))))
  refine SM.pcall2 (SM.pcall1 (SM.item (by simp [lE]) (SM.same [D.non, .int 0, .str "a", .tup [], .lst [], .tup [.tup [], .tup []]] (fun s => by simp [hl0, hl2]) ⟨by simp, by simp [lE], fun v hv => ⟨_, nob_small ks A es h v hv, SM.c ⟨_, says_eq false, rfl⟩⟩⟩)))
theorem law_tail : SM 1 ns (sSeq lwI1 (sSeq lwL (sSeq lwI2 (sSeq lwF lwR)))) (lE sc (some (lw_ ks)) (some (.lst es)) none none none none) fun fl r => fl = .rt (.bl true) := by
  refine SM.seq ((lwI1_ok ns sc ks A es h).mono ?_)
  rintro _ _ ⟨rfl, rfl⟩
  refine SM.seq (SM.asg (SM.call1 (by simp [lE]) (SM.v (d := lw_ ks) rfl ⟨by simp [lE], (sf_kd ns h.k).mono fun v hv => ?_⟩)))
  obtain ⟨x, rfl, _⟩ := hv
  refine SM.seq ((lwI2_ok ns sc ks A es h x).mono ?_)
  rintro _ _ ⟨rfl, rfl⟩
  refine SM.seq ((lwF_ok ns sc ks A es h x).mono ?_)
  rintro _ _ ⟨rfl, o5, o6, rfl⟩
  exact lwR_ok ns sc ks A es h x o5 o6
end
theorem law_body (ns : List Int) (sc : D) : SM 1 ns (sSeq lwK (sSeq lwE (sSeq lwI1 (sSeq lwL (sSeq lwI2 (sSeq lwF lwR)))))) (lE sc none none none none none none) fun fl r => fl = .rt (.bl true) := by
  refine SM.seq ((lwK_ok ns sc).mono ?_)
  rintro _ _ ⟨rfl, ks, hk, _, rfl⟩
  refine SM.seq (SM.asg (SM.call1 (by simp [lE]) (SM.v (d := lw_ ks) rfl ⟨by simp [lE], (sf_entries ns ks hk).mono fun v hv => ?_⟩)))
  obtain ⟨A, es, rfl, hA, he⟩ := hv
  exact law_tail ns sc ks A es ⟨hk, hA, he⟩
theorem law_true (ns : List Int) (h : ns.length ≤ 63) : m_law [.lst (ns.map .int)] = .ok (.bl true) [] := by
  obtain ⟨c', k', a, r', e, rfl⟩ := law_body ns (.lst (ns.map .int)) 0 0
  simp only [m_law, fn_nw0, List.map_cons, List.map_nil]
  have hs : m__law_stream [.lst (ns.map .int)] = .ok (.lst [.lst (ns.map .int), .int 0, .int 0]) [] := by
    have : lenOk 3 = true := by decide
    simp [m__law_stream, g__law_stream, mkFn, this, lenOk]
    rfl
  have e0 : g_law ([some (D.lst (ns.map .int))] ++ List.replicate (8 - [D.lst (ns.map .int)].length) none) = .ok (.rt (.bl true)) (r'.set 1 (some (Sm ns c' k'))) := by
    rw [law_parts, ev_seq]
    have : (sAsgO 1 (eCall m__law_stream [] [.v (eV 0)] [])) ([some (D.lst (ns.map .int))] ++ List.replicate (8 - [D.lst (ns.map .int)].length) none) = .ok .nx ((lE (.lst (ns.map .int)) none none none none none none).set 1 (some (Sm ns 0 0))) := by
      simp [evalA, fillA, hs, lE, Sm, List.replicate]
    rw [this, Res.bind_ok]
    exact e
  rw [e0]
  rfl
end
end Gm
end
section
open PySem PySem.W PySem.Calls PyProof.Rows
set_option maxHeartbeats 0 in
theorem PySem.Challenge.cw_branchsure_k05_whole_books_and_their_lim_holds : PySem.Challenge.rw_branchsure_k05_whole_books_and_their_lim.Holds := by
  w_on; o_law
  refine HandSHeadRun.head_any (r := Gx.R) (q := view Gx.R.prog [64]) (H := Gx.hk) (ob := Gx.ob) (M := 4000) (loose := Gx.names) (d := HandSHeadRun.topDef Gx.R.prog 64) (kwd := []) Gx.ob_eq
    (by kernel_rfl) (fun s => by kernel_rfl) Gx.run (by kernel_rfl) (by kernel_rfl) (by kernel_rfl) (by rfl) (by first | assumption | decide +kernel) (by decide +kernel) ⟨rfl, rfl, rfl, rfl, rfl, by decide +kernel⟩ ?hw ?hc
  case hw => w_witness2
  case hc =>
    refine DL.walk_D (l := PySem.Challenge.rw_branchsure_k05_whole_books_and_their_lim) (n := 63) (k := 24) (x := "script") (lw := "law") (st := Gx.s_law) (m := Gx.m_law) (fun _ K => DL.xrD K) rfl (by decide) (by kernel_rfl) ⟨rfl, by decide, by decide⟩ (by kernel_rfl)
      (fun _ _ _ _ _ _ us hl => match us, hl with | [_], _ => rfl) (fun w mg h ⟨K, X, c⟩ G => ⟨K, X, (Gx.hd X G c).f_law, fun base _ _ => Gx.ok_law (Gx.hd X G c)⟩) Gm.law_true
end
