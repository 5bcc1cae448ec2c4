import PyProof.Rows.All
import Wide.All
import OpenK.AllK
import Wide.FinOn
import HandS.ForMost
import HandS.Exc
import HandS.EndBits
import HandS.TupAny
import KE.KDictKeyed
import HandS.WideBits
import HandS.TupMul
import HandS.TupLe
import HandS.Zip
import KE.GoesEnum
import HandS.Style
import HandS.IsInst
import HandS.SortInts
import HandS.NoneIn
import HandS.Conv
import HandS.More
import KE.Datum
import PyProof.WalkInts
import PyProof.WalksMore
import KE.DataMinMax
import KE.SortData
import KE.DataCmp
import PyProof.Rows.TupDisplay
import HandS.DictTup
import KE.KItemsList
import PyProof.ZipIter
import PyProof.ListNew
import HandS.TupLen
import KE.KDictPairs
import HandS.Strs
import HandS.Deep
import KE.GoesMore
import HandS.SortRule
import HandS.SetFor
import HandS.Text
import HandS.SortKw
import HandS.SetKeys
import PySem.Challenge.RW_ringchief_k56_alone
set_option Elab.async false
set_option linter.all false
set_option maxRecDepth 100000
set_option maxHeartbeats 4000000
namespace M
open PySem L2
/-! ### data: tuples are values -/
inductive D where
  | non | bl (b : Bool) | int (i : Int) | str (x : Str) | tup (xs : List D) | tw (xs : List D) | rl (xs : List D) | ref (a : Addr)
inductive MO where
  | lst (xs : List D) | dK (kvs : List (Key × D)) | dT (kvs : List (List Key × D)) | fT (kvs : List (List Key × D)) (ws : List (List Key × V)) (od : Obj)
  | dN (kvs : List (NestedKey × D)) | fN (kvs : List (NestedKey × D)) (xs : List (NestedKey × Addr × V)) (od : Obj)
  | fK (kvs : List (Key × D)) (ws : List (Key × V)) (od : Obj) | ins (C : Addr) (fs : List (Str × D))
abbrev MH := Addr → Option MO
def up (h : MH) (a : Addr) (o : MO) : MH := fun b => if b = a then some o else h b
theorem up_same {h : MH} {a : Addr} {o : MO} : up h a o a = some o := by unfold up; rw [if_pos rfl]
theorem up_ne {h : MH} {a b : Addr} {o : MO} (n : b ≠ a) : up h a o b = h b := by unfold up; rw [if_neg n]
theorem up_up {h : MH} {a : Addr} {o u : MO} : up (up h a o) a u = up h a u := by
  funext b; unfold up; split <;> rfl
theorem ne_of {h : MH} {a b : Addr} {o : MO} (e : h a = some o) (n : h b = none) : a ≠ b := by
  intro q; subst q; rw [e] at n; cases n

/-- a tuple of the heap that has no dict of its own -/
def SqN (K : PySem.W.Frag) (H : Hp) (a : Addr) (xs : List V) : Prop :=
  (∃ o, H a = some (.frz o (.tup xs)) ∧ o.dict = none) ∨
    ∃ (o : Obj) (its : Array Value) (n : Nat), K.lookup a = some o ∧ o.cls = .type "tuple" ∧ o.dict = none ∧ o.data = .seq its n ∧ its.size ≤ sizeLine ∧ Vals xs its.toList
theorem SqN.t {K : PySem.W.Frag} {H : Hp} {a : Addr} {xs : List V} (h : SqN K H a xs) : SqT K H a xs := by
  rcases h with ⟨o, h, _⟩ | ⟨o, its, n, a1, a2, _, a3, a4, a5⟩
  · exact .inl (.inr ⟨o, h⟩)
  · exact .inr ⟨o, its, n, a1, a2, a3, a4, a5⟩
theorem SqN.of {K : PySem.W.Frag} {H : Hp} {a : Addr} {xs : List V} {o : Obj} (h : H a = some (.frz o (.tup xs))) (d : o.dict = none) : SqN K H a xs := .inl ⟨o, h, d⟩
/-! ### dicts with nested keys -/
mutual
/-- no text in it -/
def plainK : NestedKey → Bool
  | .none => true
  | .num _ => true
  | .text _ => false
  | .tup ks => plainKs ks
def plainKs : List NestedKey → Bool
  | [] => true
  | k :: ks => plainK k && plainKs ks
end
mutual
theorem hash_plain (w w' : World) : ∀ k : NestedKey, plainK k = true → k.hash w = k.hash w'
  | .none, _ => rfl
  | .num _, _ => rfl
  | .text _, h => by cases h
  | .tup ks, h => by
    rw [NestedKey.hash, NestedKey.hash, hashes_plain w w' ks h]
theorem hashes_plain (w w' : World) : ∀ ks : List NestedKey, plainKs ks = true → NestedKey.hashes w ks = NestedKey.hashes w' ks
  | [], _ => rfl
  | k :: ks, h => by
    have h : (plainK k && plainKs ks) = true := h
    rw [Bool.and_eq_true] at h
    rw [NestedKey.hashes, NestedKey.hashes, hash_plain w w' k h.1, hashes_plain w w' ks h.2]
end
def NPair (p : NestedKey × Addr × V) (q : NestedKey × Addr × Value) : Prop := p.1 = q.1 ∧ p.2.1 = q.2.1 ∧ RelV p.2.2 q.2.2
def NDesc (a : Addr) (xs : List (NestedKey × Addr × V)) (h : Heap) : Prop := xs.length ≤ sizeLine ∧ (a == sysModules) = false ∧ (∀ x ∈ xs, plainK x.1 = true ∧ x.1.depth ≤ 8) ∧
  ∃ ys : List (NestedKey × Addr × Value), Paired NPair xs ys ∧ ∃ o es ep, h.get? a = some o ∧ o.ExactDict ∧ o.data = .dict es ep ∧ (∀ (P : Program) (w : World), es.toList = ys.map (entryOfKey (nestedKind P w))) ∧ (ys.map (·.1)).Nodup
/-- what stands at a: a dict of the keys, their tuples and the values xs -/
def nob (a : Addr) (xs : List (NestedKey × Addr × V)) : HO := .ext (NDesc a xs)
mutual
def kD : NestedKey → D
  | .none => .non
  | .num i => .int i
  | .text x => .str x
  | .tup ks => .tup (kDs ks)
def kDs : List NestedKey → List D
  | [] => []
  | k :: ks => kD k :: kDs ks
end
/-- an immutable list of the heap -/
def SqI (K : PySem.W.Frag) (H : Hp) (a : Addr) (xs : List V) : Prop :=
  (∃ o, H a = some (.frz o (.lst xs))) ∨
    ∃ (o : Obj) (its : Array Value) (n : Nat), K.lookup a = some o ∧ o.cls = .type "list" ∧ o.dict = none ∧ o.data = .seq its n ∧ its.size ≤ sizeLine ∧ Vals xs its.toList
theorem SqI.l {K : PySem.W.Frag} {H : Hp} {a : Addr} {xs : List V} (h : SqI K H a xs) : SqL K H a xs := by
  rcases h with ⟨o, h⟩ | h
  · exact .inl (.inr ⟨o, h⟩)
  · exact .inr h
mutual
def RV (K : PySem.W.Frag) (H : Hp) : D → V → Prop
  | .non, v => v = .non
  | .bl b, v => v = .bl b
  | .int i, v => v = .int i
  | .str x, v => v = .str x
  | .tup ds, v => ∃ a vs, v = .ref a ∧ SqN K H a vs ∧ RVs K H ds vs
  | .tw ds, v => ∃ a vs, v = .ref a ∧ SqT K H a vs ∧ RVs K H ds vs
  | .rl ds, v => ∃ a vs, v = .ref a ∧ SqI K H a vs ∧ RVs K H ds vs
  | .ref a, v => v = .ref a
def RVs (K : PySem.W.Frag) (H : Hp) : List D → List V → Prop
  | [], vs => vs = []
  | d :: ds, vs => ∃ v r, vs = v :: r ∧ RV K H d v ∧ RVs K H ds r
end
/-- what is locked for a while alone -/
def Lk : HO → Prop
  | .dT _ => True
  | .ext _ => True
  | .dK _ => True
  | _ => False
/-- immutable things stay -/
def TL (H H' : Hp) : Prop := (∀ a xs, H a = some (.tup xs) → H' a = some (.tup xs)) ∧ ∀ a o u, H a = some (.frz o u) → ¬ Lk u → H' a = some (.frz o u)
theorem TL.refl (H : Hp) : TL H H := ⟨fun _ _ h => h, fun _ _ _ h _ => h⟩
theorem TL.trans {H H1 H2 : Hp} (a : TL H H1) (b : TL H1 H2) : TL H H2 := ⟨fun c xs h => b.1 c xs (a.1 c xs h), fun c o u h n => b.2 c o u (a.2 c o u h n) n⟩
theorem TL.new {H : Hp} {p : Addr} {o : HO} (n : H p = none) : TL H (upd H p o) :=
  ⟨fun a xs h => by rw [upd_ne (L2.ne_of_none h n)]; exact h, fun a o' u h _ => by rw [upd_ne (L2.ne_of_none h n)]; exact h⟩
/-- a store at what is neither a tuple nor locked -/
theorem TL.put {H : Hp} {p : Addr} {o u : HO} (n : H p = some u) (h1 : ∀ xs, u ≠ .tup xs) (h2 : ∀ a b, u ≠ .frz a b) : TL H (upd H p o) := by
  refine ⟨fun a xs h => ?_, fun a o' w h _ => ?_⟩
  · rw [upd_ne (fun e => ?_)]
    · exact h
    · subst e; rw [n] at h; cases h; exact h1 xs rfl
  · rw [upd_ne (fun e => ?_)]
    · exact h
    · subst e; rw [n] at h; cases h; exact h2 _ _ rfl
section
variable {K : PySem.W.Frag} {H H' : Hp}
theorem sqT_mono (t : TL H H') {a : Addr} {vs : List V} (h : SqT K H a vs) : SqT K H' a vs := by
  rcases h with (h | ⟨o, h⟩) | h
  · exact .inl (.inl (t.1 a vs h))
  · exact .inl (.inr ⟨o, t.2 a o _ h fun z => z⟩)
  · exact .inr h
theorem sqN_mono (t : TL H H') {a : Addr} {vs : List V} (h : SqN K H a vs) : SqN K H' a vs := by
  rcases h with ⟨o, h, d⟩ | h
  · exact .inl ⟨o, t.2 a o _ h fun z => z, d⟩
  · exact .inr h
theorem sqI_mono (t : TL H H') {a : Addr} {vs : List V} (h : SqI K H a vs) : SqI K H' a vs := by
  rcases h with ⟨o, h⟩ | h
  · exact .inl ⟨o, t.2 a o _ h fun z => z⟩
  · exact .inr h
mutual
theorem RV.mono (t : TL H H') : ∀ {d : D} {v : V}, RV K H d v → RV K H' d v
  | .non, _, h => by simpa only [RV] using h
  | .bl _, _, h => by simpa only [RV] using h
  | .int _, _, h => by simpa only [RV] using h
  | .str _, _, h => by simpa only [RV] using h
  | .ref _, _, h => by simpa only [RV] using h
  | .tup _, _, h => by
    simp only [RV] at h ⊢
    obtain ⟨a, vs, e, q, r⟩ := h
    exact ⟨a, vs, e, sqN_mono t q, RVs.mono t r⟩
  | .tw _, _, h => by
    simp only [RV] at h ⊢
    obtain ⟨a, vs, e, q, r⟩ := h
    exact ⟨a, vs, e, sqT_mono t q, RVs.mono t r⟩
  | .rl _, _, h => by
    simp only [RV] at h ⊢
    obtain ⟨a, vs, e, q, r⟩ := h
    exact ⟨a, vs, e, sqI_mono t q, RVs.mono t r⟩
theorem RVs.mono (t : TL H H') : ∀ {ds : List D} {vs : List V}, RVs K H ds vs → RVs K H' ds vs
  | [], _, h => by simpa only [RVs] using h
  | d :: ds, _, h => by
    simp only [RVs] at h ⊢
    obtain ⟨v, r, e, q, s⟩ := h
    exact ⟨v, r, e, RV.mono t q, RVs.mono t s⟩
end
theorem rv_int {i : Int} : RV K H (.int i) (.int i) := by simp only [RV]
theorem rv_bl {i : Bool} : RV K H (.bl i) (.bl i) := by simp only [RV]
theorem rv_str {i : Str} : RV K H (.str i) (.str i) := by simp only [RV]
theorem rv_non : RV K H .non .non := by simp only [RV]
theorem rv_ref {a : Addr} : RV K H (.ref a) (.ref a) := by simp only [RV]
theorem rv_tup {ds : List D} {a : Addr} {vs : List V} (h : SqN K H a vs) (r : RVs K H ds vs) : RV K H (.tup ds) (.ref a) := by
  simp only [RV]; exact ⟨a, vs, rfl, h, r⟩
theorem rv_tw {ds : List D} {a : Addr} {vs : List V} (h : SqT K H a vs) (r : RVs K H ds vs) : RV K H (.tw ds) (.ref a) := by
  simp only [RV]; exact ⟨a, vs, rfl, h, r⟩
theorem RV.tupN {ds : List D} {v : V} (h : RV K H (.tup ds) v) : ∃ a vs, v = .ref a ∧ SqN K H a vs ∧ RVs K H ds vs := by simpa only [RV] using h
theorem RV.tup {ds : List D} {v : V} (h : RV K H (.tup ds) v) : ∃ a vs, v = .ref a ∧ SqT K H a vs ∧ RVs K H ds vs := let ⟨a, vs, e, q, r⟩ := h.tupN; ⟨a, vs, e, q.t, r⟩
theorem RV.tw {ds : List D} {v : V} (h : RV K H (.tw ds) v) : ∃ a vs, v = .ref a ∧ SqT K H a vs ∧ RVs K H ds vs := by simpa only [RV] using h
theorem RV.rl {ds : List D} {v : V} (h : RV K H (.rl ds) v) : ∃ a vs, v = .ref a ∧ SqI K H a vs ∧ RVs K H ds vs := by simpa only [RV] using h
theorem RV.int {i : Int} {v : V} (h : RV K H (.int i) v) : v = .int i := by simpa only [RV] using h
theorem RV.bl {i : Bool} {v : V} (h : RV K H (.bl i) v) : v = .bl i := by simpa only [RV] using h
theorem RV.str {i : Str} {v : V} (h : RV K H (.str i) v) : v = .str i := by simpa only [RV] using h
theorem RV.non {v : V} (h : RV K H .non v) : v = .non := by simpa only [RV] using h
theorem RV.ref {a : Addr} {v : V} (h : RV K H (.ref a) v) : v = .ref a := by simpa only [RV] using h
theorem RVs.nil : RVs K H [] [] := by simp only [RVs]
theorem RVs.cons {d : D} {v : V} {ds : List D} {vs : List V} (h : RV K H d v) (r : RVs K H ds vs) : RVs K H (d :: ds) (v :: vs) := by
  simp only [RVs]; exact ⟨v, vs, rfl, h, r⟩
theorem RVs.inv {d : D} {ds : List D} {vs : List V} (h : RVs K H (d :: ds) vs) : ∃ v r, vs = v :: r ∧ RV K H d v ∧ RVs K H ds r := by simpa only [RVs] using h
theorem RVs.inv0 {vs : List V} (h : RVs K H [] vs) : vs = [] := by simpa only [RVs] using h
theorem RVs.length : ∀ {ds : List D} {vs : List V}, RVs K H ds vs → ds.length = vs.length
  | [], _, h => by rw [h.inv0] <;> rfl
  | d :: ds, _, h => by
    obtain ⟨v, r, rfl, _, s⟩ := h.inv
    simp [s.length]
theorem RVs.get : ∀ {ds : List D} {vs : List V} {i : Nat} {d : D}, RVs K H ds vs → ds[i]? = some d → ∃ v, vs[i]? = some v ∧ RV K H d v
  | [], _, _, _, _, e => by simp at e
  | x :: ds, _, 0, d, h, e => by
    obtain ⟨v, r, rfl, q, _⟩ := h.inv
    simp at e; subst e
    exact ⟨v, by simp, q⟩
  | x :: ds, _, i + 1, d, h, e => by
    obtain ⟨v, r, rfl, _, s⟩ := h.inv
    obtain ⟨w, e1, q⟩ := s.get (by simpa using e)
    exact ⟨w, by simpa using e1, q⟩
theorem RVs.get' {ds : List D} {vs : List V} {i : Nat} {v : V} (h : RVs K H ds vs) (e : vs[i]? = some v) : ∃ d, ds[i]? = some d ∧ RV K H d v := by
  have hl := h.length
  have hi : i < ds.length := by rw [hl]; exact (List.getElem?_eq_some_iff.mp e).1
  obtain ⟨w, e1, q⟩ := h.get (List.getElem?_eq_getElem hi)
  rw [e] at e1
  cases e1
  exact ⟨_, List.getElem?_eq_getElem hi, q⟩
theorem RVs.append : ∀ {ds es : List D} {vs ws : List V}, RVs K H ds vs → RVs K H es ws → RVs K H (ds ++ es) (vs ++ ws)
  | [], _, _, _, h, s => by rw [h.inv0]; exact s
  | d :: ds, _, _, _, h, s => by
    obtain ⟨v, r, rfl, q, t⟩ := h.inv
    exact .cons q (t.append s)
theorem RVs.take : ∀ {ds : List D} {vs : List V} (n : Nat), RVs K H ds vs → RVs K H (ds.take n) (vs.take n)
  | _, _, 0, _ => by simp only [List.take_zero]; exact .nil
  | [], _, n + 1, h => by rw [h.inv0]; exact .nil
  | d :: ds, _, n + 1, h => by
    obtain ⟨v, r, rfl, q, t⟩ := h.inv
    exact .cons q (t.take n)
theorem RVs.drop : ∀ {ds : List D} {vs : List V} (n : Nat), RVs K H ds vs → RVs K H (ds.drop n) (vs.drop n)
  | _, _, 0, h => h
  | [], _, n + 1, h => by rw [h.inv0]; exact .nil
  | d :: ds, _, n + 1, h => by
    obtain ⟨v, r, rfl, q, t⟩ := h.inv
    exact t.drop n
theorem RVs.set : ∀ {ds : List D} {vs : List V} {d : D} {v : V} (i : Nat), RVs K H ds vs → RV K H d v → RVs K H (ds.set i d) (vs.set i v)
  | [], _, _, _, _, h, _ => by rw [h.inv0]; exact .nil
  | x :: ds, _, d, w, 0, h, q => by
    obtain ⟨v, r, rfl, _, t⟩ := h.inv
    exact .cons q t
  | x :: ds, _, d, w, i + 1, h, q => by
    obtain ⟨v, r, rfl, p, t⟩ := h.inv
    exact .cons p (t.set i q)
theorem RVs.ints : ∀ {ns : List Int} {vs : List V}, RVs K H (ns.map D.int) vs → vs = ns.map V.int
  | [], _, h => h.inv0
  | n :: ns, _, h => by
    obtain ⟨v, r, rfl, q, t⟩ := h.inv
    rw [q.int, t.ints]; rfl
theorem RVs.of_ints : ∀ {ns : List Int}, RVs K H (ns.map D.int) (ns.map V.int)
  | [] => .nil
  | n :: ns => .cons rv_int .of_ints
theorem RVs.bls : ∀ {ns : List Bool} {vs : List V}, RVs K H (ns.map D.bl) vs → vs = ns.map V.bl
  | [], _, h => h.inv0
  | n :: ns, _, h => by
    obtain ⟨v, r, rfl, q, t⟩ := h.inv
    rw [q.bl, t.bls]; rfl
theorem RVs.strs : ∀ {ns : List Str} {vs : List V}, RVs K H (ns.map D.str) vs → vs = ns.map V.str
  | [], _, h => h.inv0
  | n :: ns, _, h => by
    obtain ⟨v, r, rfl, q, t⟩ := h.inv
    rw [q.str, t.strs]; rfl
theorem RVs.of_strs : ∀ {ns : List Str}, RVs K H (ns.map D.str) (ns.map V.str)
  | [] => .nil
  | n :: ns => .cons rv_str .of_strs
end
/-- entries -/
def RKV {κ : Type} (K : PySem.W.Frag) (H : Hp) (kvs : List (κ × D)) (ws : List (κ × V)) : Prop := kvs.map (·.1) = ws.map (·.1) ∧ RVs K H (kvs.map (·.2)) (ws.map (·.2))
theorem RKV.mono {κ : Type} {K : PySem.W.Frag} {H H' : Hp} (t : TL H H') {kvs : List (κ × D)} {ws : List (κ × V)} (h : RKV K H kvs ws) : RKV K H' kvs ws := ⟨h.1, h.2.mono t⟩
/-- entries of a dict with nested keys -/
def RN (K : PySem.W.Frag) (H : Hp) (kvs : List (NestedKey × D)) (xs : List (NestedKey × Addr × V)) : Prop :=
  kvs.map (·.1) = xs.map (·.1) ∧ RVs K H (kvs.map (·.2)) (xs.map (·.2.2)) ∧ ∀ x ∈ xs, RV K H (kD x.1) (.ref x.2.1)
theorem RN.mono {K : PySem.W.Frag} {H H' : Hp} (t : TL H H') {kvs : List (NestedKey × D)} {xs : List (NestedKey × Addr × V)} (h : RN K H kvs xs) : RN K H' kvs xs := ⟨h.1, h.2.1.mono t, fun x hx => (h.2.2 x hx).mono t⟩
def RO (K : PySem.W.Frag) (H : Hp) (a : Addr) : MO → HO → Prop
  | .lst ds, o => ∃ vs, o = .lst vs ∧ RVs K H ds vs
  | .dK kvs, o => ∃ ws, o = .dK ws ∧ RKV K H kvs ws
  | .dT kvs, o => ∃ ws, o = .dT ws ∧ RKV K H kvs ws
  | .fT kvs ws od, o => o = .frz od (.dT ws) ∧ RKV K H kvs ws
  | .dN kvs, o => ∃ xs, o = nob a xs ∧ RN K H kvs xs
  | .fN kvs xs od, o => o = .frz od (nob a xs) ∧ RN K H kvs xs
  | .fK kvs ws od, o => o = .frz od (.dK ws) ∧ RKV K H kvs ws
  | .ins C fs, o => ∃ dx ws, o = .ins C dx ws ∧ RKV K H fs ws
theorem RO.mono {K : PySem.W.Frag} {H H' : Hp} (t : TL H H') {a : Addr} : ∀ {m : MO} {o : HO}, RO K H a m o → RO K H' a m o
  | .lst _, _, ⟨vs, e, r⟩ => ⟨vs, e, r.mono t⟩
  | .dK _, _, ⟨vs, e, r⟩ => ⟨vs, e, r.mono t⟩
  | .dT _, _, ⟨vs, e, r⟩ => ⟨vs, e, r.mono t⟩
  | .fT _ _ _, _, ⟨e, r⟩ => ⟨e, r.mono t⟩
  | .dN _, _, ⟨xs, e, r⟩ => ⟨xs, e, r.mono t⟩
  | .fN _ _ _, _, ⟨e, r⟩ => ⟨e, r.mono t⟩
  | .fK _ _ _, _, ⟨e, r⟩ => ⟨e, r.mono t⟩
  | .ins _ _, _, ⟨dx, vs, e, r⟩ => ⟨dx, vs, e, r.mono t⟩
/-- a new tuple, told with its object -/
abbrev tob (its : List Value) : Obj := { cls := .type "tuple", data := .seq its.toArray }
theorem okN {P : Program} {w : World} {H : Hp} {h : Heap} {its : List Value} {xs : List V} (hz : xs.length ≤ sizeLine) (r : Vals xs its) : ObjOk P w H (h.push (tob its)) h.objs.size (.frz (tob its) (.tup xs)) :=
  ⟨Heap.get?_push_size _ rfl, hz, its, r, PyProof.Rows.IsTup.new _ _⟩
def HR (K : PySem.W.Frag) (h : MH) (H : Hp) : Prop := ∀ a o, h a = some o → ∃ u, H a = some u ∧ RO K H a o u
section
variable {K : PySem.W.Frag} {h : MH} {H H' : Hp}
theorem HR.free (r : HR K h H) {p : Addr} (n : H p = none) : h p = none := by
  cases e : h p with
  | none => rfl
  | some o =>
    obtain ⟨u, e1, _⟩ := r p o e
    rw [n] at e1; cases e1
theorem HR.lst (r : HR K h H) {a : Addr} {ds : List D} (e : h a = some (.lst ds)) : ∃ vs, H a = some (.lst vs) ∧ RVs K H ds vs := by
  obtain ⟨u, e1, vs, rfl, q⟩ := r a _ e
  exact ⟨vs, e1, q⟩
theorem HR.dK (r : HR K h H) {a : Addr} {ds : List (Key × D)} (e : h a = some (.dK ds)) : ∃ vs, H a = some (.dK vs) ∧ RKV K H ds vs := by
  obtain ⟨u, e1, vs, rfl, q⟩ := r a _ e
  exact ⟨vs, e1, q⟩
theorem HR.dT (r : HR K h H) {a : Addr} {ds : List (List Key × D)} (e : h a = some (.dT ds)) : ∃ vs, H a = some (.dT vs) ∧ RKV K H ds vs := by
  obtain ⟨u, e1, vs, rfl, q⟩ := r a _ e
  exact ⟨vs, e1, q⟩
theorem HR.fT (r : HR K h H) {a : Addr} {ds : List (List Key × D)} {ws : List (List Key × V)} {od : Obj} (e : h a = some (.fT ds ws od)) : H a = some (.frz od (.dT ws)) ∧ RKV K H ds ws := by
  obtain ⟨u, e1, rfl, q⟩ := r a _ e
  exact ⟨e1, q⟩
theorem HR.dN (r : HR K h H) {a : Addr} {ds : List (NestedKey × D)} (e : h a = some (.dN ds)) : ∃ xs, H a = some (nob a xs) ∧ RN K H ds xs := by
  obtain ⟨u, e1, xs, rfl, q⟩ := r a _ e
  exact ⟨xs, e1, q⟩
theorem HR.fN (r : HR K h H) {a : Addr} {ds : List (NestedKey × D)} {xs : List (NestedKey × Addr × V)} {od : Obj} (e : h a = some (.fN ds xs od)) : H a = some (.frz od (nob a xs)) ∧ RN K H ds xs := by
  obtain ⟨u, e1, rfl, q⟩ := r a _ e
  exact ⟨e1, q⟩
theorem HR.fK (r : HR K h H) {a : Addr} {ds : List (Key × D)} {ws : List (Key × V)} {od : Obj} (e : h a = some (.fK ds ws od)) : H a = some (.frz od (.dK ws)) ∧ RKV K H ds ws := by
  obtain ⟨u, e1, rfl, q⟩ := r a _ e
  exact ⟨e1, q⟩
theorem HR.ins (r : HR K h H) {a C : Addr} {fs : List (Str × D)} (e : h a = some (.ins C fs)) : ∃ dx ws, H a = some (.ins C dx ws) ∧ RKV K H fs ws := by
  obtain ⟨u, e1, dx, ws, rfl, q⟩ := r a _ e
  exact ⟨dx, ws, e1, q⟩
theorem TL.lockK {H : Hp} {p : Addr} {ws : List (Key × V)} {o : Obj} (n : H p = some (.dK ws)) : TL H (upd H p (.frz o (.dK ws))) := by
  refine ⟨fun a xs h => ?_, fun a o' w h _ => ?_⟩
  · rw [upd_ne (fun e => by subst e; rw [n] at h; cases h)]; exact h
  · rw [upd_ne (fun e => by subst e; rw [n] at h; cases h)]; exact h
theorem TL.unlockK {H : Hp} {p : Addr} {ws : List (Key × V)} {o : Obj} (n : H p = some (.frz o (.dK ws))) : TL H (upd H p (.dK ws)) := by
  refine ⟨fun a xs h => ?_, fun a o' w h nw => ?_⟩
  · rw [upd_ne (fun e => by subst e; rw [n] at h; cases h)]; exact h
  · rw [upd_ne (fun e => by subst e; rw [n] at h; cases h; exact nw trivial)]; exact h
theorem TL.lockN {H : Hp} {p a : Addr} {ws : List (NestedKey × Addr × V)} {o : Obj} (n : H p = some (nob a ws)) : TL H (upd H p (.frz o (nob a ws))) := by
  refine ⟨fun a xs h => ?_, fun a o' w h _ => ?_⟩
  · rw [upd_ne (fun e => by subst e; rw [n] at h; cases h)]; exact h
  · rw [upd_ne (fun e => by subst e; rw [n] at h; cases h)]; exact h
theorem TL.unlockN {H : Hp} {p a : Addr} {ws : List (NestedKey × Addr × V)} {o : Obj} (n : H p = some (.frz o (nob a ws))) : TL H (upd H p (nob a ws)) := by
  refine ⟨fun a xs h => ?_, fun a o' w h nw => ?_⟩
  · rw [upd_ne (fun e => by subst e; rw [n] at h; cases h)]; exact h
  · rw [upd_ne (fun e => by subst e; rw [n] at h; cases h; exact nw trivial)]; exact h
/-- locked, let go -/
theorem TL.lock {H : Hp} {p : Addr} {ws : List (List Key × V)} {o : Obj} (n : H p = some (.dT ws)) : TL H (upd H p (.frz o (.dT ws))) := by
  refine ⟨fun a xs h => ?_, fun a o' w h _ => ?_⟩
  · rw [upd_ne (fun e => by subst e; rw [n] at h; cases h)]; exact h
  · rw [upd_ne (fun e => by subst e; rw [n] at h; cases h)]; exact h
theorem TL.unlock {H : Hp} {p : Addr} {ws : List (List Key × V)} {o : Obj} (n : H p = some (.frz o (.dT ws))) : TL H (upd H p (.dT ws)) := by
  refine ⟨fun a xs h => ?_, fun a o' w h nw => ?_⟩
  · rw [upd_ne (fun e => by subst e; rw [n] at h; cases h)]; exact h
  · rw [upd_ne (fun e => by subst e; rw [n] at h; cases h; exact nw trivial)]; exact h
/-- a new thing of L2 that h does not see (a tuple) -/
theorem HR.skip (r : HR K h H) {p : Addr} {o : HO} (n : H p = none) : HR K h (upd H p o) := fun a m e => by
  obtain ⟨u, e1, q⟩ := r a m e
  exact ⟨u, by rw [upd_ne (L2.ne_of_none e1 n)]; exact e1, q.mono (.new n)⟩
theorem HR.put (r : HR K h H) {p : Addr} {m : MO} {o : HO} (t : TL H (upd H p o)) (q : RO K (upd H p o) p m o) : HR K (up h p m) (upd H p o) := fun a n e => by
  by_cases c : a = p
  · subst c
    rw [up_same] at e
    cases e
    exact ⟨o, upd_same, q⟩
  · rw [up_ne c] at e
    obtain ⟨u, e1, q1⟩ := r a n e
    exact ⟨u, by rw [upd_ne c]; exact e1, q1.mono t⟩
theorem HR.new (r : HR K h H) {p : Addr} {m : MO} {o : HO} (n : H p = none) (q : RO K H p m o) : HR K (up h p m) (upd H p o) := r.put (.new n) (q.mono (.new n))
end
/-! ### environments -/
abbrev ME := List (Option D)
def REnv (K : PySem.W.Frag) (Hb H : Hp) (env : ME) (σ : L2.St) : Prop := TL Hb H ∧ env.length = σ.length ∧ ∀ (i : Nat) (d : D), env[i]? = some (some d) → ∃ v, σ[i]? = some (some v) ∧ RV K H d v
theorem REnv.mono {K : PySem.W.Frag} {Hb H H' : Hp} {env : ME} {σ : L2.St} (t : TL H H') (r : REnv K Hb H env σ) : REnv K Hb H' env σ :=
  ⟨r.1.trans t, r.2.1, fun i d e => let ⟨v, e1, q⟩ := r.2.2 i d e; ⟨v, e1, q.mono t⟩⟩
theorem REnv.set {K : PySem.W.Frag} {Hb H : Hp} {env : ME} {σ : L2.St} {d : D} {v : V} (r : REnv K Hb H env σ) (i : Nat) (q : RV K H d v) : REnv K Hb H (env.set i (some d)) (σ.set i (some v)) := by
  refine ⟨r.1, by rw [List.length_set, List.length_set]; exact r.2.1, fun j d' e => ?_⟩
  by_cases c : i = j
  · subst c
    by_cases hl : i < env.length
    · rw [List.getElem?_set_self hl] at e
      cases e
      exact ⟨v, List.getElem?_set_self (by rw [← r.2.1]; exact hl), q⟩
    · rw [List.getElem?_eq_none (by rw [List.length_set]; omega)] at e
      cases e
  · rw [List.getElem?_set_ne c] at e ⊢
    exact r.2.2 j d' e
/-! ### lifting -/
abbrev MQ := D → MH → Prop
abbrev MTE := ME → MH → MQ → Prop
abbrev MTT := ME → MH → (Bool → MH → Prop) → Prop
abbrev MTA := ME → MH → (List D → MH → Prop) → Prop
def lift (K : PySem.W.Frag) (Hb : Hp) (m : MTE) : TE := fun σ H Q => ∃ env h, ∃ Q0 : MQ, REnv K Hb H env σ ∧ HR K h H ∧ m env h Q0 ∧ ∀ d h', Q0 d h' → ∀ v H', TL H H' → HR K h' H' → RV K H' d v → Q v H'
def liftT (K : PySem.W.Frag) (Hb : Hp) (m : MTT) : TT := fun σ H Q => ∃ env h, ∃ Q0 : Bool → MH → Prop, REnv K Hb H env σ ∧ HR K h H ∧ m env h Q0 ∧ ∀ d h', Q0 d h' → ∀ H', TL H H' → HR K h' H' → Q d H'
def liftA (K : PySem.W.Frag) (Hb : Hp) (m : MTA) : TA := fun σ H Q => ∃ env h, ∃ Q0 : List D → MH → Prop, REnv K Hb H env σ ∧ HR K h H ∧ m env h Q0 ∧ ∀ ds h', Q0 ds h' → ∀ vs H', TL H H' → HR K h' H' → RVs K H' ds vs → Q vs H'
structure MEnds where
  nx : ME → MH → Prop
  rt : MQ
  bk : ME → MH → Prop := fun _ _ => False
  ct : ME → MH → Prop := fun _ _ => False
abbrev MTS := MEnds → ME → MH → Prop
def liftS (K : PySem.W.Frag) (Hb : Hp) (m : MTS) : TS := fun D' σ H => ∃ env h, ∃ D0 : MEnds, REnv K Hb H env σ ∧ HR K h H ∧ m D0 env h ∧
  (∀ env' h', D0.nx env' h' → ∀ σ' H', TL H H' → REnv K Hb H' env' σ' → HR K h' H' → D'.nx σ' H') ∧
  (∀ d h', D0.rt d h' → ∀ v H', TL H H' → RV K H' d v → HR K h' H' → D'.rt v H') ∧
  (∀ env' h', D0.bk env' h' → ∀ σ' H', TL H H' → REnv K Hb H' env' σ' → HR K h' H' → D'.bk σ' H') ∧
  (∀ env' h', D0.ct env' h' → ∀ σ' H', TL H H' → REnv K Hb H' env' σ' → HR K h' H' → D'.ct σ' H')
/-- the judgements -/
def IE (X : Cx) (Hb : Hp) (e : Expr) (m : MTE) : Prop := PE X e (lift X.K Hb m)
def IT (X : Cx) (Hb : Hp) (e : Expr) (m : MTT) : Prop := PT X e (liftT X.K Hb m)
def IW (X : Cx) (Hb : Hp) (e : Expr) (m : MTT) : Prop := PW X e (liftT X.K Hb m)
def IA (X : Cx) (Hb : Hp) (es : List Expr) (m : MTA) : Prop := PA X es (liftA X.K Hb m)
def IS (X : Cx) (Hb : Hp) (s : Stmt) (m : MTS) : Prop := PS X s (liftS X.K Hb m)
def ISs (X : Cx) (Hb : Hp) (s : List Stmt) (m : MTS) : Prop := PSs X s (liftS X.K Hb m)
theorem pe_w {X : Cx} {e : Expr} {t t' : TE} (h : PE X e t) (w : ∀ σ H Q, t' σ H Q → t σ H Q) : PE X e t' := ⟨fun pins s σ H Q I q => h.run pins s σ H Q I (w σ H Q q)⟩
theorem pt_w {X : Cx} {e : Expr} {t t' : TT} (h : PT X e t) (w : ∀ σ H Q, t' σ H Q → t σ H Q) : PT X e t' := ⟨fun pins s σ H Q I q => h.run pins s σ H Q I (w σ H Q q)⟩
theorem pw_w {X : Cx} {e : Expr} {t t' : TT} (h : PW X e t) (w : ∀ σ H Q, t' σ H Q → t σ H Q) : PW X e t' := ⟨fun wh pins s σ H Q I q => h.run wh pins s σ H Q I (w σ H Q q)⟩
theorem pa_w {X : Cx} {e : List Expr} {t t' : TA} (h : PA X e t) (w : ∀ σ H Q, t' σ H Q → t σ H Q) : PA X e t' := ⟨fun pos pins s σ H Q I q => h.run pos pins s σ H Q I (w σ H Q q)⟩
theorem ps_w {X : Cx} {e : Stmt} {t t' : TS} (h : PS X e t) (w : ∀ D' σ H, t' D' σ H → t D' σ H) : PS X e t' := ⟨fun pins s σ H D' I q => h.run pins s σ H D' I (w D' σ H q)⟩
theorem pss_w {X : Cx} {e : List Stmt} {t t' : TS} (h : PSs X e t) (w : ∀ D' σ H, t' D' σ H → t D' σ H) : PSs X e t' := ⟨fun pins s σ H D' I q => h.run pins s σ H D' I (w D' σ H q)⟩
end M

namespace M
open PySem L2
/-! ### expressions -/
def Fin (K : PySem.W.Frag) (H : Hp) (Q0 : MQ) (Q : VK) : Prop := ∀ d h', Q0 d h' → ∀ v H', TL H H' → HR K h' H' → RV K H' d v → Q v H'
theorem Fin.mono {K : PySem.W.Frag} {H H' : Hp} {Q0 : MQ} {Q : VK} (t : TL H H') (f : Fin K H Q0 Q) : Fin K H' Q0 Q := fun d h' q v H2 t2 => f d h' q v H2 (t.trans t2)
abbrev MR1 := D → MH → MQ → Prop
abbrev MR2 := D → D → MH → MQ → Prop
abbrev MRA := List D → MH → MQ → Prop
def OpM (X : Cx) (f : Value → Value → Sem Value) (r : MR2) : Prop :=
  ∃ R : R2, OpR X f R ∧ ∀ (x y : D) (h : MH) (Q0 : MQ) (vx vy : V) (H : Hp) (Q : VK), r x y h Q0 → HR X.K h H → RV X.K H x vx → RV X.K H y vy → Fin X.K H Q0 Q → R vx vy H Q
def UnM (X : Cx) (f : Value → Sem Value) (r : MR1) : Prop :=
  ∃ R : V → Hp → VK → Prop, UnR X f R ∧ ∀ (x : D) (h : MH) (Q0 : MQ) (vx : V) (H : Hp) (Q : VK), r x h Q0 → HR X.K h H → RV X.K H x vx → Fin X.K H Q0 Q → R vx H Q
def IxM (X : Cx) (r : MR2) : Prop :=
  ∃ R : R2, IxR X R ∧ ∀ (x y : D) (h : MH) (Q0 : MQ) (vx vy : V) (H : Hp) (Q : VK), r x y h Q0 → HR X.K h H → RV X.K H x vx → RV X.K H y vy → Fin X.K H Q0 Q → R vx vy H Q
def CaM (X : Cx) (f : Value) (r : MRA) : Prop :=
  ∃ R : List V → Hp → VK → Prop, CallR X f R ∧ ∀ (xs : List D) (h : MH) (Q0 : MQ) (vs : List V) (H : Hp) (Q : VK), r xs h Q0 → HR X.K h H → RVs X.K H xs vs → Fin X.K H Q0 Q → R vs H Q
def mVar (i : Nat) : MTE := fun env h Q => ∃ d, env[i]? = some (some d) ∧ Q d h
def mC (d : D) : MTE := fun _ h Q => Q d h
def mOp (r : MR2) (a b : MTE) : MTE := fun env h Q => a env h fun x h1 => b env h1 fun y h2 => r x y h2 Q
def mUn (r : MR1) (a : MTE) : MTE := fun env h Q => a env h fun x h1 => r x h1 Q
def mNil : MTA := fun _ h Q => Q [] h
def mCons (a : MTE) (r : MTA) : MTA := fun env h Q => a env h fun x h1 => r env h1 fun xs h2 => Q (x :: xs) h2
def mTup (t : MTA) : MTE := fun env h Q => t env h fun xs h1 => xs.length ≤ sizeLine ∧ Q (.tup xs) h1
def mLst (t : MTA) : MTE := fun env h Q => t env h fun xs h1 => xs.length ≤ sizeLine ∧ ∀ p, h1 p = none → Q (.ref p) (up h1 p (.lst xs))
def mCa (r : MRA) (t : MTA) : MTE := fun env h Q => t env h fun xs h1 => r xs h1 Q
def mTest (a : MTE) : MTT := fun env h Q => a env h fun x h1 => ∃ b, x = .bl b ∧ Q b h1
def mAnd (a b : MTT) : MTT := fun env h Q => a env h fun c h1 => if c = true then b env h1 Q else Q false h1
def mOr (a b : MTT) : MTT := fun env h Q => a env h fun c h1 => if c = true then Q true h1 else b env h1 Q
def mNot (a : MTT) : MTT := fun env h Q => a env h fun c h1 => Q (!c) h1
def mAndV (a b : MTE) : MTE := fun env h Q => a env h fun x h1 => ∃ c, x = .bl c ∧ if c = true then b env h1 Q else Q (.bl false) h1
def mOrV (a b : MTE) : MTE := fun env h Q => a env h fun x h1 => ∃ c, x = .bl c ∧ if c = true then Q (.bl true) h1 else b env h1 Q
def mNotV (a : MTT) : MTE := fun env h Q => a env h fun c h1 => Q (.bl (!c)) h1
def mIfE (c : MTT) (a b : MTE) : MTE := fun env h Q => c env h fun k h1 => if k = true then a env h1 Q else b env h1 Q
def mChain (r r' : MR2) (a b c : MTE) : MTE := fun env h Q => a env h fun x h1 => b env h1 fun y h2 => r x y h2 fun z h3 => ∃ k, z = .bl k ∧ if k = true then (c env h3 fun w h4 => r' y w h4 Q) else Q (.bl false) h3
section
variable {X : Cx} {Hb : Hp} {a b c e : Expr} {es : List Expr} {ma mb mc : MTE} {pos : Pos} {mt mu : MTT} {ms : MTA} {r r' : MR2}
theorem ie_var (i : Nat) {x : Str} {pos : Pos} (hN : X.N[i]? = some x := by rfl) (hv : Vis X.env.scope x := by first | exact Or.inl rfl | exact Or.inr (Or.inl rfl) | exact Or.inr (Or.inr rfl)) (hd : (x == ("__debug__" : Str)) = false := by decide)
    (hcd : (x == ("__classdict__" : Str)) = false := by decide) : IE X Hb (.Name x pos) (mVar i) :=
  pe_w (pe_var hN hv hd hcd) fun σ H Q ⟨env, h, Q0, re, rh, ⟨d, e, q⟩, f⟩ => let ⟨v, e1, rv⟩ := re.2.2 i d e; ⟨v, e1, f d h q v H (.refl H) rh rv⟩
theorem ie_c {t : V} {d : D} (h : PE X e (tC t)) (r : ∀ H, RV X.K H d t) : IE X Hb e (mC d) :=
  pe_w h fun σ H Q ⟨env, h, Q0, re, rh, q, f⟩ => f d h q t H (.refl H) rh (r H)
theorem ie_int {i j pos} : IE X Hb (.Constant (.int i) j pos) (mC (.int i)) := ie_c pe_int fun _ => rv_int
theorem ie_bl {i j pos} : IE X Hb (.Constant (.bool i) j pos) (mC (.bl i)) := ie_c pe_bl fun _ => rv_bl
theorem ie_non {j pos} : IE X Hb (.Constant .none j pos) (mC .non) := ie_c pe_non fun _ => rv_non
theorem ie_str {i j pos} : IE X Hb (.Constant (.str i) j pos) (mC (.str i)) := ie_c pe_str fun _ => rv_str
/-- the common move -/
theorem two {σ : L2.St} {H : Hp} {Q : VK} {env : ME} {h : MH} {Q0 : MQ} {R : R2} {K : PySem.W.Frag} (re : REnv K Hb H env σ) (rh : HR K h H) (m : mOp r ma mb env h Q0) (f : Fin K H Q0 Q)
    (hi : ∀ (x y : D) (h : MH) (Q0 : MQ) (vx vy : V) (H : Hp) (Q : VK), r x y h Q0 → HR K h H → RV K H x vx → RV K H y vy → Fin K H Q0 Q → R vx vy H Q) : tOp R (lift K Hb ma) (lift K Hb mb) σ H Q := by
  refine ⟨env, h, _, re, rh, m, fun x h1 q1 vx H1 t1 r1 rx => ?_⟩
  refine ⟨env, h1, _, re.mono t1, r1, q1, fun y h2 q2 vy H2 t2 r2 ry => ?_⟩
  exact hi x y h2 Q0 vx vy H2 Q q2 r2 (rx.mono t2) ry (Fin.mono (t1.trans t2) f)
theorem ie_op {op : Operator} (ho : OpM X (binaryOp op) r) (ha : IE X Hb a ma) (hb : IE X Hb b mb) : IE X Hb (.BinOp a op b pos) (mOp r ma mb) := by
  obtain ⟨R, hR, hi⟩ := ho
  exact pe_w (pe_op hR ha hb) fun σ H Q ⟨env, h, Q0, re, rh, m, f⟩ => two re rh m f hi
theorem ie_ix (ho : IxM X r) (ha : IE X Hb a ma) (hb : IE X Hb b mb) (hs : PlainIx b) : IE X Hb (.Subscript a b pos) (mOp r ma mb) := by
  obtain ⟨R, hR, hi⟩ := ho
  exact pe_w (pe_ix hR ha hb hs) fun σ H Q ⟨env, h, Q0, re, rh, m, f⟩ => two re rh m f hi
theorem ie_cmp {op : CmpOp} (ho : OpM X (compareOp op) r) (ha : IE X Hb a ma) (hb : IE X Hb b mb) (hm : behindInMarks op b = false) : IE X Hb (.Compare a [op] [b] pos) (mOp r ma mb) := by
  obtain ⟨R, hR, hi⟩ := ho
  exact pe_w (pe_cmpR hR ha hb hm) fun σ H Q ⟨env, h, Q0, re, rh, m, f⟩ => two re rh m f hi
theorem it_cmp {op : CmpOp} (ho : OpM X (compareOp op) r) (ha : IE X Hb a ma) (hb : IE X Hb b mb) (hm : behindInMarks op b = false) : IT X Hb (.Compare a [op] [b] pos) (mTest (mOp r ma mb)) := by
  obtain ⟨R, hR, hi⟩ := ho
  refine pt_w (pt_cmpR hR ha hb hm) fun σ H Q ⟨env, h, Q0, re, rh, m, f⟩ => ?_
  refine two re rh m ?_ hi
  rintro d h' ⟨k, rfl, q⟩ v H' t' rh' rv
  rw [rv.bl]
  exact ⟨k, rfl, f k h' q H' t' rh'⟩
theorem ie_un {op : UnaryOp} {r : MR1} (ho : UnM X (unaryOp op) r) (ha : IE X Hb a ma) : IE X Hb (.UnaryOp op a pos) (mUn r ma) := by
  obtain ⟨R, hR, hi⟩ := ho
  refine pe_w (pe_un hR ha) fun σ H Q ⟨env, h, Q0, re, rh, m, f⟩ => ?_
  refine ⟨env, h, _, re, rh, m, fun x h1 q1 vx H1 t1 r1 rx => ?_⟩
  exact hi x h1 Q0 vx H1 Q q1 r1 rx (Fin.mono t1 f)
theorem it_val (h : IE X Hb e ma) (he : ∀ whole, isTrue e X.env whole = (do let v ← whole; standAt e.pos; holding [v] (truthy v)) := by intro _; rfl) : IT X Hb e (mTest ma) := by
  refine pt_w (pt_val h he) fun σ H Q ⟨env, h, Q0, re, rh, m, f⟩ => ?_
  refine ⟨env, h, _, re, rh, m, ?_⟩
  rintro d h' ⟨k, rfl, q⟩ v H' t' rh' rv
  rw [rv.bl]
  exact ⟨k, rfl, f k h' q H' t' rh'⟩
theorem IW.it (h : IW X Hb e mt) : IT X Hb e mt := PW.pt h
theorem iw_and1 (h : IT X Hb a mt) : IW X Hb (.BoolOp .And [a] pos) mt := pw_and1 h
theorem iw_or1 (h : IT X Hb a mt) : IW X Hb (.BoolOp .Or [a] pos) mt := pw_or1 h
theorem iw_and {rest : List Expr} (h : IT X Hb a mt) (k : IW X Hb (.BoolOp .And (b :: rest) pos) mu) : IW X Hb (.BoolOp .And (a :: b :: rest) pos) (mAnd mt mu) := by
  refine pw_w (pw_and h k) fun σ H Q ⟨env, h, Q0, re, rh, m, f⟩ => ?_
  refine ⟨env, h, _, re, rh, m, fun k h1 q1 H1 t1 r1 => ?_⟩
  cases k with
  | true => exact ⟨env, h1, Q0, re.mono t1, r1, q1, fun d h' q H' t => f d h' q H' (t1.trans t)⟩
  | false => exact f false h1 q1 H1 t1 r1
theorem iw_or {rest : List Expr} (h : IT X Hb a mt) (k : IW X Hb (.BoolOp .Or (b :: rest) pos) mu) : IW X Hb (.BoolOp .Or (a :: b :: rest) pos) (mOr mt mu) := by
  refine pw_w (pw_or h k) fun σ H Q ⟨env, h, Q0, re, rh, m, f⟩ => ?_
  refine ⟨env, h, _, re, rh, m, fun k h1 q1 H1 t1 r1 => ?_⟩
  cases k with
  | false => exact ⟨env, h1, Q0, re.mono t1, r1, q1, fun d h' q H' t => f d h' q H' (t1.trans t)⟩
  | true => exact f true h1 q1 H1 t1 r1
theorem it_not (h : IT X Hb a mt) : IT X Hb (.UnaryOp .Not a pos) (mNot mt) := by
  refine pt_w (pt_not h) fun σ H Q ⟨env, h, Q0, re, rh, m, f⟩ => ?_
  exact ⟨env, h, _, re, rh, m, fun k h1 q1 H1 t1 r1 => f _ h1 q1 H1 t1 r1⟩
theorem ie_one {op} (h : IE X Hb a ma) : IE X Hb (.BoolOp op [a] pos) ma := pe_one h
theorem ie_and {rest : List Expr} (ha : IE X Hb a ma) (hb : IE X Hb (.BoolOp .And (b :: rest) pos) mb) : IE X Hb (.BoolOp .And (a :: b :: rest) pos) (mAndV ma mb) := by
  refine pe_w (pe_and ha hb) fun σ H Q ⟨env, h, Q0, re, rh, m, f⟩ => ?_
  refine ⟨env, h, _, re, rh, m, ?_⟩
  rintro d h1 ⟨k, rfl, q⟩ v H1 t1 r1 rv
  rw [rv.bl]
  refine ⟨k, rfl, ?_⟩
  cases k with
  | true => exact ⟨env, h1, Q0, re.mono t1, r1, q, Fin.mono t1 f⟩
  | false => exact f _ h1 q _ H1 t1 r1 rv_bl
theorem ie_or {rest : List Expr} (ha : IE X Hb a ma) (hb : IE X Hb (.BoolOp .Or (b :: rest) pos) mb) : IE X Hb (.BoolOp .Or (a :: b :: rest) pos) (mOrV ma mb) := by
  refine pe_w (pe_or ha hb) fun σ H Q ⟨env, h, Q0, re, rh, m, f⟩ => ?_
  refine ⟨env, h, _, re, rh, m, ?_⟩
  rintro d h1 ⟨k, rfl, q⟩ v H1 t1 r1 rv
  rw [rv.bl]
  refine ⟨k, rfl, ?_⟩
  cases k with
  | false => exact ⟨env, h1, Q0, re.mono t1, r1, q, Fin.mono t1 f⟩
  | true => exact f _ h1 q _ H1 t1 r1 rv_bl
theorem ie_not (ha : IE X Hb a ma) : IE X Hb (.UnaryOp .Not a pos) (mNotV (mTest ma)) := by
  refine pe_w (pe_not ha) fun σ H Q ⟨env, h, Q0, re, rh, m, f⟩ => ?_
  refine ⟨env, h, _, re, rh, m, ?_⟩
  rintro d h1 ⟨k, rfl, q⟩ v H1 t1 r1 rv
  rw [rv.bl]
  exact ⟨k, rfl, f _ h1 q _ H1 t1 r1 rv_bl⟩
theorem ie_ifE (hc : IT X Hb c mt) (ha : IE X Hb a ma) (hb : IE X Hb b mb) : IE X Hb (.IfExp c a b pos) (mIfE mt ma mb) := by
  refine pe_w (pe_ifExp hc ha hb) fun σ H Q ⟨env, h, Q0, re, rh, m, f⟩ => ?_
  refine ⟨env, h, _, re, rh, m, fun k h1 q1 H1 t1 r1 => ?_⟩
  cases k with
  | true => exact ⟨env, h1, Q0, re.mono t1, r1, q1, Fin.mono t1 f⟩
  | false => exact ⟨env, h1, Q0, re.mono t1, r1, q1, Fin.mono t1 f⟩
theorem ia_nil : IA X Hb [] mNil := pa_w pa_nil fun σ H Q ⟨env, h, Q0, re, rh, m, f⟩ => f [] h m [] H (.refl H) rh .nil
theorem ia_cons (ha : IE X Hb e ma) (hr : IA X Hb es ms) (hs : starEach (e :: es) X.env = (false, eval e X.env) :: starEach es X.env := by rfl) : IA X Hb (e :: es) (mCons ma ms) := by
  refine pa_w (pa_cons ha hr hs) fun σ H Q ⟨env, h, Q0, re, rh, m, f⟩ => ?_
  refine ⟨env, h, _, re, rh, m, fun x h1 q1 vx H1 t1 r1 rx => ?_⟩
  exact ⟨env, h1, _, re.mono t1, r1, q1, fun ds h2 q2 vs H2 t2 r2 rs => f _ h2 q2 _ H2 (t1.trans t2) r2 (.cons (rx.mono t2) rs)⟩
def tTupN (t : TA) : TE := fun σ H Q => t σ H fun xs H1 => xs.length ≤ sizeLine ∧ ∀ p od, H1 p = none → od.dict = none → Q (.ref p) (upd H1 p (.frz od (.tup xs)))
theorem pe_tupN {x1} {t : TA} (h : PA X es t) : PE X (.Tuple es x1 pos) (tTupN t) := by
  refine ⟨fun pins s σ H Q I hq => ?_⟩
  refine wpAny_Tuple_spliced (thn (h.run pos pins s σ H _ I hq) fun us s1 ⟨xs, H1, I1, r, z, q⟩ => ⟨by rw [← r.length]; exact z, ?_⟩)
  have hf : H1 s1.heap.objs.size = none := I1.hok.fresh (Nat.le_refl _)
  exact ⟨.ref s1.heap.objs.size, _, I1.laid (t' := s1.toks) (fun b u e => Heap.get?_push_of_some _ e) (Nat.le_refl _) (okN z r), rfl, q _ _ hf rfl⟩
theorem ie_tup {x1} (h : IA X Hb es ms) : IE X Hb (.Tuple es x1 pos) (mTup ms) := by
  refine pe_w (pe_tupN h) fun σ H Q ⟨env, h, Q0, re, rh, m, f⟩ => ?_
  refine ⟨env, h, _, re, rh, m, fun xs h1 ⟨z, q⟩ vs H1 t1 r1 rs => ⟨by rw [← rs.length]; exact z, fun p od np nd => ?_⟩⟩
  exact f _ h1 q _ _ (t1.trans (.new np)) (r1.skip np) (rv_tup (.of upd_same nd) (rs.mono (.new np)))
theorem ie_lst (h : IA X Hb es ms) : IE X Hb (.List es pos) (mLst ms) := by
  refine pe_w (pe_lst h) fun σ H Q ⟨env, h, Q0, re, rh, m, f⟩ => ?_
  refine ⟨env, h, _, re, rh, m, fun xs h1 ⟨z, q⟩ vs H1 t1 r1 rs => ⟨by rw [← rs.length]; exact z, fun p np => ?_⟩⟩
  exact f _ _ (q p (r1.free np)) _ _ (t1.trans (.new np)) (r1.new np ⟨vs, rfl, rs⟩) rv_ref
theorem ie_chain {op op' : CmpOp} (ho : OpM X (compareOp op) r) (ho' : OpM X (compareOp op') r') (ha : IE X Hb a ma) (hb : IE X Hb b mb) (hc : IE X Hb c mc)
    (hm : lastMarks [op, op'] [b, c] = false := by rfl) : IE X Hb (.Compare a [op, op'] [b, c] pos) (mChain r r' ma mb mc) := by
  obtain ⟨R, hR, hi⟩ := ho
  obtain ⟨R', hR', hi'⟩ := ho'
  refine pe_w (pe_chain hR hR' ha hb hc hm) fun σ H Q ⟨env, h, Q0, re, rh, m, f⟩ => ?_
  refine ⟨env, h, _, re, rh, m, fun x h1 q1 vx H1 t1 r1 rx => ?_⟩
  refine ⟨env, h1, _, re.mono t1, r1, q1, fun y h2 q2 vy H2 t2 r2 ry => ?_⟩
  refine hi x y h2 _ vx vy H2 _ q2 r2 (rx.mono t2) ry ?_
  rintro d h3 ⟨k, rfl, q3⟩ v H3 t3 r3 rv
  rw [rv.bl]
  refine ⟨k, rfl, ?_⟩
  cases k with
  | true =>
    refine ⟨env, h3, _, re.mono (t1.trans (t2.trans t3)), r3, q3, fun w h4 q4 vw H4 t4 r4 rw' => ?_⟩
    exact hi' y w h4 Q0 vy vw H4 Q q4 r4 (ry.mono (t3.trans t4)) rw' (Fin.mono (t1.trans (t2.trans (t3.trans t4))) f)
  | false => exact f _ h3 q3 _ H3 (t1.trans (t2.trans t3)) r3 rv_bl
theorem it_chain {op op' : CmpOp} (ho : OpM X (compareOp op) r) (ho' : OpM X (compareOp op') r') (ha : IE X Hb a ma) (hb : IE X Hb b mb) (hc : IE X Hb c mc)
    (hm : lastMarks [op, op'] [b, c] = false := by rfl) : IT X Hb (.Compare a [op, op'] [b, c] pos) (mTest (mChain r r' ma mb mc)) := by
  obtain ⟨R, hR, hi⟩ := ho
  obtain ⟨R', hR', hi'⟩ := ho'
  refine pt_w (pt_chain hR hR' ha hb hc hm) fun σ H Q ⟨env, h, Q0, re, rh, m, f⟩ => ?_
  refine ⟨env, h, _, re, rh, m, fun x h1 q1 vx H1 t1 r1 rx => ?_⟩
  refine ⟨env, h1, _, re.mono t1, r1, q1, fun y h2 q2 vy H2 t2 r2 ry => ?_⟩
  refine hi x y h2 _ vx vy H2 _ q2 r2 (rx.mono t2) ry ?_
  rintro d h3 ⟨k, rfl, q3⟩ v H3 t3 r3 rv
  rw [rv.bl]
  refine ⟨k, rfl, ?_⟩
  cases k with
  | true =>
    refine ⟨env, h3, _, re.mono (t1.trans (t2.trans t3)), r3, q3, fun w h4 q4 vw H4 t4 r4 rw' => ?_⟩
    refine hi' y w h4 _ vy vw H4 _ q4 r4 (ry.mono (t3.trans t4)) rw' ?_
    rintro d h5 ⟨k, rfl, q5⟩ v H5 t5 r5 rv
    rw [rv.bl]
    exact ⟨k, rfl, f k h5 q5 H5 (t1.trans (t2.trans (t3.trans (t4.trans t5)))) r5⟩
  | false =>
    obtain ⟨k, e, q3⟩ := q3
    cases e
    exact ⟨false, rfl, f false h3 q3 H3 (t1.trans (t2.trans t3)) r3⟩
/-- a built-in by its name -/
theorem ie_callB {x : Str} {n : String} {rA : MRA} {p : Pos} (ho : CaM X (.builtin n) rA) (hg : Gl X x) (hm : X.mg x = none) (hv : bootBuiltins x = some (.builtin n)) (ha : IA X Hb (e :: es) ms)
    (hdb : (x == ("__debug__" : Str)) = false := by decide) (hn : x ≠ "__name__" := by decide)
    (hs : starEach (e :: es) X.env = (false, eval e X.env) :: starEach es X.env := by rfl) (hpl : (backTo pos (starEach es X.env)).any (·.1) = false := by rfl) : IE X Hb (.Call (.Name x p) (e :: es) [] pos) (mCa rA ms) := by
  obtain ⟨R, hR, hi⟩ := ho
  refine pe_w (pe_callB hR hg hm hv ha hn hdb hs hpl) fun σ H Q ⟨env, h, Q0, re, rh, m, f⟩ => ?_
  exact ⟨env, h, _, re, rh, m, fun xs h1 q1 vs H1 t1 r1 rs => hi xs h1 Q0 vs H1 Q q1 r1 rs (Fin.mono t1 f)⟩
theorem ie_callTy {x : Str} {n : String} {rA : MRA} {p : Pos} (ho : CaM X (.type n) rA) (hg : Gl X x) (hm : X.mg x = none) (hv : bootBuiltins x = some (.type n)) (ha : IA X Hb (e :: es) ms)
    (hdb : (x == ("__debug__" : Str)) = false := by decide) (hn : x ≠ "__name__" := by decide)
    (hs : starEach (e :: es) X.env = (false, eval e X.env) :: starEach es X.env := by rfl) (hpl : (backTo pos (starEach es X.env)).any (·.1) = false := by rfl) : IE X Hb (.Call (.Name x p) (e :: es) [] pos) (mCa rA ms) := by
  obtain ⟨R, hR, hi⟩ := ho
  refine pe_w (pe_callTy hR hg hm hv ha hn hdb hs hpl) fun σ H Q ⟨env, h, Q0, re, rh, m, f⟩ => ?_
  exact ⟨env, h, _, re, rh, m, fun xs h1 q1 vs H1 t1 r1 rs => hi xs h1 Q0 vs H1 Q q1 r1 rs (Fin.mono t1 f)⟩
end
end M

namespace M
open PySem PyProof.Rows L2
/-! ### new tuples, told with their objects -/
def rCatN (K : PySem.W.Frag) : R2 := fun x y H Q => ∃ a b xs ys, x = .ref a ∧ y = .ref b ∧ SqT K H a xs ∧ SqT K H b ys ∧ xs.length + ys.length ≤ sizeLine ∧
  (xs = [] → Q (.ref b) H) ∧ (xs ≠ [] → ys = [] → Q (.ref a) H) ∧ (xs ≠ [] → ys ≠ [] → ∀ p od, H p = none → od.dict = none → Q (.ref p) (upd H p (.frz od (.tup (xs ++ ys)))))
theorem op_catN {X : Cx} : OpR X (binaryOp .Add) (rCatN X.K) := by
  intro pins s σ H x y v u Q I rx ry h
  obtain ⟨a, b, xs, ys, rfl, rfl, ha, hb, hz, q0, q1, q2⟩ := h
  by_cases hx : xs = []
  · exact op_catA pins s σ H _ _ v u Q I rx ry ⟨a, b, xs, ys, rfl, rfl, ha, hb, hz, q0, q1, fun z => absurd hx z⟩
  · cases rx
    cases ry
    obtain ⟨its, r1, p1, _⟩ := I.tuple ha
    obtain ⟨its2, r2, p2, _⟩ := I.tuple hb
    refine HT.cat_tup p1 p2 (fun z => hx (r1.nil_iff.mp z)) (fun z => ⟨.ref a, H, I, rfl, q1 hx (r2.nil_iff.mp z)⟩) (fun z => ?_) (by rw [← r1.length, ← r2.length]; exact hz)
    exact ⟨.ref s.heap.objs.size, _, I.laid (t' := s.toks) (fun b ob q => Heap.get?_push_of_some _ q) (Nat.le_refl _) (okN (by rw [List.length_append]; exact hz) (r1.append r2)), rfl, q2 hx (fun w => z (r2.nil_iff.mpr w)) _ _ (I.hok.fresh (Nat.le_refl _)) rfl⟩
def rSlN (K : PySem.W.Frag) : V → Option Int → Option Int → Hp → VK → Prop := fun x lo hi H Q => ∃ a xs, x = .ref a ∧ SqT K H a xs ∧
  (HT.sIx xs.length 0 lo = 0 ∧ HT.sIx xs.length xs.length hi = xs.length → Q (.ref a) H) ∧ (¬ (HT.sIx xs.length 0 lo = 0 ∧ HT.sIx xs.length xs.length hi = xs.length) → ∀ p od, H p = none → od.dict = none → Q (.ref p) (upd H p (.frz od (.tup (cutV xs lo hi)))))
theorem sl_tupN {X : Cx} : SlR X (rSlN X.K) := by
  intro pins s σ H x v vl vu lo hi sl Q I rx hs pl pu h
  obtain ⟨a, xs, rfl, hx, q1, q2⟩ := h
  by_cases hw : HT.sIx xs.length 0 lo = 0 ∧ HT.sIx xs.length xs.length hi = xs.length
  · exact sl_tupA pins s σ H _ v vl vu lo hi sl Q I rx hs pl pu ⟨a, xs, rfl, hx, q1, fun z => absurd hw z⟩
  · cases rx
    obtain ⟨its, r, ht, hz⟩ := I.tuple hx
    have hlen : its.toArray.size = xs.length := by rw [List.size_toArray]; exact r.length.symm
    refine ⟨"tuple", _, PyProof.Rows.slot_tuple_getitem.lookup, ht.typeIs, ?_⟩
    refine HT.getItem_tuple_cut ht hs pl pu (by rw [hlen]; exact hw) ?_ (by rw [hlen]; exact hz)
    rw [hlen]
    exact ⟨.ref s.heap.objs.size, _, I.laid (t' := s.toks) (fun b ob q => Heap.get?_push_of_some _ q) (Nat.le_refl _) (okN (Nat.le_trans (cutV_length xs lo hi) hz) ((r.drop (HT.sIx xs.length 0 lo)).take (HT.sIx xs.length xs.length hi - HT.sIx xs.length 0 lo))), rfl, q2 hw _ _ (I.hok.fresh (Nat.le_refl _)) rfl⟩
theorem call_tupleN {X : Cx} : CallR X (.type "tuple") (fun xs H Q => ∃ p ys, xs = [.ref p] ∧ ((SqL X.K H p ys ∧ ∀ l od, H l = none → od.dict = none → Q (.ref l) (upd H l (.frz od (.tup ys)))) ∨ (SqT X.K H p ys ∧ Q (.ref p) H))) := by
  intro pins s σ H xs us Q I r h
  obtain ⟨p, ys, rfl, h⟩ := h
  obtain ⟨u, rfl, rx⟩ := vals1 r
  cases rx
  rcases h with ⟨hq, q⟩ | ⟨hq, q⟩
  · obtain ⟨its, r', pl, hz⟩ := I.list hq
    have hlen := r'.length
    refine call_tuple_list pl.isList (fun h' kp => ?_) (by simp only [List.size_toArray] <;> omega)
    have I1 : Inv X pins σ H { s with heap := h' } := I.kept (t' := s.toks) kp
    exact ⟨.ref h'.objs.size, _, I1.laid (t' := s.toks) (fun b o e => Heap.get?_push_of_some _ e) (Nat.le_refl _) (okN hz r'), rfl, q _ _ (I1.hok.fresh (Nat.le_refl _)) rfl⟩
  · obtain ⟨its, r', pl, hz⟩ := I.tuple hq
    exact call_tuple_same pl ⟨.ref p, H, I, rfl, q⟩
/-! ### operators -/
def DivOk (j : Int) : Prop := 0 < j ∧ j.natAbs.log2 < 9000
def DivOkN (j : Int) : Prop := j ≠ 0 ∧ j.natAbs.log2 < 9000
def MulOk (i j : Int) : Prop := CMul i j ∨ CMulX i j
theorem divOk {j : Int} (h : 0 < j) (h2 : j < 2 ^ 200) : DivOk j := ⟨h, by
  have h3 : j.natAbs < 2 ^ 200 := by omega
  exact Nat.lt_of_lt_of_le (PySem.Flt.log2_lt_of (by decide) h3) (by decide)⟩
theorem mulOkL {i j : Int} (h : -(2 ^ 64) < i) (h2 : i < 2 ^ 64) : MulOk i j := .inl (.inl ⟨h, h2⟩)
theorem mulOkR {i j : Int} (h : -(2 ^ 64) < j) (h2 : j < 2 ^ 64) : MulOk i j := .inl (.inr ⟨h, h2⟩)
theorem mulOkX {i j : Int} {a b : Nat} (ha : i.natAbs < 2 ^ a) (hb : j.natAbs < 2 ^ b) (h : a + b ≤ 134217728) : MulOk i j := .inr (mulx_ok ha hb h)
def rAdd : MR2 := fun x y h Q => match x, y with
  | .int i, .int j => Q (.int (i + j)) h
  | .str i, .str j => i.length + j.length ≤ sizeLine ∧ Q (.str (i ++ j)) h
  | .tup i, .tup j => i.length + j.length ≤ sizeLine ∧ Q (.tup (i ++ j)) h
  | .ref a, .ref b => ∃ xs ys, h a = some (.lst xs) ∧ h b = some (.lst ys) ∧ xs.length + ys.length ≤ sizeLine ∧ ∀ p, h p = none → Q (.ref p) (up h p (.lst (xs ++ ys)))
  | _, _ => False
def rSub : MR2 := fun x y h Q => match x, y with
  | .int i, .int j => Q (.int (i - j)) h
  | _, _ => False
def rMul : MR2 := fun x y h Q => match x, y with
  | .int i, .int j => MulOk i j ∧ Q (.int (i * j)) h
  | .ref a, .int k => ∃ xs, h a = some (.lst xs) ∧ -(2 ^ 63) ≤ k ∧ k < 2 ^ 63 ∧ xs.length * k.toNat ≤ sizeLine ∧ ∀ p, h p = none → Q (.ref p) (up h p (.lst (List.replicate k.toNat xs).flatten))
  | _, _ => False
def rFdiv : MR2 := fun x y h Q => match x, y with
  | .int i, .int j => DivOk j ∧ Q (.int (i / j)) h
  | _, _ => False
def rFdivN : MR2 := fun x y h Q => match x, y with
  | .int i, .int j => DivOkN j ∧ Q (.int (i.fdiv j)) h
  | _, _ => False
def rMod : MR2 := fun x y h Q => match x, y with
  | .int i, .int j => 0 < j ∧ Q (.int (i % j)) h
  | _, _ => False
def rModN : MR2 := fun x y h Q => match x, y with
  | .int i, .int j => j ≠ 0 ∧ Q (.int (i.fmod j)) h
  | _, _ => False
def rPow : MR2 := fun x y h Q => match x, y with
  | .int i, .int j => CPow i j ∧ Q (.int (i ^ j.toNat)) h
  | _, _ => False
def rShl : MR2 := fun x y h Q => match x, y with
  | .int i, .int j => CPow i j ∧ Q (.int (i * 2 ^ j.toNat)) h
  | _, _ => False
def rNeg : MR1 := fun x h Q => match x with
  | .int i => Q (.int (-i)) h
  | _ => False
def rLtI : MR2 := fun x y h Q => match x, y with
  | .int i, .int j => Q (.bl (decide (i < j))) h
  | _, _ => False
def rLeI : MR2 := fun x y h Q => match x, y with
  | .int i, .int j => Q (.bl (decide (i ≤ j))) h
  | _, _ => False
def rGtI : MR2 := fun x y h Q => match x, y with
  | .int i, .int j => Q (.bl (decide (j < i))) h
  | _, _ => False
def rGeI : MR2 := fun x y h Q => match x, y with
  | .int i, .int j => Q (.bl (decide (j ≤ i))) h
  | _, _ => False
section
variable {X : Cx}
theorem fin_at {K : PySem.W.Frag} {H : Hp} {Q0 : MQ} {Q : VK} {d : D} {h : MH} {v : V} (f : Fin K H Q0 Q) (q : Q0 d h) (rh : HR K h H) (r : RV K H d v) : Q v H := f d h q v H (.refl H) rh r
/-- two ints -/
theorem opI2 {f : Value → Value → Sem Value} {C : Int → Int → Prop} {g : Int → Int → V} {g' : Int → Int → D} {r : MR2} (ho : OpR X f (rI C g)) (hg : ∀ i j H, RV X.K H (g' i j) (g i j))
    (hr : ∀ x y h Q, r x y h Q → ∃ i j, x = .int i ∧ y = .int j ∧ C i j ∧ Q (g' i j) h) : OpM X f r := by
  refine ⟨_, ho, fun x y h Q0 vx vy H Q q rh rx ry f => ?_⟩
  obtain ⟨i, j, rfl, rfl, c, q2⟩ := hr x y h Q0 q
  rw [rx.int, ry.int]
  exact ⟨i, j, rfl, rfl, c, fin_at f q2 rh (hg i j H)⟩
theorem opI20 {f : Value → Value → Sem Value} {g : Int → Int → V} {g' : Int → Int → D} {r : MR2} (ho : OpR X f (rI0 g)) (hg : ∀ i j H, RV X.K H (g' i j) (g i j))
    (hr : ∀ x y h Q, r x y h Q → ∃ i j, x = .int i ∧ y = .int j ∧ Q (g' i j) h) : OpM X f r := by
  refine ⟨_, ho, fun x y h Q0 vx vy H Q q rh rx ry f => ?_⟩
  obtain ⟨i, j, rfl, rfl, q2⟩ := hr x y h Q0 q
  rw [rx.int, ry.int]
  exact ⟨i, j, rfl, rfl, fin_at f q2 rh (hg i j H)⟩
theorem om_sub : OpM X (binaryOp .Sub) rSub := opI20 op_sub (fun _ _ _ => rv_int) fun x y h Q q => by
  cases x <;> cases y <;> first | exact q.elim | exact ⟨_, _, rfl, rfl, q⟩
theorem om_mod : OpM X (binaryOp .Mod) rMod := opI2 op_mod (fun _ _ _ => rv_int) fun x y h Q q => by
  cases x <;> cases y <;> first | exact q.elim | exact ⟨_, _, rfl, rfl, q.1, q.2⟩
theorem om_modN : OpM X (binaryOp .Mod) rModN := opI2 op_modN (fun _ _ _ => rv_int) fun x y h Q q => by
  cases x <;> cases y <;> first | exact q.elim | exact ⟨_, _, rfl, rfl, q.1, q.2⟩
theorem om_pow : OpM X (binaryOp .Pow) rPow := opI2 op_pow (fun _ _ _ => rv_int) fun x y h Q q => by
  cases x <;> cases y <;> first | exact q.elim | exact ⟨_, _, rfl, rfl, q.1, q.2⟩
theorem om_shl : OpM X (binaryOp .LShift) rShl := opI2 op_shl (fun _ _ _ => rv_int) fun x y h Q q => by
  cases x <;> cases y <;> first | exact q.elim | exact ⟨_, _, rfl, rfl, q.1, q.2⟩
theorem om_fdiv : OpM X (binaryOp .FloorDiv) rFdiv := opI2 (C := CDivW) op_fdivW (fun _ _ _ => rv_int) fun x y h Q q => by
  cases x <;> cases y <;> first | exact q.elim | exact ⟨_, _, rfl, rfl, q.1, q.2⟩
theorem op_fdivNW : OpR X (binaryOp .FloorDiv) (rI (fun _ j => DivOkN j) fun i j => .int (i.fdiv j)) := opI fun i j _ _ _ _ _ hc q => PyProof.Rows.floordiv_int hc.1 q (.inl (PyProof.noPylong_of_log2 hc.2))
theorem om_fdivN : OpM X (binaryOp .FloorDiv) rFdivN := opI2 op_fdivNW (fun _ _ _ => rv_int) fun x y h Q q => by
  cases x <;> cases y <;> first | exact q.elim | exact ⟨_, _, rfl, rfl, q.1, q.2⟩
theorem om_ltI : OpM X (compareOp .Lt) rLtI := opI20 op_lt (fun _ _ _ => rv_bl) fun x y h Q q => by
  cases x <;> cases y <;> first | exact q.elim | exact ⟨_, _, rfl, rfl, q⟩
theorem om_leI : OpM X (compareOp .LtE) rLeI := opI20 op_le (fun _ _ _ => rv_bl) fun x y h Q q => by
  cases x <;> cases y <;> first | exact q.elim | exact ⟨_, _, rfl, rfl, q⟩
theorem om_gtI : OpM X (compareOp .Gt) rGtI := opI20 op_gt (fun _ _ _ => rv_bl) fun x y h Q q => by
  cases x <;> cases y <;> first | exact q.elim | exact ⟨_, _, rfl, rfl, q⟩
theorem om_geI : OpM X (compareOp .GtE) rGeI := opI20 op_ge (fun _ _ _ => rv_bl) fun x y h Q q => by
  cases x <;> cases y <;> first | exact q.elim | exact ⟨_, _, rfl, rfl, q⟩
theorem um_neg : UnM X (unaryOp .USub) rNeg := ⟨_, un_neg, fun x h Q0 vx H Q q rh rx f => by
  cases x <;> first | exact q.elim | skip
  rw [rx.int]
  exact ⟨_, rfl, fin_at f q rh rv_int⟩⟩
theorem om_add : OpM X (binaryOp .Add) rAdd := by
  refine ⟨_, (op_add.or op_add_str).or (op_catN.or op_cat), fun x y h Q0 vx vy H Q q rh rx ry f => ?_⟩
  cases x <;> cases y <;> first | exact q.elim | skip
  · rw [rx.int, ry.int]
    exact .inl (.inl ⟨_, _, rfl, rfl, fin_at f q rh rv_int⟩)
  · rw [rx.str, ry.str]
    exact .inl (.inr ⟨_, _, rfl, rfl, q.1, fin_at f q.2 rh rv_str⟩)
  · rename_i xs ys
    obtain ⟨a, vs, rfl, ta, rs⟩ := rx.tupN
    obtain ⟨b, ws, rfl, tb, rt⟩ := ry.tupN
    refine .inr (.inl ⟨a, b, vs, ws, rfl, rfl, ta.t, tb.t, by rw [← rs.length, ← rt.length]; exact q.1, fun e => ?_, fun e e2 => ?_, fun e e2 p od np nd => ?_⟩)
    · subst e
      have e0 : xs = [] := List.eq_nil_of_length_eq_zero rs.length
      subst e0
      exact fin_at f q.2 rh (rv_tup tb rt)
    · subst e2
      have e0 : ys = [] := List.eq_nil_of_length_eq_zero rt.length
      subst e0
      have q2 := q.2
      rw [List.append_nil] at q2
      exact fin_at f q2 rh (rv_tup ta rs)
    · exact f _ h q.2 _ _ (.new np) (rh.skip np) (rv_tup (.of upd_same nd) ((rs.append rt).mono (.new np)))
  · obtain ⟨xs, ys, e1, e2, z, q⟩ := q
    rw [rx.ref, ry.ref]
    obtain ⟨vs, E1, r1⟩ := rh.lst e1
    obtain ⟨ws, E2, r2⟩ := rh.lst e2
    refine .inr (.inr ⟨_, _, vs, ws, rfl, rfl, E1, E2, by rw [← r1.length, ← r2.length]; exact z, fun p np => ?_⟩)
    exact f _ _ (q p (rh.free np)) _ _ (.new np) (rh.new np ⟨_, rfl, r1.append r2⟩) rv_ref
theorem RVs.rep {K : PySem.W.Frag} {H : Hp} {ds : List D} {vs : List V} (h : RVs K H ds vs) : ∀ k : Nat, RVs K H (List.replicate k ds).flatten (List.replicate k vs).flatten
  | 0 => .nil
  | k + 1 => by
    rw [List.replicate_succ, List.replicate_succ, List.flatten_cons, List.flatten_cons]
    exact h.append (h.rep k)
theorem om_mul : OpM X (binaryOp .Mult) rMul := by
  refine ⟨_, (op_mul.or op_mulX).or op_rep, fun x y h Q0 vx vy H Q q rh rx ry f => ?_⟩
  cases x <;> cases y <;> first | exact q.elim | skip
  · rw [rx.int, ry.int]
    rcases q.1 with c | c
    · exact .inl (.inl ⟨_, _, rfl, rfl, c, fin_at f q.2 rh rv_int⟩)
    · exact .inl (.inr ⟨_, _, rfl, rfl, c, fin_at f q.2 rh rv_int⟩)
  · obtain ⟨xs, e1, k1, k2, z, q⟩ := q
    rw [rx.ref, ry.int]
    obtain ⟨vs, E1, r1⟩ := rh.lst e1
    refine .inr ⟨_, _, vs, rfl, rfl, E1, k1, k2, by rw [← r1.length]; exact z, fun p np => ?_⟩
    exact f _ _ (q p (rh.free np)) _ _ (.new np) (rh.new np ⟨_, rfl, r1.rep _⟩) rv_ref
end
/-! ### subscripts -/
def rIx : MR2 := fun x y h Q => match x, y with
  | .tup ds, .int i => ∃ d, atI ds i = some d ∧ Q d h
  | .tw ds, .int i => ∃ d, atI ds i = some d ∧ Q d h
  | .rl ds, .int i => ∃ d, atI ds i = some d ∧ Q d h
  | .str z, .int i => z.length ≤ sizeLine ∧ ∃ c, atI z.cps.toList i = some c ∧ Q (.str ⟨#[c]⟩) h
  | .ref a, .int i => ∃ ds, h a = some (.lst ds) ∧ ∃ d, atI ds i = some d ∧ Q d h
  | _, _ => False
theorem RVs.atI {K : PySem.W.Frag} {H : Hp} {ds : List D} {vs : List V} {i : Int} {d : D} (h : RVs K H ds vs) (e : L2.atI ds i = some d) : ∃ v, L2.atI vs i = some v ∧ RV K H d v := by
  unfold L2.atI at e ⊢
  rw [← h.length]
  cases c : ixN ds.length i with
  | none => rw [c] at e; cases e
  | some j =>
    rw [c] at e
    obtain ⟨v, e1, r⟩ := h.get (show ds[j]? = some d from e)
    exact ⟨v, e1, r⟩
theorem ix_m {X : Cx} : IxM X rIx := by
  refine ⟨_, ix_seq, fun x y h Q0 vx vy H Q q rh rx ry f => ?_⟩
  cases x <;> cases y <;> first | exact q.elim | skip
  · obtain ⟨z, c, e, q⟩ := q
    rw [rx.str, ry.int]
    exact .inr (.inr ⟨_, _, c, rfl, rfl, z, e, fin_at f q rh rv_str⟩)
  · obtain ⟨d, e, q⟩ := q
    obtain ⟨a, vs, rfl, ta, rs⟩ := rx.tup
    rw [ry.int]
    obtain ⟨v, e1, r⟩ := rs.atI e
    exact .inr (.inl ⟨a, vs, _, v, rfl, rfl, ta, e1, fin_at f q rh r⟩)
  · obtain ⟨d, e, q⟩ := q
    obtain ⟨a, vs, rfl, ta, rs⟩ := rx.tw
    rw [ry.int]
    obtain ⟨v, e1, r⟩ := rs.atI e
    exact .inr (.inl ⟨a, vs, _, v, rfl, rfl, ta, e1, fin_at f q rh r⟩)
  · obtain ⟨d, e, q⟩ := q
    obtain ⟨a, vs, rfl, ta, rs⟩ := rx.rl
    rw [ry.int]
    obtain ⟨v, e1, r⟩ := rs.atI e
    exact .inl ⟨a, vs, _, v, rfl, rfl, ta.l, e1, fin_at f q rh r⟩
  · obtain ⟨ds, e0, d, e, q⟩ := q
    rw [rx.ref, ry.int]
    obtain ⟨vs, E, rs⟩ := rh.lst e0
    obtain ⟨v, e1, r⟩ := rs.atI e
    exact .inl ⟨_, vs, _, v, rfl, rfl, .of E, e1, fin_at f q rh r⟩
/-! ### slices -/
abbrev MTO := ME → MH → (Option Int → MH → Prop) → Prop
def mNo : MTO := fun _ h Q => Q none h
def mPart (a : MTE) : MTO := fun env h Q => a env h fun x h1 => ∃ i, x = .int i ∧ Q (some i) h1
def liftO (K : PySem.W.Frag) (Hb : Hp) (m : MTO) : TO := fun σ H Q => ∃ env h, ∃ Q0 : Option Int → MH → Prop, REnv K Hb H env σ ∧ HR K h H ∧ m env h Q0 ∧ ∀ d h', Q0 d h' → ∀ H', TL H H' → HR K h' H' → Q d H'
def IO (X : Cx) (Hb : Hp) (e : Option Expr) (m : MTO) : Prop := PO X e (liftO X.K Hb m)
theorem po_w {X : Cx} {e : Option Expr} {t t' : TO} (h : PO X e t) (w : ∀ σ H Q, t' σ H Q → t σ H Q) : PO X e t' := ⟨fun pins s σ H Q I q => h.run pins s σ H Q I (w σ H Q q)⟩
def cutD (xs : List D) (lo hi : Option Int) : List D := (xs.drop (HT.sIx xs.length 0 lo)).take (HT.sIx xs.length xs.length hi - HT.sIx xs.length 0 lo)
theorem RVs.cut {K : PySem.W.Frag} {H : Hp} {ds : List D} {vs : List V} (h : RVs K H ds vs) (lo hi : Option Int) : RVs K H (cutD ds lo hi) (cutV vs lo hi) := by
  unfold cutD cutV
  rw [h.length]
  exact (h.drop _).take _
abbrev MRS := D → Option Int → Option Int → MH → MQ → Prop
def rSl : MRS := fun x lo hi h Q => match x with
  | .tup ds => Q (.tup (cutD ds lo hi)) h
  | .rl ds => ∀ p, h p = none → Q (.ref p) (up h p (.lst (cutD ds lo hi)))
  | .ref a => ∃ ds, h a = some (.lst ds) ∧ ∀ p, h p = none → Q (.ref p) (up h p (.lst (cutD ds lo hi)))
  | _ => False
def mSl (r : MRS) (a : MTE) (l u : MTO) : MTE := fun env h Q => a env h fun x h1 => l env h1 fun lo h2 => u env h2 fun hi h3 => r x lo hi h3 Q
theorem io_none {X : Cx} {Hb : Hp} : IO X Hb none mNo := po_w po_none fun σ H Q ⟨env, h, Q0, re, rh, m, f⟩ => f none h m H (.refl H) rh
theorem io_some {X : Cx} {Hb : Hp} {e : Expr} {me : MTE} (he : IE X Hb e me) : IO X Hb (some e) (mPart me) := by
  refine po_w (po_some he) fun σ H Q ⟨env, h, Q0, re, rh, m, f⟩ => ?_
  refine ⟨env, h, _, re, rh, m, ?_⟩
  rintro d h1 ⟨i, rfl, q⟩ v H1 t1 r1 rv
  rw [rv.int]
  exact ⟨i, rfl, f _ h1 q H1 t1 r1⟩
theorem cut_all {xs : List D} {lo hi : Option Int} (h1 : HT.sIx xs.length 0 lo = 0) (h2 : HT.sIx xs.length xs.length hi = xs.length) : cutD xs lo hi = xs := by
  unfold cutD
  rw [h1, h2, List.drop_zero, Nat.sub_zero, List.take_length]
theorem ie_slice {X : Cx} {Hb : Hp} {e : Expr} {lo hi : Option Expr} {me : MTE} {ml mh : MTO} {p2 pos : Pos} (he : IE X Hb e me) (hl : IO X Hb lo ml) (hu : IO X Hb hi mh) : IE X Hb (.Subscript e (.Slice lo hi none p2) pos) (mSl rSl me ml mh) := by
  refine pe_w (pe_slice (sl_tupN.or sl_list) he hl hu) fun σ H Q ⟨env, h, Q0, re, rh, m, f⟩ => ?_
  refine ⟨env, h, _, re, rh, m, fun x h1 q1 vx H1 t1 r1 rx => ?_⟩
  refine ⟨env, h1, _, re.mono t1, r1, q1, fun l h2 q2 H2 t2 r2 => ?_⟩
  refine ⟨env, h2, _, re.mono (t1.trans t2), r2, q2, fun u h3 q3 H3 t3 r3 => ?_⟩
  have f3 := Fin.mono (t1.trans (t2.trans t3)) f
  have rx3 := rx.mono (t2.trans t3)
  cases x <;> first | exact q3.elim | skip
  · obtain ⟨a, vs, rfl, ta, rs⟩ := rx3.tupN
    refine .inl ⟨a, vs, rfl, ta.t, fun ⟨z1, z2⟩ => ?_, fun z p od np nd => ?_⟩
    · rw [← rs.length] at z1 z2
      have q4 : Q0 (.tup (cutD _ l u)) h3 := q3
      rw [cut_all z1 z2] at q4
      exact fin_at f3 q4 r3 (rv_tup ta rs)
    · exact f3 _ h3 q3 _ _ (.new np) (r3.skip np) (rv_tup (.of upd_same nd) ((rs.cut l u).mono (.new np)))
  · obtain ⟨a, vs, rfl, ta, rs⟩ := rx3.rl
    exact .inr ⟨a, vs, rfl, ta.l, fun p np => f3 _ _ (q3 p (r3.free np)) _ _ (.new np) (r3.new np ⟨_, rfl, rs.cut l u⟩) rv_ref⟩
  · obtain ⟨ds, e, q3⟩ := q3
    rw [rx3.ref]
    obtain ⟨vs, E, rs⟩ := r3.lst e
    exact .inr ⟨_, vs, rfl, .of E, fun p np => f3 _ _ (q3 p (r3.free np)) _ _ (.new np) (r3.new np ⟨_, rfl, rs.cut l u⟩) rv_ref⟩
/-! ### built-ins -/
def rLen : MRA := fun xs h Q => match xs with
  | [.tup ds] => Q (.int ds.length) h
  | [.rl ds] => Q (.int ds.length) h
  | [.str z] => z.length ≤ sizeLine ∧ Q (.int z.length) h
  | [.ref a] => ∃ ds, h a = some (.lst ds) ∧ Q (.int ds.length) h
  | _ => False
def rAbs : MRA := fun xs h Q => match xs with
  | [.int i] => Q (.int (if i < 0 then -i else i)) h
  | _ => False
def rMax2 : MRA := fun xs h Q => match xs with
  | [.int i, .int j] => Q (.int (if j > i then j else i)) h
  | _ => False
def rMin2 : MRA := fun xs h Q => match xs with
  | [.int i, .int j] => Q (.int (if j < i then j else i)) h
  | _ => False
def rInt1 : MRA := fun xs h Q => match xs with
  | [.int i] => Q (.int i) h
  | [.bl k] => Q (.int (if k then 1 else 0)) h
  | _ => False
def rStrI : MRA := fun xs h Q => match xs with
  | [.int i] => i.natAbs.log2 < 1920 ∧ Q (.str (toString i)) h
  | _ => False
def rTuple : MRA := fun xs h Q => match xs with
  | [.tup ds] => Q (.tup ds) h
  | [.rl ds] => Q (.tup ds) h
  | [.ref a] => ∃ ds, h a = some (.lst ds) ∧ Q (.tup ds) h
  | _ => False
def rList : MRA := fun xs h Q => match xs with
  | [.tup ds] => ∀ p, h p = none → Q (.ref p) (up h p (.lst ds))
  | [.rl ds] => ∀ p, h p = none → Q (.ref p) (up h p (.lst ds))
  | [.ref a] => ∃ ds, h a = some (.lst ds) ∧ ∀ p, h p = none → Q (.ref p) (up h p (.lst ds))
  | _ => False
def rSum : MRA := fun xs h Q => match xs with
  | [.ref a] => ∃ ns : List Int, h a = some (.lst (ns.map .int)) ∧ Q (.int ns.sum) h
  | _ => False
def rAll : MRA := fun xs h Q => match xs with
  | [.ref a] => ∃ ns : List Bool, h a = some (.lst (ns.map .bl)) ∧ Q (.bl (ns.all id)) h
  | _ => False
def rAny : MRA := fun xs h Q => match xs with
  | [.ref a] => ∃ ns : List Bool, h a = some (.lst (ns.map .bl)) ∧ Q (.bl (ns.any id)) h
  | _ => False
section
variable {X : Cx}
theorem list1 {α : Type} {p : α → Prop} {xs : List α} (h : ∃ x, xs = [x]) : True := trivial
theorem RVs.one {K : PySem.W.Frag} {H : Hp} {d : D} {vs : List V} (h : RVs K H [d] vs) : ∃ v, vs = [v] ∧ RV K H d v := by
  obtain ⟨v, r, rfl, q, t⟩ := h.inv
  rw [t.inv0]
  exact ⟨v, rfl, q⟩
theorem RVs.two {K : PySem.W.Frag} {H : Hp} {d e : D} {vs : List V} (h : RVs K H [d, e] vs) : ∃ v w, vs = [v, w] ∧ RV K H d v ∧ RV K H e w := by
  obtain ⟨v, r, rfl, q, t⟩ := h.inv
  obtain ⟨w, rfl, q2⟩ := t.one
  exact ⟨v, w, rfl, q, q2⟩
theorem cm_len : CaM X (.builtin "len") rLen := by
  refine ⟨_, call_len_seq.or call_len_str, fun xs h Q0 vs H Q q rh rs f => ?_⟩
  unfold rLen at q
  split at q
  · obtain ⟨v, rfl, rx⟩ := rs.one
    obtain ⟨a, vs, rfl, ta, rs⟩ := rx.tup
    exact .inl ⟨a, vs, rfl, .inr ta, by rw [← rs.length]; exact fin_at f q rh rv_int⟩
  · obtain ⟨v, rfl, rx⟩ := rs.one
    obtain ⟨a, vs, rfl, ta, rs⟩ := rx.rl
    exact .inl ⟨a, vs, rfl, .inl ta.l, by rw [← rs.length]; exact fin_at f q rh rv_int⟩
  · obtain ⟨v, rfl, rx⟩ := rs.one
    rw [rx.str]
    exact .inr ⟨_, rfl, q.1, fin_at f q.2 rh rv_int⟩
  · obtain ⟨v, rfl, rx⟩ := rs.one
    rw [rx.ref]
    obtain ⟨ds, e, q⟩ := q
    obtain ⟨vs, E, rs⟩ := rh.lst e
    exact .inl ⟨_, vs, rfl, .inl (.of E), by rw [← rs.length]; exact fin_at f q rh rv_int⟩
  · exact q.elim
theorem cm_abs : CaM X (.builtin "abs") rAbs := by
  refine ⟨_, call_abs, fun xs h Q0 vs H Q q rh rs f => ?_⟩
  unfold rAbs at q
  split at q
  · obtain ⟨v, rfl, rx⟩ := rs.one
    rw [rx.int]
    exact ⟨_, rfl, fin_at f q rh rv_int⟩
  · exact q.elim
theorem cm_max2 (hc : X.calm = true) : CaM X (.builtin "max") rMax2 := by
  refine ⟨_, call_max2 hc, fun xs h Q0 vs H Q q rh rs f => ?_⟩
  unfold rMax2 at q
  split at q
  · obtain ⟨v, w, rfl, rx, ry⟩ := rs.two
    rw [rx.int, ry.int]
    exact ⟨_, _, rfl, fin_at f q rh rv_int⟩
  · exact q.elim
theorem cm_min2 (hc : X.calm = true) : CaM X (.builtin "min") rMin2 := by
  refine ⟨_, call_min2 hc, fun xs h Q0 vs H Q q rh rs f => ?_⟩
  unfold rMin2 at q
  split at q
  · obtain ⟨v, w, rfl, rx, ry⟩ := rs.two
    rw [rx.int, ry.int]
    exact ⟨_, _, rfl, fin_at f q rh rv_int⟩
  · exact q.elim
theorem cm_int : CaM X (.type "int") rInt1 := by
  refine ⟨_, call_int1, fun xs h Q0 vs H Q q rh rs f => ?_⟩
  unfold rInt1 at q
  split at q
  · obtain ⟨v, rfl, rx⟩ := rs.one
    rw [rx.int]
    exact .inl ⟨_, rfl, fin_at f q rh rv_int⟩
  · obtain ⟨v, rfl, rx⟩ := rs.one
    rw [rx.bl]
    exact .inr ⟨_, rfl, fin_at f q rh rv_int⟩
  · exact q.elim
theorem cm_strI : CaM X (.type "str") rStrI := by
  refine ⟨_, call_str_int, fun xs h Q0 vs H Q q rh rs f => ?_⟩
  unfold rStrI at q
  split at q
  · obtain ⟨v, rfl, rx⟩ := rs.one
    rw [rx.int]
    exact ⟨_, rfl, q.1, fin_at f q.2 rh rv_str⟩
  · exact q.elim
theorem cm_tuple : CaM X (.type "tuple") rTuple := by
  refine ⟨_, call_tupleN, fun xs h Q0 vs H Q q rh rs f => ?_⟩
  unfold rTuple at q
  split at q
  · obtain ⟨v, rfl, rx⟩ := rs.one
    obtain ⟨a, vs, rfl, ta, rs⟩ := rx.tupN
    exact ⟨a, vs, rfl, .inr ⟨ta.t, fin_at f q rh (rv_tup ta rs)⟩⟩
  · obtain ⟨v, rfl, rx⟩ := rs.one
    obtain ⟨a, vs, rfl, ta, rs⟩ := rx.rl
    exact ⟨a, vs, rfl, .inl ⟨ta.l, fun p od np nd => f _ h q _ _ (.new np) (rh.skip np) (rv_tup (.of upd_same nd) (rs.mono (.new np)))⟩⟩
  · obtain ⟨v, rfl, rx⟩ := rs.one
    rw [rx.ref]
    obtain ⟨ds, e, q⟩ := q
    obtain ⟨vs, E, rs⟩ := rh.lst e
    exact ⟨_, vs, rfl, .inl ⟨.of E, fun p od np nd => f _ h q _ _ (.new np) (rh.skip np) (rv_tup (.of upd_same nd) (rs.mono (.new np)))⟩⟩
  · exact q.elim
theorem cm_list : CaM X (.type "list") rList := by
  refine ⟨_, call_list_of, fun xs h Q0 vs H Q q rh rs f => ?_⟩
  unfold rList at q
  split at q
  · obtain ⟨v, rfl, rx⟩ := rs.one
    obtain ⟨a, vs, rfl, ta, rs⟩ := rx.tup
    exact ⟨a, vs, rfl, .inr ta, fun p np => f _ _ (q p (rh.free np)) _ _ (.new np) (rh.new np ⟨_, rfl, rs⟩) rv_ref⟩
  · obtain ⟨v, rfl, rx⟩ := rs.one
    obtain ⟨a, vs, rfl, ta, rs⟩ := rx.rl
    exact ⟨a, vs, rfl, .inl ta.l, fun p np => f _ _ (q p (rh.free np)) _ _ (.new np) (rh.new np ⟨_, rfl, rs⟩) rv_ref⟩
  · obtain ⟨v, rfl, rx⟩ := rs.one
    rw [rx.ref]
    obtain ⟨ds, e, q⟩ := q
    obtain ⟨vs, E, rs⟩ := rh.lst e
    exact ⟨_, vs, rfl, .inl (.of E), fun p np => f _ _ (q p (rh.free np)) _ _ (.new np) (rh.new np ⟨_, rfl, rs⟩) rv_ref⟩
  · exact q.elim
theorem cm_sum (hc : X.calm = true) : CaM X (.builtin "sum") rSum := by
  refine ⟨_, cr_sum hc, fun xs h Q0 vs H Q q rh rs f => ?_⟩
  unfold rSum at q
  split at q
  · obtain ⟨v, rfl, rx⟩ := rs.one
    rw [rx.ref]
    obtain ⟨ds, e, q⟩ := q
    obtain ⟨vs, E, rs⟩ := rh.lst e
    rw [rs.ints] at E
    exact ⟨_, _, rfl, .of E, fin_at f q rh rv_int⟩
  · exact q.elim
theorem cm_all (hc : X.calm = true) : CaM X (.builtin "all") rAll := by
  refine ⟨_, cr_all hc, fun xs h Q0 vs H Q q rh rs f => ?_⟩
  unfold rAll at q
  split at q
  · obtain ⟨v, rfl, rx⟩ := rs.one
    rw [rx.ref]
    obtain ⟨ds, e, q⟩ := q
    obtain ⟨vs, E, rs⟩ := rh.lst e
    rw [rs.bls] at E
    exact ⟨_, _, rfl, .of E, fin_at f q rh rv_bl⟩
  · exact q.elim
theorem cm_any (hc : X.calm = true) : CaM X (.builtin "any") rAny := by
  refine ⟨_, cr_any hc, fun xs h Q0 vs H Q q rh rs f => ?_⟩
  unfold rAny at q
  split at q
  · obtain ⟨v, rfl, rx⟩ := rs.one
    rw [rx.ref]
    obtain ⟨ds, e, q⟩ := q
    obtain ⟨vs, E, rs⟩ := rh.lst e
    rw [rs.bls] at E
    exact ⟨_, _, rfl, .of E, fin_at f q rh rv_bl⟩
  · exact q.elim
end
end M

namespace M
open PySem L2
/-! ### targets: names and tuples of names -/
inductive Tg where
  | nm (i : Nat) | tp (ts : List Tg)
mutual
def asg : Tg → D → ME → Option ME
  | .nm i, d, env => some (env.set i (some d))
  | .tp ts, .tup ds, env => asgs ts ds env
  | .tp ts, .tw ds, env => asgs ts ds env
  | .tp _, _, _ => none
def asgs : List Tg → List D → ME → Option ME
  | [], [], env => some env
  | t :: ts, d :: ds, env => match asg t d env with
    | some env' => asgs ts ds env'
    | none => none
  | _, _, _ => none
end
mutual
def gT (K : PySem.W.Frag) : Tg → TG
  | .nm i => gName i
  | .tp ts => gTup K ts.length (gTs K ts)
def gTs (K : PySem.W.Frag) : List Tg → TGs
  | [] => gNil
  | t :: ts => gCons (gT K t) (gTs K ts)
end
mutual
def Tg.in (vs : List Nat) : Tg → Prop
  | .nm i => i ∈ vs
  | .tp ts => Tg.ins vs ts
def Tg.ins (vs : List Nat) : List Tg → Prop
  | [] => True
  | t :: ts => t.in vs ∧ Tg.ins vs ts
end
theorem asgs_len : ∀ {ts : List Tg} {ds : List D} {env env' : ME}, asgs ts ds env = some env' → ts.length = ds.length
  | [], [], _, _, _ => rfl
  | [], _ :: _, _, _, e => by simp [asgs] at e
  | _ :: _, [], _, _, e => by simp [asgs] at e
  | t :: ts, d :: ds, env, env', e => by
    simp only [asgs] at e
    split at e
    · rename_i x y
      rw [List.length_cons, List.length_cons, asgs_len e]
    · cases e
theorem wipe_set {σ : L2.St} {i : Nat} {x : Option V} : ∀ {vs : List Nat}, i ∈ vs → wipe (σ.set i x) vs = wipe σ vs
  | [], h => by cases h
  | v :: vs, h => by
    unfold wipe
    by_cases c : i ∈ vs
    · rw [wipe_set c]
    · have e : i = v := by
        rcases List.mem_cons.mp h with z | z
        · exact z
        · exact absurd z c
      subst e
      have : ∀ (ws : List Nat) (τ : L2.St), i ∉ ws → wipe (τ.set i x) ws = (wipe τ ws).set i x := fun ws => by
        induction ws with
        | nil => intro τ _; rfl
        | cons w ws ih =>
          intro τ hn
          unfold wipe
          rw [ih τ (fun z => hn (List.mem_cons_of_mem _ z)), List.set_comm _ _ (fun z => hn (by rw [z]; exact List.mem_cons_self))]
      rw [this vs σ c, List.set_set]
section
variable {K : PySem.W.Frag} {Hb H : Hp}
mutual
theorem gT_ok : ∀ {t : Tg} {d : D} {env env' : ME} {v : V} {σ : L2.St}, asg t d env = some env' → RV K H d v → REnv K Hb H env σ →
    ∃ σ', (∀ Q : L2.St → Hp → Prop, Q σ' H → gT K t v σ H Q) ∧ REnv K Hb H env' σ' ∧ ∀ vs, t.in vs → wipe σ' vs = wipe σ vs
  | .nm i, d, env, env', v, σ, e, r, re => by
    simp only [asg] at e
    cases e
    exact ⟨_, fun Q q => q, re.set i r, fun vs h => wipe_set h⟩
  | .tp ts, .tup ds, env, env', v, σ, e, r, re => by
    simp only [asg] at e
    obtain ⟨a, vs, rfl, ta, rs⟩ := r.tup
    obtain ⟨σ', h1, h2, h3⟩ := gTs_ok e rs re
    exact ⟨σ', fun Q q => ⟨a, vs, rfl, ta, by rw [asgs_len e, rs.length], h1 Q q⟩, h2, fun ws hw => h3 ws hw⟩
  | .tp ts, .tw ds, env, env', v, σ, e, r, re => by
    simp only [asg] at e
    obtain ⟨a, vs, rfl, ta, rs⟩ := r.tw
    obtain ⟨σ', h1, h2, h3⟩ := gTs_ok e rs re
    exact ⟨σ', fun Q q => ⟨a, vs, rfl, ta, by rw [asgs_len e, rs.length], h1 Q q⟩, h2, fun ws hw => h3 ws hw⟩
  | .tp ts, .non, _, _, _, _, e, _, _ => by simp [asg] at e
  | .tp ts, .bl _, _, _, _, _, e, _, _ => by simp [asg] at e
  | .tp ts, .int _, _, _, _, _, e, _, _ => by simp [asg] at e
  | .tp ts, .str _, _, _, _, _, e, _, _ => by simp [asg] at e
  | .tp ts, .rl _, _, _, _, _, e, _, _ => by simp [asg] at e
  | .tp ts, .ref _, _, _, _, _, e, _, _ => by simp [asg] at e
theorem gTs_ok : ∀ {ts : List Tg} {ds : List D} {env env' : ME} {xs : List V} {σ : L2.St}, asgs ts ds env = some env' → RVs K H ds xs → REnv K Hb H env σ →
    ∃ σ', (∀ Q : L2.St → Hp → Prop, Q σ' H → gTs K ts xs σ H Q) ∧ REnv K Hb H env' σ' ∧ ∀ vs, Tg.ins vs ts → wipe σ' vs = wipe σ vs
  | [], [], env, env', xs, σ, e, r, re => by
    simp only [asgs] at e
    cases e
    exact ⟨σ, fun Q q => ⟨r.inv0, q⟩, re, fun _ _ => rfl⟩
  | [], _ :: _, _, _, _, _, e, _, _ => by simp [asgs] at e
  | _ :: _, [], _, _, _, _, e, _, _ => by simp [asgs] at e
  | t :: ts, d :: ds, env, env', xs, σ, e, r, re => by
    simp only [asgs] at e
    split at e
    · rename_i env1 e1
      obtain ⟨v, ws, rfl, q, rs⟩ := r.inv
      obtain ⟨σ1, h1, h2, h3⟩ := gT_ok e1 q re
      obtain ⟨σ2, k1, k2, k3⟩ := gTs_ok e rs h2
      exact ⟨σ2, fun Q q => ⟨v, ws, rfl, h1 _ (k1 Q q)⟩, k2, fun vs hv => (k3 vs hv.2).trans (h3 vs hv.1)⟩
    · cases e
end
end
def IG (X : Cx) (e : Expr) (t : Tg) : Prop := PG X e (gT X.K t)
def IGs (X : Cx) (e : List Expr) (t : List Tg) : Prop := PGs X e (gTs X.K t)
section
variable {X : Cx} {Hb : Hp} {a b c e o : Expr} {es : List Expr} {ma mb mc me mo : MTE} {pos : Pos} {mt mu : MTT} {ms : MTA} {r r' : MR2} {s : Stmt} {ss : List Stmt} {m1 m2 : MTS}
theorem ig_name (i : Nat) {x : Str} (hN : X.N.Nodup) (hi : X.N[i]? = some x := by rfl) (hx : Loc X.env.scope x := by first | exact Or.inl rfl | exact Or.inr rfl) (hf : X.fn x = true ∨ X.env.scope.names.lookup x = some .local := by first | exact .inl rfl | exact .inr rfl | assumption) : IG X (.Name x pos) (.nm i) := by
  have h := pg_name (pos := pos) hN hi hx hf
  unfold IG; unfold gT; exact h
theorem ig_nil : IGs X [] [] := by unfold IGs; unfold gTs; exact pgs_nil
theorem ig_cons {t : Tg} {ts : List Tg} (h : IG X e t) (hs : IGs X es ts) (h1 : (assignEach (e :: es) X.env).map (·.2) = assign e X.env :: (assignEach es X.env).map (·.2) := by rfl) : IGs X (e :: es) (t :: ts) := by
  unfold IGs; unfold gTs; exact pgs_cons h hs h1
theorem ig_tup {k : Nat} {ts : List Tg} (hc : X.calm = true) (h : IGs X es ts) (hn : (assignEach es X.env).length = ts.length := by rfl) (hst : (assignEach es X.env).findIdx? (·.1) = none := by rfl) : IG X (.Tuple es k pos) (.tp ts) := by
  unfold IG; unfold gT; exact pg_tup hc h hn hst
/-! ### statements -/
def mNext : MTS := fun D' env h => D'.nx env h
def mSeq (a b : MTS) : MTS := fun D' env h => a { D' with nx := b D' } env h
def mBrk : MTS := fun D' env h => D'.bk env h
def mCt : MTS := fun D' env h => D'.ct env h
def mDrop (a : MTE) : MTS := fun D' env h => a env h fun _ h1 => D'.nx env h1
def mRet (a : MTE) : MTS := fun D' env h => a env h D'.rt
def mRetN : MTS := fun D' env h => D'.rt .non h
def mIf (c : MTT) (a b : MTS) : MTS := fun D' env h => c env h fun k h1 => if k = true then a D' env h1 else b D' env h1
def mAsg (a : MTE) (t : Tg) : MTS := fun D' env h => a env h fun d h1 => ∃ env', asg t d env = some env' ∧ D'.nx env' h1
def mSet (i : Nat) (a : MTE) : MTS := fun D' env h => a env h fun d h1 => D'.nx (env.set i (some d)) h1
abbrev MRSet := D → D → D → MH → (MH → Prop) → Prop
def mPut (r : MRSet) (a o i : MTE) : MTS := fun D' env h => a env h fun d h1 => o env h1 fun x h2 => i env h2 fun y h3 => r x y d h3 fun h4 => D'.nx env h4
def mPar (i j : Nat) (a b : MTE) : MTS := fun D' env h => a env h fun x h1 => b env h1 fun y h2 => D'.nx ((env.set i (some x)).set j (some y)) h2
def mAug (i : Nat) (r : MR2) (a : MTE) : MTS := fun D' env h => ∃ x, env[i]? = some (some x) ∧ a env h fun y h1 => r x y h1 fun z h2 => D'.nx (env.set i (some z)) h2
/-- ends -/
structure FinS (K : PySem.W.Frag) (Hb H : Hp) (D0 : MEnds) (D' : Ends) : Prop where
  nx : ∀ env' h', D0.nx env' h' → ∀ σ' H', TL H H' → REnv K Hb H' env' σ' → HR K h' H' → D'.nx σ' H'
  rt : ∀ d h', D0.rt d h' → ∀ v H', TL H H' → RV K H' d v → HR K h' H' → D'.rt v H'
  bk : ∀ env' h', D0.bk env' h' → ∀ σ' H', TL H H' → REnv K Hb H' env' σ' → HR K h' H' → D'.bk σ' H'
  ct : ∀ env' h', D0.ct env' h' → ∀ σ' H', TL H H' → REnv K Hb H' env' σ' → HR K h' H' → D'.ct σ' H'
theorem FinS.mono {K : PySem.W.Frag} {Hb H H' : Hp} {D0 : MEnds} {D' : Ends} (t : TL H H') (f : FinS K Hb H D0 D') : FinS K Hb H' D0 D' :=
  ⟨fun env' h' q σ' H2 t2 => f.nx env' h' q σ' H2 (t.trans t2), fun d h' q v H2 t2 => f.rt d h' q v H2 (t.trans t2), fun env' h' q σ' H2 t2 => f.bk env' h' q σ' H2 (t.trans t2), fun env' h' q σ' H2 t2 => f.ct env' h' q σ' H2 (t.trans t2)⟩
theorem liftS_iff {K : PySem.W.Frag} {m : MTS} {D' : Ends} {σ : L2.St} {H : Hp} : liftS K Hb m D' σ H ↔ ∃ env h D0, REnv K Hb H env σ ∧ HR K h H ∧ m D0 env h ∧ FinS K Hb H D0 D' :=
  ⟨fun ⟨env, h, D0, re, rh, m, f1, f2, f3, f4⟩ => ⟨env, h, D0, re, rh, m, f1, f2, f3, f4⟩, fun ⟨env, h, D0, re, rh, m, f⟩ => ⟨env, h, D0, re, rh, m, f.nx, f.rt, f.bk, f.ct⟩⟩
theorem is_of {t : TS} {m : MTS} (h : PS X s t) (w : ∀ D' σ H env h D0, REnv X.K Hb H env σ → HR X.K h H → m D0 env h → FinS X.K Hb H D0 D' → t D' σ H) : IS X Hb s m :=
  ps_w h fun D' σ H q => let ⟨env, hh, D0, re, rh, m, f⟩ := liftS_iff.mp q; w D' σ H env hh D0 re rh m f
theorem iss_of {t : TS} {m : MTS} (h : PSs X ss t) (w : ∀ D' σ H env h D0, REnv X.K Hb H env σ → HR X.K h H → m D0 env h → FinS X.K Hb H D0 D' → t D' σ H) : ISs X Hb ss m :=
  pss_w h fun D' σ H q => let ⟨env, hh, D0, re, rh, m, f⟩ := liftS_iff.mp q; w D' σ H env hh D0 re rh m f
theorem iss_nil : ISs X Hb [] mNext := iss_of pss_nil fun D' σ H env h D0 re rh m f => f.nx env h m σ H (.refl H) re rh
theorem iss_cons (h1 : IS X Hb s m1) (h2 : ISs X Hb ss m2) : ISs X Hb (s :: ss) (mSeq m1 m2) := by
  refine iss_of (pss_cons h1 h2) fun D' σ H env h D0 re rh m f => ?_
  refine liftS_iff.mpr ⟨env, h, _, re, rh, m, ?_, f.rt, f.bk, f.ct⟩
  exact fun env' h' q σ' H' t re' rh' => liftS_iff.mpr ⟨env', h', D0, re', rh', q, f.mono t⟩
theorem iss_one (h : IS X Hb s m1) : ISs X Hb [s] m1 := pss_one h
theorem is_pass : IS X Hb (.Pass pos) mNext := is_of ps_pass fun D' σ H env h D0 re rh m f => f.nx env h m σ H (.refl H) re rh
theorem is_break : IS X Hb (.Break pos) mBrk := is_of ps_break fun D' σ H env h D0 re rh m f => f.bk env h m σ H (.refl H) re rh
theorem is_continue : IS X Hb (.Continue pos) mCt := is_of ps_continue fun D' σ H env h D0 re rh m f => f.ct env h m σ H (.refl H) re rh
theorem is_expr (he : IE X Hb e me) (hs : swapsWith e none pos.line X.env = pure false := by rfl) : IS X Hb (.Expr e pos) (mDrop me) := by
  refine is_of (ps_expr he hs) fun D' σ H env h D0 re rh m f => ?_
  exact ⟨env, h, _, re, rh, m, fun d h1 q v H1 t1 r1 rv => f.nx env h1 q σ H1 t1 (re.mono t1) r1⟩
theorem is_ret (he : IE X Hb e me) : IS X Hb (.Return (some e) pos) (mRet me) := by
  refine is_of (ps_ret he) fun D' σ H env h D0 re rh m f => ?_
  exact ⟨env, h, _, re, rh, m, fun d h1 q v H1 t1 r1 rv => f.rt d h1 q v H1 t1 rv r1⟩
theorem is_retN : IS X Hb (.Return none pos) mRetN := is_of ps_retN fun D' σ H env h D0 re rh m f => f.rt .non h m .non H (.refl H) rv_non rh
theorem is_if {ss tt : List Stmt} (hc : IT X Hb c mt) (ha : ISs X Hb ss m1) (hb : ISs X Hb tt m2) : IS X Hb (.If c ss tt pos) (mIf mt m1 m2) := by
  refine is_of (ps_if hc ha hb) fun D' σ H env h D0 re rh m f => ?_
  refine ⟨env, h, _, re, rh, m, fun k h1 q1 H1 t1 r1 => ?_⟩
  cases k with
  | true => exact liftS_iff.mpr ⟨env, h1, D0, re.mono t1, r1, q1, f.mono t1⟩
  | false => exact liftS_iff.mpr ⟨env, h1, D0, re.mono t1, r1, q1, f.mono t1⟩
theorem is_asg {tg : Expr} {t : Tg} (he : IE X Hb e me) (hg : IG X tg t) (hs : swapsWithSole [tg] e pos.line X.env = pure false := by rfl) (hw : swappedStores [tg] e X.env = pure none := by rfl)
    (h1 : (assignEach [tg] X.env).map (·.2) = [assign tg X.env] := by rfl) : IS X Hb (.Assign [tg] e pos) (mAsg me t) := by
  refine is_of (ps_asg he hg hs hw h1) fun D' σ H env h D0 re rh m f => ?_
  refine ⟨env, h, _, re, rh, m, ?_⟩
  rintro d h1 ⟨env', e1, q⟩ v H1 t1 r1 rv
  obtain ⟨σ', k1, k2, _⟩ := gT_ok e1 rv (re.mono t1)
  exact k1 _ (f.nx env' h1 q σ' H1 t1 k2 r1)
theorem is_set (i : Nat) {x : Str} {pos' : Pos} (hN : X.N.Nodup) (he : IE X Hb e me) (hi : X.N[i]? = some x := by rfl) (hx : Loc X.env.scope x := by first | exact Or.inl rfl | exact Or.inr rfl)
    (hs : swapsWith e (some (.Name x pos')) pos.line X.env = pure false := by rfl) (hf : X.fn x = true ∨ X.env.scope.names.lookup x = some .local := by first | exact .inl rfl | exact .inr rfl | assumption) : IS X Hb (.Assign [.Name x pos'] e pos) (mSet i me) := by
  refine is_of (ps_set hN hi hx he hs hf) fun D' σ H env h D0 re rh m f => ?_
  exact ⟨env, h, _, re, rh, m, fun d h1 q v H1 t1 r1 rv => f.nx _ h1 q _ H1 t1 ((re.mono t1).set i rv) r1⟩
/-- o[i] = e -/
def SeM (X : Cx) (r : MRSet) : Prop := ∃ R : TSet, PSet X R ∧ ∀ (o i v : D) (h : MH) (Q0 : MH → Prop) (vo vi vv : V) (H : Hp) (Q : Hp → Prop), r o i v h Q0 → HR X.K h H → RV X.K H o vo → RV X.K H i vi → RV X.K H v vv →
  (∀ h', Q0 h' → ∀ H', TL H H' → HR X.K h' H' → Q H') → R vo vi vv H Q
theorem is_put {i : Expr} {mi : MTE} {rs : MRSet} {pos' : Pos} (hs : SeM X rs) (he : IE X Hb e me) (ho : IE X Hb o mo) (hi : IE X Hb i mi)
    (ha : ∀ v, assign (.Subscript o i pos') X.env v = (do
      let ov ← holding [v] (eval o X.env)
      let iv ← holding [v, ov] (eval i X.env)
      standAt pos'
      holding [v, ov, iv] (setItem ov iv v)
      release [v, ov, iv] []) := by intro _; rfl)
    (h2 : swapsWithSole [.Subscript o i pos'] e pos.line X.env = pure false := by rfl) (hw : swappedStores [.Subscript o i pos'] e X.env = pure none := by rfl)
    (h1 : (assignEach [.Subscript o i pos'] X.env).map (·.2) = [assign (.Subscript o i pos') X.env] := by rfl) : IS X Hb (.Assign [.Subscript o i pos'] e pos) (mPut rs me mo mi) := by
  obtain ⟨R, hR, hi'⟩ := hs
  refine is_of (ps_asg he (pg_sub ho hi hR ha) h2 hw h1) fun D' σ H env h D0 re rh m f => ?_
  refine ⟨env, h, _, re, rh, m, fun d h1 q1 v H1 t1 r1 rv => ?_⟩
  refine ⟨env, h1, _, re.mono t1, r1, q1, fun x h2 q2 vx H2 t2 r2 rx => ?_⟩
  refine ⟨env, h2, _, (re.mono t1).mono t2, r2, q2, fun y h3 q3 vy H3 t3 r3 ry => ?_⟩
  refine hi' x y d h3 _ vx vy v H3 _ q3 r3 (rx.mono t3) ry (rv.mono (t2.trans t3)) fun h4 q4 H4 t4 r4 => ?_
  have tt := t1.trans (t2.trans (t3.trans t4))
  exact f.nx env h4 q4 σ H4 tt (re.mono tt) r4
theorem is_par (i j : Nat) {x y : Str} {px py pt : Pos} {kt k2 pt2} (hc : X.calm = true) (hN : X.N.Nodup) (ha : IE X Hb a ma) (hb : IE X Hb b mb)
    (hi : X.N[i]? = some x := by rfl) (hj : X.N[j]? = some y := by rfl) (hij : i ≠ j := by decide)
    (hx : X.env.scope.names.lookup x = some .local := by rfl) (hy : X.env.scope.names.lookup y = some .local := by rfl)
    (hw : swappedStores [.Tuple [.Name x px, .Name y py] kt pt] (.Tuple [a, b] k2 pt2) X.env = pure (some [x, y]) := by rfl)
    (hs : swapsWithSole [.Tuple [.Name x px, .Name y py] kt pt] (.Tuple [a, b] k2 pt2) pos.line X.env = pure false := by rfl)
    (hA : starEach [a, b] X.env = (false, eval a X.env) :: starEach [b] X.env := by rfl) (hB : starEach [b] X.env = (false, eval b X.env) :: starEach [] X.env := by rfl) :
    IS X Hb (.Assign [.Tuple [.Name x px, .Name y py] kt pt] (.Tuple [a, b] k2 pt2) pos) (mPar i j ma mb) := by
  refine is_of (ps_par hc hN hi hj hij hx hy (ia_cons ha (ia_cons hb ia_nil hB) hA) hw hs) fun D' σ H env h D0 re rh m f => ?_
  refine ⟨env, h, (fun ds h1 => ∃ u w, ds = [u, w] ∧ D0.nx ((env.set i (some u)).set j (some w)) h1), re, rh, ?_, ?_⟩
  · show ma env h fun u h1 => mb env h1 fun w h2 => ∃ u' w', [u, w] = [u', w'] ∧ _
    have m' : ma env h fun x h1 => mb env h1 fun y h2 => D0.nx ((env.set i (some x)).set j (some y)) h2 := m
    have e : (fun u h1 => mb env h1 fun w h2 => ∃ u' w', [u, w] = [u', w'] ∧ D0.nx ((env.set i (some u')).set j (some w')) h2) = (fun x h1 => mb env h1 fun y h2 => D0.nx ((env.set i (some x)).set j (some y)) h2) := by
      funext u h1
      refine congrArg _ ?_
      funext w h2
      refine propext ⟨?_, fun q => ⟨u, w, rfl, q⟩⟩
      rintro ⟨u', w', z, q⟩
      cases z
      exact q
    rw [e]
    exact m'
  · rintro ds h1 ⟨u, w, rfl, q⟩ vs H1 t1 r1 rs
    obtain ⟨v1, v2, rfl, rx, ry⟩ := rs.two
    exact ⟨v1, v2, rfl, f.nx _ h1 q _ H1 t1 (((re.mono t1).set i rx).set j ry) r1⟩
/-- in place, by values -/
def IpM (X : Cx) (op : Operator) (r : MR2) : Prop := ∃ R : TIp, PIp X op R ∧ ∀ (x y : D) (h : MH) (Q0 : MQ) (vx vy : V) (H : Hp) (Q : VK), r x y h Q0 → HR X.K h H → RV X.K H x vx → RV X.K H y vy → Fin X.K H Q0 Q → R vx vy H Q
def rIAdd : MR2 := fun x y h Q => match x, y with
  | .int i, .int j => Q (.int (i + j)) h
  | _, _ => False
theorem im_add : IpM X .Add rIAdd := by
  refine ⟨_, ip_add, fun x y h Q0 vx vy H Q q rh rx ry f => ?_⟩
  cases x <;> cases y <;> first | exact q.elim | skip
  rw [rx.int, ry.int]
  exact ⟨_, _, rfl, rfl, fin_at f q rh rv_int⟩
theorem im_sub : IpM X .Sub rSub := by
  refine ⟨_, ip_sub, fun x y h Q0 vx vy H Q q rh rx ry f => ?_⟩
  cases x <;> cases y <;> first | exact q.elim | skip
  rw [rx.int, ry.int]
  exact ⟨_, _, rfl, rfl, fin_at f q rh rv_int⟩
theorem is_aug (i : Nat) {x : Str} {op : Operator} {pos' : Pos} (hN : X.N.Nodup) (ho : IpM X op r) (he : IE X Hb e me) (hi : X.N[i]? = some x := by rfl) (hx : Loc X.env.scope x := by first | exact Or.inl rfl | exact Or.inr rfl)
    (hf : X.fn x = true ∨ X.env.scope.names.lookup x = some .local := by first | exact .inl rfl | exact .inr rfl | assumption) : IS X Hb (.AugAssign (.Name x pos') op e pos) (mAug i r me) := by
  obtain ⟨R, hR, hi'⟩ := ho
  refine is_of (ps_aug hN hi hx he hR hf) fun D' σ H env h D0 re rh m f => ?_
  obtain ⟨d, e1, m⟩ := m
  obtain ⟨v, e2, rv⟩ := re.2.2 i d e1
  refine ⟨v, e2, env, h, _, re, rh, m, fun y h1 q1 vy H1 t1 r1 ry => ?_⟩
  refine hi' d y h1 _ v vy H1 _ q1 r1 (rv.mono t1) ry fun z h2 q2 vz H2 t2 r2 rz => ?_
  exact f.nx _ h2 q2 _ H2 (t1.trans t2) ((re.mono (t1.trans t2)).set i rz) r2
/-- xs[i] = v -/
def rSetL : MRSet := fun o i v h Q => match o, i with
  | .ref a, .int k => ∃ ds, h a = some (.lst ds) ∧ ∃ j, ixN ds.length k = some j ∧ Q (up h a (.lst (ds.set j v)))
  | _, _ => False
theorem se_list : SeM X rSetL := by
  refine ⟨_, set_list, fun o i v h Q0 vo vi vv H Q q rh ro ri rv f => ?_⟩
  cases o <;> cases i <;> first | exact q.elim | skip
  obtain ⟨ds, e, j, z, q⟩ := q
  rw [ro.ref, ri.int]
  obtain ⟨vs, E, rs⟩ := rh.lst e
  have t : TL H (upd H _ (.lst (vs.set j vv))) := .put E (fun _ z => by cases z) (fun _ _ z => by cases z)
  refine ⟨_, vs, _, j, rfl, rfl, E, by rw [← rs.length]; exact z, ?_⟩
  exact f _ q _ t (rh.put t ⟨_, rfl, (rs.set j rv).mono t⟩)
/-! ### while -/
def mWhile (c : MTT) (b : MTS) : MTS := fun D' env h => ∃ W : Nat → ME → MH → Prop, (∃ m, W m env h) ∧ ∀ m env h, W m env h →
  c env h fun k h1 => if k = true then b { D' with nx := fun env' h' => ∃ m', m' < m ∧ W m' env' h', ct := fun env' h' => ∃ m', m' < m ∧ W m' env' h', bk := D'.nx } env h1 else D'.nx env h1
theorem is_while {body : List Stmt} (hp : PassesOwn (model X.prog X.w) X.A X.env X.xe) (hc : IT X Hb c mt) (hb : ISs X Hb body m1) : IS X Hb (.While c body [] pos) (mWhile mt m1) := by
  refine is_of (ps_while hp hc hb) fun D' σ H env h D0 re rh m f => ?_
  obtain ⟨W, ⟨m0, w0⟩, turn⟩ := m
  refine ⟨fun m σ' H' => ∃ env' h', TL H H' ∧ REnv X.K Hb H' env' σ' ∧ HR X.K h' H' ∧ W m env' h', ⟨m0, env, h, .refl H, re, rh, w0⟩, ?_⟩
  rintro m1 σ1 H1 ⟨env1, h1, t1, re1, rh1, w1⟩
  refine ⟨env1, h1, _, re1, rh1, turn m1 env1 h1 w1, fun k h2 q2 H2 t2 r2 => ?_⟩
  cases k with
  | true =>
    refine ⟨fun σ' H' => ∃ env' h', (∃ m', m' < m1 ∧ W m' env' h') ∧ TL H H' ∧ REnv X.K Hb H' env' σ' ∧ HR X.K h' H', ?_, liftS_iff.mpr ⟨env1, h2, _, re1.mono t2, r2, q2, ?_, ?_, ?_, ?_⟩⟩
    · rintro σ' H' ⟨env', h', ⟨m', l, w⟩, t, re', rh'⟩
      exact ⟨m', l, env', h', t, re', rh', w⟩
    · exact fun env' h' q σ' H' t re' rh' => ⟨env', h', q, (t1.trans t2).trans t, re', rh'⟩
    · exact fun d h' q v H' t => f.rt d h' q v H' ((t1.trans t2).trans t)
    · exact fun env' h' q σ' H' t => f.nx env' h' q σ' H' ((t1.trans t2).trans t)
    · exact fun env' h' q σ' H' t re' rh' => ⟨env', h', q, (t1.trans t2).trans t, re', rh'⟩
  | false => exact f.nx env1 h2 q2 σ1 H2 (t1.trans t2) (re1.mono t2) r2
/-! ### what is walked -/
structure MSrc where
  n : Nat
  item : Nat → D
  ok : MH → Prop
abbrev MTI := ME → MH → (MSrc → MH → Prop) → Prop
structure SrcOk (K : PySem.W.Frag) (H0 : Hp) (S : MSrc) (J : It) : Prop where
  go : ∀ i h H, TL H0 H → HR K h H → S.ok h → i < S.n → J.go i H
  yld : ∀ i h H, TL H0 H → HR K h H → S.ok h → i < S.n → ∀ x H', J.yld i H x H' → TL H H' ∧ HR K h H' ∧ RV K H' (S.item i) x
  stop : ∀ h H, TL H0 H → HR K h H → S.ok h → J.stop S.n H
def liftI (K : PySem.W.Frag) (Hb : Hp) (m : MTI) : TI := fun σ H R => ∃ env h, ∃ Q0 : MSrc → MH → Prop, REnv K Hb H env σ ∧ HR K h H ∧ m env h Q0 ∧ ∀ S h', Q0 S h' → ∀ J H', TL H H' → HR K h' H' → SrcOk K H' S J → R J H'
def II (X : Cx) (Hb : Hp) (tg e : Expr) (m : MTI) : Prop := PI X tg e (liftI X.K Hb m)
theorem pi_w {tg e : Expr} {t t' : TI} (h : PI X tg e t) (w : ∀ σ H R, t' σ H R → t σ H R) : PI X tg e t' := ⟨fun pins s σ H R I q => h.run pins s σ H R I (w σ H R q)⟩
def ForW (S : MSrc) (g : Tg) (b : MTS) (D' : MEnds) (env : ME) (h1 : MH) : Prop := ∃ W : Nat → ME → MH → Prop, W 0 env h1 ∧ ∀ k env' h', k ≤ S.n → W k env' h' → S.ok h' ∧
  (k < S.n → ∃ env2, asg g (S.item k) env' = some env2 ∧ b { D' with nx := W (k + 1), ct := W (k + 1), bk := D'.nx } env2 h') ∧ (k = S.n → D'.nx env' h')
def mFor (i : MTI) (g : Tg) (b : MTS) : MTS := fun D' env h => i env h fun S h1 => ForW S g b D' env h1
theorem is_for {iter tg : Expr} {body : List Stmt} {mi : MTI} {g : Tg} (hp : PassesOwn (model X.prog X.w) X.A X.env X.xe) (hc : X.calm = true) (hi : II X Hb tg iter mi) (hg : IG X tg g) (hb : ISs X Hb body m1)
    (hs : ∀ x, foldedSetIterable iter X.env x = pure x := by intro _; rfl) : IS X Hb (.For tg iter body [] pos) (mFor mi g m1) := by
  refine is_of (ps_for hp hc hi hg hb hs) fun D' σ H env h D0 re rh m f => ?_
  refine ⟨env, h, _, re, rh, m, ?_⟩
  rintro S h1 ⟨W, w0, turn⟩ J H1 t1 r1 so
  refine ⟨fun i m σ' H' => m = S.n - i ∧ i ≤ S.n ∧ ∃ env' h', TL H1 H' ∧ REnv X.K Hb H' env' σ' ∧ HR X.K h' H' ∧ W i env' h', ⟨S.n, rfl, Nat.zero_le _, env, h1, .refl H1, re.mono t1, r1, w0⟩, ?_⟩
  rintro i m σ2 H2 ⟨rfl, hi, env2, h2, t2, re2, r2, w2⟩
  obtain ⟨ok, q1, q2⟩ := turn i env2 h2 hi w2
  by_cases c : i < S.n
  · obtain ⟨env3, e3, q⟩ := q1 c
    refine .inr ⟨so.go i h2 H2 t2 r2 ok c, fun σ' H' => ∃ env' h', W (i + 1) env' h' ∧ TL H1 H' ∧ REnv X.K Hb H' env' σ' ∧ HR X.K h' H', ?_, fun x H3 hy => ?_⟩
    · rintro σ' H' ⟨env', h', w, t, re', rh'⟩
      exact ⟨_, by omega, rfl, c, env', h', t, re', rh', w⟩
    · obtain ⟨t3, r3, rx⟩ := so.yld i h2 H2 t2 r2 ok c x H3 hy
      obtain ⟨σ3, k1, k2, _⟩ := gT_ok e3 rx (re2.mono t3)
      have t13 := t1.trans (t2.trans t3)
      refine k1 _ (liftS_iff.mpr ⟨env3, h2, _, k2, r3, q, ?_, ?_, ?_, ?_⟩)
      · exact fun env' h' q σ' H' t re' rh' => ⟨env', h', q, (t2.trans t3).trans t, re', rh'⟩
      · exact fun d h' q v H' t => f.rt d h' q v H' (t13.trans t)
      · exact fun env' h' q σ' H' t => f.nx env' h' q σ' H' (t13.trans t)
      · exact fun env' h' q σ' H' t re' rh' => ⟨env', h', q, (t2.trans t3).trans t, re', rh'⟩
  · have e : i = S.n := by omega
    subst e
    exact .inl ⟨so.stop h2 H2 t2 r2 ok, f.nx env2 h2 (q2 rfl) σ2 H2 (t1.trans t2) re2 r2⟩
end
end M

/-! enumerate of a tuple -/
namespace PySem
open Sem (wp)
set_option maxHeartbeats 1000000 in
theorem meets_enumerate_newT {v : Value} {o : Obj} {H : Heap → Prop} (B : Begins v o H) :
    Meets (Builtin.«enumerate.__new__» ⟨[.type "enumerate", v], []⟩) (fun _ R s => H s.heap ∧
      R (.ok (.ret (.ref (s.heap.push o).objs.size))) { s with heap := (s.heap.push o).push { cls := .type "enumerate", data := .fields #[.none, .bool false, .ref s.heap.objs.size, rawInt 0, .none, .none] } }) :=
  .of_wp fun prog w A R s h => by
    obtain ⟨hp, g, d, tk, os⟩ := s; obtain ⟨h1, h⟩ := h
    have hsub := sub_enumerate
    have q1 : ∀ {A' : Around} {E : Value → Shared → Prop} {Q : Value → Shared → Prop}, Q (.ref hp.objs.size) ⟨hp.push o, g, d, tk, os⟩ → wpAny (model prog w) A' (pyIter v) Q E ⟨hp, g, d, tk, os⟩ :=
      fun q => B.iter prog w _ _ ⟨hp, g, d, tk, os⟩ _ h1 q
    wp_walk using q1
    refine wpAny_stack_any fun st => wpAny_pure ?_
    split
    · rename_i c _ _ _ _ _
      cases (c == Value.type "enumerate")
      · wp_walk using q1
        exact ⟨_, rfl, h⟩
      · wp_walk using q1
        exact ⟨_, rfl, h⟩
    · wp_walk using q1
      exact ⟨_, rfl, h⟩
theorem call_enumerate_tup {prog : Program} {w : World} {A : Around} {E : Value → Shared → Prop} {s : Shared} {l : Addr} {items : Array Value} {Q : Value → Shared → Prop} (hL : s.heap.IsTuple l items)
    (h : ∀ h', IsEnum h' (s.heap.objs.size + 1) s.heap.objs.size 0 .none → h'.IsTupleIter s.heap.objs.size l 0 → h'.objs.size = s.heap.objs.size + 2 →
      (∀ b o, s.heap.get? b = some o → h'.get? b = some o) → Q (.ref (s.heap.objs.size + 1)) { s with heap := h' }) :
    wpAny (model prog w) A (call (.type "enumerate") [.ref l]) Q E s := by
  have B := begins_tuple l items
  refine callType_new F.called_enumerate (by decide) (F.typeCall_enumerate_1 _) (F.newCall_enumerate_1 _) (fun obj => F.args_object_init_2 obj _) F.entry_enumerate_new
    (meets_enumerate_newT B) ⟨hL, ?_⟩
  have hz : (s.heap.push { cls := .type "tuple_iterator", data := .fields #[.ref l, .int 0 0] }).objs.size = s.heap.objs.size + 1 := Heap.size_push ..
  show _ ∧ _
  rw [hz]
  have he : IsEnum ((s.heap.push { cls := .type "tuple_iterator", data := .fields #[.ref l, .int 0 0] }).push
      { cls := .type "enumerate", data := .fields #[.none, .bool false, .ref s.heap.objs.size, rawInt 0, .none, .none] }) (s.heap.objs.size + 1) s.heap.objs.size 0 .none := by
    have := Heap.get?_push_size (s.heap.push { cls := .type "tuple_iterator", data := .fields #[.ref l, .int 0 0] })
      (o := { cls := .type "enumerate", data := .fields #[.none, .bool false, .ref s.heap.objs.size, rawInt 0, .none, .none] }) rfl
    rw [hz] at this; exact this
  refine ⟨⟨_, he, rfl⟩, h _ he ⟨_, Heap.get?_push_of_some _ (Heap.get?_push_size _ rfl), rfl, rfl⟩ (by rw [Heap.size_push, hz]) fun b o x => Heap.get?_push_of_some _ (Heap.get?_push_of_some _ x)⟩
end PySem
namespace M
open PySem L2
def IteT (K : PySem.W.Frag) (a : Addr) : It :=
  ⟨fun i H => ∃ (xs : List V) (x : V), SqT K H a xs ∧ xs[i]? = some x, fun i H v H' => ∃ T x, v = .ref T ∧ H T = none ∧ H' = upd H T (.tup [.int (i : Nat), x]) ∧ ∀ xs, SqT K H a xs → xs[i]? = some x, fun i H => ∃ xs : List V, SqT K H a xs ∧ xs.length = i⟩
theorem iter_ne {h : Heap} {a it : Addr} {i : Nat} {items : Array Value} (t : PyProof.Rows.IsTup h a items) (s : h.IsTupleIter it a i) : a ≠ it := by
  intro e
  subst e
  obtain ⟨o, e1, c1, _⟩ := t
  obtain ⟨o2, e2, c2, _⟩ := s
  rw [e1] at e2
  cases e2
  rw [c1] at c2
  exact absurd (Value.type.inj c2) (by decide)
theorem enum_ne {h : Heap} {a e it : Addr} {c : Int} {old : Value} {items : Array Value} (t : PyProof.Rows.IsTup h a items) (s : IsEnum h e it c old) : e ≠ a := by
  intro z
  subst z
  obtain ⟨o, e1, c1, _⟩ := t
  have s' := s
  unfold IsEnum at s'
  rw [e1] at s'
  have s2 := Option.some.inj s'
  rw [s2] at c1
  exact absurd (Value.type.inj c1) (by decide)
theorem turn_enumT {P : Program} {w : World} {K : PySem.W.Frag} {elts : List Expr} {kk : Nat} {tpos : Pos} (a e it : Addr) :
    Turn P w K (.Tuple elts kk tpos) (IteT K a) [e, it] e (fun i h => (∃ old, IsEnum h e it ((i : Nat) : Int) old) ∧ h.IsTupleIter it a i ∧ e ≠ it) where
  mem := by simp
  obj := fun i h st b hb => by
    obtain ⟨⟨old, he⟩, ⟨o, ho, hc, hd⟩, _⟩ := st
    have e' : b = e ∨ b = it := by simpa using hb
    rcases e' with z | z
    · rw [z]; exact ⟨_, he, fun v q => nomatch q⟩
    · rw [z]; exact ⟨o, ho, fun v q => by rw [hd] at q; cases q⟩
  keep := fun i h h' st k => let ⟨⟨old, he⟩, hi, hne⟩ := st; ⟨⟨old, k e (by simp) _ he⟩, hi.at fun o q => k it (by simp) o q, hne⟩
  item := by
    intro X hP hw hK hc i pins s σ H E I hf st hg
    subst hP hw hK
    obtain ⟨⟨old, he⟩, hit, hne⟩ := st
    obtain ⟨xs, x, hq, hx⟩ := hg
    obtain ⟨its, rv, p, hz⟩ := I.tuple hq
    obtain ⟨u, hu, ru⟩ := rv.get hx
    have hel : e < s.heap.objs.size := Heap.lt_size he
    have hil : it < s.heap.objs.size := by obtain ⟨_, q, _⟩ := hit; exact Heap.lt_size q
    have D := Draws.tuple (prog := X.prog) (w := X.w) (A := X.A.in1) (show X.A.in1.handled = none from I.ok.hd hc) it a (iter_ne p hit) its.toArray
    have hlt : i < its.toArray.size := by
      have q := (List.getElem?_eq_some_iff.mp hu).1
      simpa using q
    refine wpAny_pyNext_enum_itemD D he ⟨hit, show s.heap.IsTuple a its.toArray from p⟩ hlt hne (fun q => ?_) fun y h' tk hP ho st' hT hsz hk => ?_
    · have e' : e = it ∨ e = a := by simpa using q
      rcases e' with z | z
      · exact hne z
      · exact enum_ne p he z
    have hP' : its.toArray[i]? = some y := hP
    have ey : y = u := by
      have hu' : its.toArray[i]? = some u := by simpa using hu
      rw [hu'] at hP'
      exact (Option.some.inj hP').symm
    subst ey
    refine ⟨_, rfl, wpAny_letOwnedTupleGo_enum (s := { s with heap := h', toks := tk + 1 }) ho fun h'' he' sb => ?_⟩
    have hT2 : h''.get? s.heap.objs.size = some { cls := .type "tuple", data := .seq #[.int i tk, y] } := (sb.2 _ (Nat.ne_of_gt hel)).trans hT
    have new : ObjOk X.prog X.w (upd H s.heap.objs.size (.tup [.int (i : Nat), x])) h'' s.heap.objs.size (.tup [.int (i : Nat), x]) :=
      ⟨by show 2 ≤ sizeLine; decide, [.int i tk, y], .cons ⟨_, rfl⟩ (.cons ru .nil), ⟨_, hT2, rfl, _, rfl⟩⟩
    have I1 : Inv X pins σ (upd H s.heap.objs.size (.tup [.int (i : Nat), x])) { s with heap := h'', toks := tk + 1 } :=
      I.turnedNew (ch := [e, it]) (fun b ob hb q => (sb.2 b (fun z => hb (by simp [z]))).trans (hk b ob (fun z => hb (by simp [z])) (fun z => hb (by simp [z])) q)) hf (Nat.le_refl _) new
    refine ⟨.ref s.heap.objs.size, _, I1, rfl, ⟨_, x, rfl, I.hok.fresh (Nat.le_refl _), rfl, fun ys hy => by rw [I.tuple_inj hy hq]; exact hx⟩, ⟨⟨y, ?_⟩, st'.1.at fun o q => (sb.2 it (Ne.symm hne)).trans q, hne⟩, fun b hb => ?_⟩
    · have e1 : ((i + 1 : Nat) : Int) = (i : Int) + 1 := by omega
      rw [e1]; exact he'
    · have hb' : b < s.heap.objs.size := by
        have e' : b = e ∨ b = it := by simpa using hb
        rcases e' with z | z
        · rw [z]; exact hel
        · rw [z]; exact hil
      rw [upd_ne (Nat.ne_of_lt hb')]
      exact (hf b hb).1
  done := by
    intro X hP hw hK hc i pins s σ H E I hf st hg
    subst hP hw hK
    obtain ⟨⟨old, he⟩, hit, hne⟩ := st
    obtain ⟨xs, hq, hx⟩ := hg
    obtain ⟨its, rv, p, hz⟩ := I.tuple hq
    obtain ⟨f0, f1, f2, f3, f4, f5⟩ := hf it (by simp)
    have hl := rv.length
    have D := Draws.tuple (prog := X.prog) (w := X.w) (A := X.A.in1) (show X.A.in1.handled = none from I.ok.hd hc) it a (iter_ne p hit) its.toArray
    have ei : i = its.toArray.size := by simp; omega
    rw [ei] at hit
    exact wpAny_pyNext_enum_endD D he ⟨hit, show s.heap.IsTuple a its.toArray from p⟩ fun h' eb => ⟨rfl, I.turned (t' := s.toks) (fun b o hb q => eb b o hb q) f0 f1 f3 f4 f5⟩
  self := fun A i s Q E st h => let ⟨⟨_, he⟩, _⟩ := st; wpAny_pyIter_enum he h
def iEnumA (K : PySem.W.Frag) (ta : TA) : TI := fun σ H R => ta σ H fun vs H1 => ∃ a xs, vs = [.ref a] ∧ ((SqL K H1 a xs ∧ R (Ite K a) H1) ∨ (SqT K H1 a xs ∧ R (IteT K a) H1))
theorem pi_enumA {X : Cx} {e : Expr} {ta : TA} {p pos tpos : Pos} {elts : List Expr} {kk : Nat} (hg : Gl X "enumerate") (hm : X.mg "enumerate" = none) (ha : PA X [e] ta) (hs : starEach [e] X.env = [(false, eval e X.env)] := by rfl) :
    PI X (.Tuple elts kk tpos) (.Call (.Name "enumerate" p) [e] [] pos) (iEnumA X.K ta) := by
  refine ⟨fun pins s σ H R I h => ?_⟩
  refine PyProof.Rows.Call_ (ld_blt I hg hm PyProof.Rows.boot_enumerate (PyProof.Rows.callWith_type1 (thn (ha.run pos pins s σ H _ I h) fun us s1 ⟨vs, H1, I1, r1, q1⟩ => ?_) hs rfl))
  obtain ⟨a, xs, ex, q1⟩ := q1
  subst ex
  cases r1 with
  | cons r rr =>
    cases rr
    cases r
    have fr : ∀ b, b ∈ [s1.heap.objs.size + 1, s1.heap.objs.size] → FpOk X pins H1 b := fun b hb => by
      have e' : b = s1.heap.objs.size + 1 ∨ b = s1.heap.objs.size := by simpa using hb
      have hle : s1.heap.objs.size ≤ b := by
        rcases e' with z | z
        · rw [z]; exact Nat.le_add_right _ _
        · rw [z]; exact Nat.le_refl _
      exact I1.fpOk hle (I1.hok.fresh hle)
    rcases q1 with ⟨hq, q⟩ | ⟨hq, q⟩
    · obtain ⟨its, rv, p', hz⟩ := I1.list hq
      refine call_enumerate_list p'.isList fun h' he hit hsz hk => wpAny_pyIter_enum he ?_
      have I2 : Inv X pins σ H1 { s1 with heap := h' } := I1.kept (t' := s1.toks) hk
      exact ⟨s1.heap.objs.size + 1, [s1.heap.objs.size + 1, s1.heap.objs.size], _, _, H1, rfl, I2, turn_enum a (s1.heap.objs.size + 1) s1.heap.objs.size, ⟨⟨.none, he⟩, hit, Nat.succ_ne_self _⟩, fr, q⟩
    · obtain ⟨its, rv, p', hz⟩ := I1.tuple hq
      refine call_enumerate_tup (show s1.heap.IsTuple a its.toArray from p') fun h' he hit hsz hk => wpAny_pyIter_enum he ?_
      have I2 : Inv X pins σ H1 { s1 with heap := h' } := I1.kept (t' := s1.toks) hk
      exact ⟨s1.heap.objs.size + 1, [s1.heap.objs.size + 1, s1.heap.objs.size], _, _, H1, rfl, I2, turn_enumT a (s1.heap.objs.size + 1) s1.heap.objs.size, ⟨⟨.none, he⟩, hit, Nat.succ_ne_self _⟩, fr, q⟩
/-- a list, a tuple or a text, by its value -/
def iSeqA (K : PySem.W.Frag) (tl : TE) : TI := fun σ H R => tl σ H fun x H1 => (∃ a xs, x = .ref a ∧ SqL K H1 a xs ∧ R (Itl K a) H1) ∨ (∃ a xs, x = .ref a ∧ SqT K H1 a xs ∧ R (Itt K a) H1) ∨ ∃ z, x = .str z ∧ R (Its z) H1
theorem pi_seqA {X : Cx} {tg l : Expr} {tl : TE} (hl : PE X l tl) : PI X tg l (iSeqA X.K tl) := by
  refine ⟨fun pins s σ H R I h => ?_⟩
  refine thn (hl.run pins s σ H _ I h) fun v s1 ⟨x, H1, I1, r1, q1⟩ => ?_
  rcases q1 with ⟨a, xs, e, hq, q⟩ | ⟨a, xs, e, hq, q⟩ | ⟨z, e, q⟩
  · subst e
    cases r1
    obtain ⟨its, rv, p, hz⟩ := I1.list hq
    refine wpAny_pyIter_list p.isList ?_
    refine ⟨s1.heap.objs.size, [s1.heap.objs.size], _, _, H1, rfl, I1.kept (t' := s1.toks) fun b o e => Heap.get?_push_of_some _ e, turn_list a _, ⟨_, Heap.get?_push_size _ rfl, rfl, rfl⟩, fun b hb => ?_, q⟩
    have e : b = s1.heap.objs.size := by simpa using hb
    subst e
    exact I1.fpOk (Nat.le_refl _) (I1.hok.fresh (Nat.le_refl _))
  · subst e
    cases r1
    obtain ⟨its, rv, p, hz⟩ := I1.tuple hq
    refine wpAny_pyIter_tuple (show s1.heap.IsTuple a its.toArray from p) ?_
    refine ⟨s1.heap.objs.size, [s1.heap.objs.size], _, _, H1, rfl, I1.kept (t' := s1.toks) fun b o e => Heap.get?_push_of_some _ e, turn_tuple a _, ⟨_, Heap.get?_push_size _ rfl, rfl, rfl⟩, fun b hb => ?_, q⟩
    have e : b = s1.heap.objs.size := by simpa using hb
    subst e
    exact I1.fpOk (Nat.le_refl _) (I1.hok.fresh (Nat.le_refl _))
  · subst e
    obtain ⟨t, rfl⟩ := r1
    cases ha : z.cps.all (· < 128)
    · exact wpAny_pyIter_wide ha (pi_one (tk := s1.toks) I1 _ (turn_str _ z t "str_iterator" (.inr rfl)) ⟨_, Heap.get?_push_size _ rfl, rfl, rfl⟩ q)
    · exact wpAny_pyIter_ascii ha (pi_one (tk := s1.toks) I1 _ (turn_str _ z t "str_ascii_iterator" (.inl rfl)) ⟨_, Heap.get?_push_size _ rfl, rfl, rfl⟩ q)
/-! ### sources -/
def srcR (lo : Int) (n : Nat) (c : Int) : MSrc := ⟨n, fun i => .int (lo + (i : Nat) * c), fun _ => True⟩
def srcD (ds : List D) (ok : MH → Prop) : MSrc := ⟨ds.length, fun i => ds.getD i .non, ok⟩
def srcE (ds : List D) (ok : MH → Prop) : MSrc := ⟨ds.length, fun i => .tw [.int (i : Nat), ds.getD i .non], ok⟩
def srcZ (ds es : List D) (ok : MH → Prop) : MSrc := ⟨min ds.length es.length, fun i => .tw [ds.getD i .non, es.getD i .non], ok⟩
def mRange1 (a : MTE) : MTI := fun env h R => a env h fun x h1 => ∃ j, x = .int j ∧ -(2 ^ 62) ≤ j ∧ j < 2 ^ 62 ∧ R (srcR 0 j.toNat 1) h1
def mRange2 (a b : MTE) : MTI := fun env h R => a env h fun x h1 => b env h1 fun y h2 => ∃ i j, x = .int i ∧ y = .int j ∧ (-(2 ^ 62) ≤ i ∧ i < 2 ^ 62 ∧ -(2 ^ 62) ≤ j ∧ j < 2 ^ 62) ∧ R (srcR i (j - i).toNat 1) h2
def mRange3 (a b c : MTE) : MTI := fun env h R => a env h fun x h1 => b env h1 fun y h2 => c env h2 fun z h3 => ∃ i j k n, x = .int i ∧ y = .int j ∧ z = .int k ∧ RgC i j k n ∧ R (srcR i n k) h3
def mIter (a : MTE) : MTI := fun env h R => a env h fun x h1 => match x with
  | .tup ds => R (srcD ds fun _ => True) h1
  | .rl ds => R (srcD ds fun _ => True) h1
  | .str z => R (srcD (z.cps.toList.map fun c => .str ⟨#[c]⟩) fun _ => True) h1
  | .ref a => ∃ ds, h1 a = some (.lst ds) ∧ R (srcD ds fun h => h a = some (.lst ds)) h1
  | _ => False
def mEnum (a : MTE) : MTI := fun env h R => a env h fun x h1 => match x with
  | .tup ds => R (srcE ds fun _ => True) h1
  | .rl ds => R (srcE ds fun _ => True) h1
  | .ref a => ∃ ds, h1 a = some (.lst ds) ∧ R (srcE ds fun h => h a = some (.lst ds)) h1
  | _ => False
def mZip (a b : MTE) : MTI := fun env h R => a env h fun x h1 => b env h1 fun y h2 => match x, y with
  | .tup ds, .tup es => R (srcZ ds es fun _ => True) h2
  | .ref a, .ref b => ∃ ds es, h2 a = some (.lst ds) ∧ h2 b = some (.lst es) ∧ R (srcZ ds es fun h => h a = some (.lst ds) ∧ h b = some (.lst es)) h2
  | _, _ => False
theorem getD_some {ds : List D} {i : Nat} {d : D} (h : i < ds.length) : ds[i]? = some (ds.getD i d) := by
  rw [List.getD_eq_getElem?_getD, List.getElem?_eq_getElem h]; rfl
section
variable {X : Cx} {Hb : Hp} {tg a b c e : Expr} {ma mb mc : MTE} {p pos tpos : Pos} {elts : List Expr} {kk : Nat}
theorem so_itr {K : PySem.W.Frag} {H : Hp} {lo : Int} {n : Nat} : SrcOk K H (srcR lo n 1) (Itr lo n) where
  go := fun i h H _ _ _ hi => hi
  yld := fun i h H1 _ rh _ _ x H' y => by
    obtain ⟨e1, e2⟩ := y
    subst e1 e2
    refine ⟨.refl _, rh, ?_⟩
    show RV _ _ (.int (lo + (i : Nat) * 1)) _
    rw [Int.mul_one]; exact rv_int
  stop := fun h H _ _ _ => Nat.le_refl _
theorem so_itc {K : PySem.W.Frag} {H : Hp} {lo c : Int} {n : Nat} : SrcOk K H (srcR lo n c) (Itc lo c n) where
  go := fun i h H _ _ _ hi => hi
  yld := fun i h H1 _ rh _ _ x H' y => by
    obtain ⟨e1, e2⟩ := y
    subst e1 e2
    exact ⟨.refl _, rh, rv_int⟩
  stop := fun h H _ _ _ => Nat.le_refl _
theorem so_tup {K : PySem.W.Frag} {H : Hp} {a : Addr} {ds : List D} {vs : List V} (ta : SqT K H a vs) (rs : RVs K H ds vs) : SrcOk K H (srcD ds fun _ => True) (Itt K a) where
  go := fun i h H1 t _ _ hi => by
    obtain ⟨v, e, _⟩ := rs.get (List.getElem?_eq_getElem (show i < ds.length from hi))
    exact ⟨vs, v, sqT_mono t ta, e⟩
  yld := fun i h H1 t rh _ hi x H' y => by
    obtain ⟨e1, y⟩ := y
    subst e1
    obtain ⟨v, e, r⟩ := (rs.mono t).get (getD_some (d := .non) (show i < ds.length from hi))
    have e2 := y vs (sqT_mono t ta)
    rw [e] at e2
    cases e2
    exact ⟨.refl _, rh, r⟩
  stop := fun h H1 t _ _ => ⟨vs, sqT_mono t ta, by rw [← rs.length]; exact Nat.le_refl _⟩
theorem so_rl {K : PySem.W.Frag} {H : Hp} {a : Addr} {ds : List D} {vs : List V} (ta : SqI K H a vs) (rs : RVs K H ds vs) : SrcOk K H (srcD ds fun _ => True) (Itl K a) where
  go := fun i h H1 t _ _ hi => by
    obtain ⟨v, e, _⟩ := rs.get (List.getElem?_eq_getElem (show i < ds.length from hi))
    exact ⟨vs, v, (sqI_mono t ta).l, e⟩
  yld := fun i h H1 t rh _ hi x H' y => by
    obtain ⟨e1, y⟩ := y
    subst e1
    obtain ⟨v, e, r⟩ := (rs.mono t).get (getD_some (d := .non) (show i < ds.length from hi))
    have e2 := y vs (sqI_mono t ta).l
    rw [e] at e2
    cases e2
    exact ⟨.refl _, rh, r⟩
  stop := fun h H1 t _ _ => ⟨vs, (sqI_mono t ta).l, by rw [← rs.length]; exact Nat.le_refl _⟩
theorem so_lst {K : PySem.W.Frag} {H : Hp} {a : Addr} {ds : List D} : SrcOk K H (srcD ds fun h => h a = some (.lst ds)) (Itl K a) where
  go := fun i h H1 t rh ok hi => by
    obtain ⟨vs, E, rs⟩ := rh.lst ok
    obtain ⟨v, e, _⟩ := rs.get (List.getElem?_eq_getElem (show i < ds.length from hi))
    exact ⟨vs, v, .of E, e⟩
  yld := fun i h H1 t rh ok hi x H' y => by
    obtain ⟨e1, y⟩ := y
    subst e1
    obtain ⟨vs, E, rs⟩ := rh.lst ok
    obtain ⟨v, e, r⟩ := rs.get (getD_some (d := .non) (show i < ds.length from hi))
    have e2 := y vs (.of E)
    rw [e] at e2
    cases e2
    exact ⟨.refl _, rh, r⟩
  stop := fun h H1 t rh ok => by
    obtain ⟨vs, E, rs⟩ := rh.lst ok
    exact ⟨vs, .of E, by rw [← rs.length]; exact Nat.le_refl _⟩
theorem so_str {K : PySem.W.Frag} {H : Hp} {z : Str} : SrcOk K H (srcD (z.cps.toList.map fun c => .str ⟨#[c]⟩) fun _ => True) (Its z) where
  go := fun i h H1 t rh ok hi => by
    have hi' : i < (z.cps.toList.map fun c => D.str ⟨#[c]⟩).length := hi
    rw [List.length_map] at hi'
    show i < z.cps.size
    simpa using hi'
  yld := fun i h H1 t rh ok hi x H' y => by
    obtain ⟨e1, c, e2, e3⟩ := y
    subst e1 e3
    refine ⟨.refl _, rh, ?_⟩
    have e4 : (z.cps.toList.map fun c => D.str ⟨#[c]⟩)[i]? = some (.str ⟨#[c]⟩) := by
      rw [List.getElem?_map]
      have : z.cps.toList[i]? = some c := by simpa using e2
      rw [this]; rfl
    show RV _ _ ((z.cps.toList.map fun c => D.str ⟨#[c]⟩).getD i .non) _
    rw [List.getD_eq_getElem?_getD, e4]
    exact rv_str
  stop := fun h H1 t rh ok => by
    show z.cps.size ≤ (z.cps.toList.map fun c => D.str ⟨#[c]⟩).length
    rw [List.length_map]; simp
theorem so_enL {K : PySem.W.Frag} {H : Hp} {a : Addr} {ds : List D} : SrcOk K H (srcE ds fun h => h a = some (.lst ds)) (Ite K a) where
  go := fun i h H1 t rh ok hi => by
    obtain ⟨vs, E, rs⟩ := rh.lst ok
    obtain ⟨v, e, _⟩ := rs.get (List.getElem?_eq_getElem (show i < ds.length from hi))
    exact ⟨vs, v, .of E, e⟩
  yld := fun i h H1 t rh ok hi x H' y => by
    obtain ⟨T, z, e1, n, e2, y⟩ := y
    subst e1 e2
    obtain ⟨vs, E, rs⟩ := rh.lst ok
    obtain ⟨v, e, r⟩ := rs.get (getD_some (d := .non) (show i < ds.length from hi))
    have e2 := y vs (.of E)
    rw [e] at e2
    cases e2
    exact ⟨.new n, rh.skip n, rv_tw (.of upd_same) (.cons rv_int (.cons (r.mono (.new n)) .nil))⟩
  stop := fun h H1 t rh ok => by
    obtain ⟨vs, E, rs⟩ := rh.lst ok
    exact ⟨vs, .of E, by rw [← rs.length]; exact Nat.le_refl _⟩
theorem so_enI {K : PySem.W.Frag} {H : Hp} {a : Addr} {ds : List D} {vs : List V} (ta : SqI K H a vs) (rs : RVs K H ds vs) : SrcOk K H (srcE ds fun _ => True) (Ite K a) where
  go := fun i h H1 t rh ok hi => by
    obtain ⟨v, e, _⟩ := rs.get (List.getElem?_eq_getElem (show i < ds.length from hi))
    exact ⟨vs, v, (sqI_mono t ta).l, e⟩
  yld := fun i h H1 t rh ok hi x H' y => by
    obtain ⟨T, z, e1, n, e2, y⟩ := y
    subst e1 e2
    obtain ⟨v, e, r⟩ := (rs.mono t).get (getD_some (d := .non) (show i < ds.length from hi))
    have e2 := y vs (sqI_mono t ta).l
    rw [e] at e2
    cases e2
    exact ⟨.new n, rh.skip n, rv_tw (.of upd_same) (.cons rv_int (.cons (r.mono (.new n)) .nil))⟩
  stop := fun h H1 t rh ok => ⟨vs, (sqI_mono t ta).l, by rw [← rs.length]; exact Nat.le_refl _⟩
theorem so_enT {K : PySem.W.Frag} {H : Hp} {a : Addr} {ds : List D} {vs : List V} (ta : SqT K H a vs) (rs : RVs K H ds vs) : SrcOk K H (srcE ds fun _ => True) (IteT K a) where
  go := fun i h H1 t rh ok hi => by
    obtain ⟨v, e, _⟩ := rs.get (List.getElem?_eq_getElem (show i < ds.length from hi))
    exact ⟨vs, v, sqT_mono t ta, e⟩
  yld := fun i h H1 t rh ok hi x H' y => by
    obtain ⟨T, z, e1, n, e2, y⟩ := y
    subst e1 e2
    obtain ⟨v, e, r⟩ := (rs.mono t).get (getD_some (d := .non) (show i < ds.length from hi))
    have e2 := y vs (sqT_mono t ta)
    rw [e] at e2
    cases e2
    exact ⟨.new n, rh.skip n, rv_tw (.of upd_same) (.cons rv_int (.cons (r.mono (.new n)) .nil))⟩
  stop := fun h H1 t rh ok => ⟨vs, sqT_mono t ta, rs.length.symm⟩
theorem so_zL {K : PySem.W.Frag} {H : Hp} {a b : Addr} {ds es : List D} : SrcOk K H (srcZ ds es fun h => h a = some (.lst ds) ∧ h b = some (.lst es)) (Itz K a b) where
  go := fun i h H1 t rh ok hi => by
    obtain ⟨vs, E, rs⟩ := rh.lst ok.1
    obtain ⟨ws, E2, rt⟩ := rh.lst ok.2
    have hi' : i < min ds.length es.length := hi
    obtain ⟨v, e, _⟩ := rs.get (List.getElem?_eq_getElem (show i < ds.length by omega))
    obtain ⟨w, e2, _⟩ := rt.get (List.getElem?_eq_getElem (show i < es.length by omega))
    exact ⟨vs, ws, v, w, .of E, .of E2, e, e2⟩
  yld := fun i h H1 t rh ok hi x H' y => by
    obtain ⟨T, z, z2, e1, n, e2, y, y2⟩ := y
    subst e1 e2
    obtain ⟨vs, E, rs⟩ := rh.lst ok.1
    obtain ⟨ws, E2, rt⟩ := rh.lst ok.2
    have hi' : i < min ds.length es.length := hi
    obtain ⟨v, e, r⟩ := rs.get (getD_some (d := .non) (show i < ds.length by omega))
    obtain ⟨w, f, r2⟩ := rt.get (getD_some (d := .non) (show i < es.length by omega))
    have e2 := y vs (.of E)
    rw [e] at e2
    cases e2
    have f2 := y2 ws (.of E2)
    rw [f] at f2
    cases f2
    exact ⟨.new n, rh.skip n, rv_tw (.of upd_same) (.cons (r.mono (.new n)) (.cons (r2.mono (.new n)) .nil))⟩
  stop := fun h H1 t rh ok => by
    obtain ⟨vs, E, rs⟩ := rh.lst ok.1
    obtain ⟨ws, E2, rt⟩ := rh.lst ok.2
    refine ⟨vs, ws, .of E, .of E2, ?_⟩
    show vs.length ≤ min ds.length es.length ∨ ws.length ≤ min ds.length es.length
    rw [← rs.length, ← rt.length]
    omega
theorem so_zT {K : PySem.W.Frag} {H : Hp} {a b : Addr} {ds es : List D} {vs ws : List V} (ta : SqT K H a vs) (rs : RVs K H ds vs) (tb : SqT K H b ws) (rt : RVs K H es ws) : SrcOk K H (srcZ ds es fun _ => True) (RZ.ItzT K a b) where
  go := fun i h H1 t rh ok hi => by
    have hi' : i < min ds.length es.length := hi
    obtain ⟨v, e, _⟩ := rs.get (List.getElem?_eq_getElem (show i < ds.length by omega))
    obtain ⟨w, e2, _⟩ := rt.get (List.getElem?_eq_getElem (show i < es.length by omega))
    exact ⟨vs, ws, v, w, sqT_mono t ta, sqT_mono t tb, e, e2⟩
  yld := fun i h H1 t rh ok hi x H' y => by
    obtain ⟨T, z, z2, e1, n, e2, y, y2⟩ := y
    subst e1 e2
    have hi' : i < min ds.length es.length := hi
    obtain ⟨v, e, r⟩ := (rs.mono t).get (getD_some (d := .non) (show i < ds.length by omega))
    obtain ⟨w, f, r2⟩ := (rt.mono t).get (getD_some (d := .non) (show i < es.length by omega))
    have e2 := y vs (sqT_mono t ta)
    rw [e] at e2
    cases e2
    have f2 := y2 ws (sqT_mono t tb)
    rw [f] at f2
    cases f2
    exact ⟨.new n, rh.skip n, rv_tw (.of upd_same) (.cons (r.mono (.new n)) (.cons (r2.mono (.new n)) .nil))⟩
  stop := fun h H1 t rh ok => by
    refine ⟨vs, ws, sqT_mono t ta, sqT_mono t tb, ?_⟩
    show vs.length ≤ min ds.length es.length ∨ ws.length ≤ min ds.length es.length
    rw [← rs.length, ← rt.length]
    omega
theorem ii_range1 (hm : X.mg "range" = none) (ha : IE X Hb a ma) (hg : Gl X "range" := by rfl) (hs : starEach [a] X.env = [(false, eval a X.env)] := by rfl) : II X Hb tg (.Call (.Name "range" p) [a] [] pos) (mRange1 ma) := by
  refine pi_w (pi_range1 hg hm (ia_cons ha ia_nil hs) hs) fun σ H R ⟨env, h, Q0, re, rh, m, f⟩ => ?_
  refine ⟨env, h, (fun ds h1 => ∃ j, ds = [.int j] ∧ -(2 ^ 62) ≤ j ∧ j < 2 ^ 62 ∧ Q0 (srcR 0 j.toNat 1) h1), re, rh, ?_, ?_⟩
  · have e : (fun x h1 => ∃ j, [x] = [D.int j] ∧ -(2 ^ 62) ≤ j ∧ j < 2 ^ 62 ∧ Q0 (srcR 0 j.toNat 1) h1) = (fun x h1 => ∃ j, x = .int j ∧ -(2 ^ 62) ≤ j ∧ j < 2 ^ 62 ∧ Q0 (srcR 0 j.toNat 1) h1) := by
      funext x h1
      simp only [List.cons.injEq, and_true]
    show ma env h (fun x h1 => ∃ j, [x] = [D.int j] ∧ -(2 ^ 62) ≤ j ∧ j < 2 ^ 62 ∧ Q0 (srcR 0 j.toNat 1) h1)
    rw [e]
    exact m
  · rintro ds h1 ⟨j, rfl, l1, l2, q⟩ vs H1 t1 r1 rs
    obtain ⟨v, rfl, rx⟩ := rs.one
    rw [rx.int]
    exact ⟨j, rfl, l1, l2, f _ h1 q _ H1 t1 r1 so_itr⟩
theorem ii_range2 (hm : X.mg "range" = none) (ha : IE X Hb a ma) (hb : IE X Hb b mb) (hg : Gl X "range" := by rfl) (hs : starEach [a, b] X.env = [(false, eval a X.env), (false, eval b X.env)] := by rfl) (hs2 : starEach [b] X.env = [(false, eval b X.env)] := by rfl) :
    II X Hb tg (.Call (.Name "range" p) [a, b] [] pos) (mRange2 ma mb) := by
  refine pi_w (pi_range2 hg hm (ia_cons ha (ia_cons hb ia_nil hs2) (by rw [hs, hs2])) hs hs2) fun σ H R ⟨env, h, Q0, re, rh, m, f⟩ => ?_
  refine ⟨env, h, (fun ds h1 => ∃ i j, ds = [.int i, .int j] ∧ (-(2 ^ 62) ≤ i ∧ i < 2 ^ 62 ∧ -(2 ^ 62) ≤ j ∧ j < 2 ^ 62) ∧ Q0 (srcR i (j - i).toNat 1) h1), re, rh, ?_, ?_⟩
  · have e : (fun x h1 => mb env h1 fun y h2 => ∃ i j, [x, y] = [D.int i, D.int j] ∧ (-(2 ^ 62) ≤ i ∧ i < 2 ^ 62 ∧ -(2 ^ 62) ≤ j ∧ j < 2 ^ 62) ∧ Q0 (srcR i (j - i).toNat 1) h2) = (fun x h1 => mb env h1 fun y h2 => ∃ i j, x = .int i ∧ y = .int j ∧ (-(2 ^ 62) ≤ i ∧ i < 2 ^ 62 ∧ -(2 ^ 62) ≤ j ∧ j < 2 ^ 62) ∧ Q0 (srcR i (j - i).toNat 1) h2) := by
      funext x h1
      refine congrArg _ ?_
      funext y h2
      simp only [List.cons.injEq, and_true, and_assoc]
    show ma env h (fun x h1 => mb env h1 fun y h2 => ∃ i j, [x, y] = [D.int i, D.int j] ∧ (-(2 ^ 62) ≤ i ∧ i < 2 ^ 62 ∧ -(2 ^ 62) ≤ j ∧ j < 2 ^ 62) ∧ Q0 (srcR i (j - i).toNat 1) h2)
    rw [e]
    exact m
  · rintro ds h1 ⟨i, j, rfl, l, q⟩ vs H1 t1 r1 rs
    obtain ⟨v, w, rfl, rx, ry⟩ := rs.two
    rw [rx.int, ry.int]
    exact ⟨i, j, rfl, l, f _ h1 q _ H1 t1 r1 so_itr⟩
theorem ii_iter (ha : IE X Hb a ma) : II X Hb tg a (mIter ma) := by
  refine pi_w (pi_seqA ha) fun σ H R ⟨env, h, Q0, re, rh, m, f⟩ => ?_
  refine ⟨env, h, _, re, rh, m, fun x h1 q v H1 t1 r1 rx => ?_⟩
  cases x <;> first | exact q.elim | skip
  · rw [rx.str]
    exact .inr (.inr ⟨_, rfl, f _ h1 q _ H1 t1 r1 so_str⟩)
  · obtain ⟨a, vs, rfl, ta, rs⟩ := rx.tup
    exact .inr (.inl ⟨a, vs, rfl, ta, f _ h1 q _ H1 t1 r1 (so_tup ta rs)⟩)
  · obtain ⟨a, vs, rfl, ta, rs⟩ := rx.rl
    exact .inl ⟨a, vs, rfl, ta.l, f _ h1 q _ H1 t1 r1 (so_rl ta rs)⟩
  · obtain ⟨ds, e, q⟩ := q
    rw [rx.ref]
    obtain ⟨vs, E, rs⟩ := r1.lst e
    exact .inl ⟨_, vs, rfl, .of E, f _ h1 q _ H1 t1 r1 so_lst⟩
theorem ii_enum (hm : X.mg "enumerate" = none) (ha : IE X Hb a ma) (hg : Gl X "enumerate" := by rfl) (hs : starEach [a] X.env = [(false, eval a X.env)] := by rfl) : II X Hb (.Tuple elts kk tpos) (.Call (.Name "enumerate" p) [a] [] pos) (mEnum ma) := by
  refine pi_w (pi_enumA hg hm (pa_cons ha pa_nil hs) hs) fun σ H R ⟨env, h, Q0, re, rh, m, f⟩ => ?_
  refine ⟨env, h, _, re, rh, m, fun x h1 q v H1 t1 r1 rx => ?_⟩
  cases x <;> first | exact q.elim | skip
  · obtain ⟨a, vs, rfl, ta, rs⟩ := rx.tup
    exact ⟨a, vs, rfl, .inr ⟨ta, f _ h1 q _ H1 t1 r1 (so_enT ta rs)⟩⟩
  · obtain ⟨a, vs, rfl, ta, rs⟩ := rx.rl
    exact ⟨a, vs, rfl, .inl ⟨ta.l, f _ h1 q _ H1 t1 r1 (so_enI ta rs)⟩⟩
  · obtain ⟨ds, e, q⟩ := q
    rw [rx.ref]
    obtain ⟨vs, E, rs⟩ := r1.lst e
    exact ⟨_, vs, rfl, .inl ⟨.of E, f _ h1 q _ H1 t1 r1 so_enL⟩⟩
theorem ii_zip (hm : X.mg "zip" = none) (ha : IE X Hb a ma) (hb : IE X Hb b mb) (hg : Gl X "zip" := by rfl)
    (hs : starEach [a, b] X.env = (false, eval a X.env) :: starEach [b] X.env := by rfl) (hs2 : starEach [b] X.env = (false, eval b X.env) :: starEach [] X.env := by rfl) (hpl : (backTo pos (starEach [b] X.env)).any (·.1) = false := by rfl) :
    II X Hb (.Tuple elts kk tpos) (.Call (.Name "zip" p) [a, b] [] pos) (mZip ma mb) := by
  refine pi_w (RZ.pi_zipA hg hm (pa_cons ha (pa_cons hb pa_nil hs2) hs) hs hpl) fun σ H R ⟨env, h, Q0, re, rh, m, f⟩ => ?_
  refine ⟨env, h, _, re, rh, m, fun x h1 q1 v H1 t1 r1 rx => ?_⟩
  refine ⟨env, h1, _, re.mono t1, r1, q1, fun y h2 q w H2 t2 r2 ry => ?_⟩
  have t12 := t1.trans t2
  have rx2 := rx.mono t2
  cases x <;> cases y <;> first | exact q.elim | skip
  · obtain ⟨a, vs, rfl, ta, rs⟩ := rx2.tup
    obtain ⟨b, ws, rfl, tb, rt⟩ := ry.tup
    exact ⟨a, b, vs, ws, rfl, .inr ⟨ta, tb, f _ h2 q _ H2 t12 r2 (so_zT ta rs tb rt)⟩⟩
  · obtain ⟨ds, es, e, e2, q⟩ := q
    rw [rx2.ref, ry.ref]
    obtain ⟨vs, E, rs⟩ := r2.lst e
    obtain ⟨ws, E2, rt⟩ := r2.lst e2
    exact ⟨_, _, vs, ws, rfl, .inl ⟨.of E, .of E2, f _ h2 q _ H2 t12 r2 so_zL⟩⟩
theorem ii_range3 (hm : X.mg "range" = none) (ha : IE X Hb a ma) (hb : IE X Hb b mb) (hc : IE X Hb c mc) (hg : Gl X "range" := by rfl) (hs : starEach [a, b, c] X.env = (false, eval a X.env) :: starEach [b, c] X.env := by rfl)
    (hs2 : starEach [b, c] X.env = (false, eval b X.env) :: starEach [c] X.env := by rfl) (hs3 : starEach [c] X.env = (false, eval c X.env) :: starEach [] X.env := by rfl) (hpl : (backTo pos (starEach [b, c] X.env)).any (·.1) = false := by rfl) :
    II X Hb tg (.Call (.Name "range" p) [a, b, c] [] pos) (mRange3 ma mb mc) := by
  refine pi_w (pi_range3 hg hm (pa_cons ha (pa_cons hb (pa_cons hc pa_nil hs3) hs2) hs) hs hpl) fun σ H R ⟨env, h, Q0, re, rh, m, f⟩ => ?_
  refine ⟨env, h, _, re, rh, m, fun x h1 q1 v H1 t1 r1 rx => ?_⟩
  refine ⟨env, h1, _, re.mono t1, r1, q1, fun y h2 q2 w H2 t2 r2 ry => ?_⟩
  refine ⟨env, h2, _, re.mono (t1.trans t2), r2, q2, fun z h3 q w3 H3 t3 r3 rz => ?_⟩
  obtain ⟨i, j, k, n, rfl, rfl, rfl, rg, q⟩ := q
  rw [rx.int, ry.int, rz.int]
  exact ⟨i, j, k, n, rfl, rg, f _ h3 q _ H3 (t1.trans (t2.trans t3)) r3 so_itc⟩
end
end M

namespace M
open PySem L2
/-! ### comprehensions -/
def mwipe (env : ME) : List Nat → ME
  | [] => env
  | v :: vs => (mwipe env vs).set v none
theorem REnv.wipe {K : PySem.W.Frag} {Hb H : Hp} {env : ME} {σ : L2.St} (r : REnv K Hb H env σ) : ∀ vs : List Nat, REnv K Hb H (mwipe env vs) (L2.wipe σ vs)
  | [] => r
  | v :: vs => by
    have q := r.wipe vs
    unfold mwipe L2.wipe
    refine ⟨q.1, by rw [List.length_set, List.length_set]; exact q.2.1, fun j d' e => ?_⟩
    by_cases c : v = j
    · subst c
      by_cases hl : v < (mwipe env vs).length
      · rw [List.getElem?_set_self hl] at e
        cases e
      · rw [List.getElem?_eq_none (by rw [List.length_set]; omega)] at e
        cases e
    · rw [List.getElem?_set_ne c] at e ⊢
      exact q.2.2 j d' e
theorem wipe_comm {σ : L2.St} {v : Nat} : ∀ {vs : List Nat}, L2.wipe (σ.set v none) vs = (L2.wipe σ vs).set v none
  | [] => rfl
  | w :: vs => by
    unfold L2.wipe
    rw [wipe_comm]
    by_cases c : v = w
    · subst c; rfl
    · rw [List.set_comm _ _ c]
theorem wipe_wipe (σ : L2.St) : ∀ vs : List Nat, L2.wipe (L2.wipe σ vs) vs = L2.wipe σ vs
  | [] => rfl
  | v :: vs => by
    show (L2.wipe ((L2.wipe σ vs).set v none) vs).set v none = (L2.wipe σ vs).set v none
    rw [wipe_comm, wipe_wipe σ vs, List.set_set]
mutual
def Tg.inb (vs : List Nat) : Tg → Bool
  | .nm i => vs.contains i
  | .tp ts => Tg.insb vs ts
def Tg.insb (vs : List Nat) : List Tg → Bool
  | [] => true
  | t :: ts => t.inb vs && Tg.insb vs ts
end
mutual
theorem Tg.in_of {vs : List Nat} : ∀ {t : Tg}, t.inb vs = true → t.in vs
  | .nm i, h => by
    simp only [Tg.inb] at h
    simp only [Tg.in]
    simpa using h
  | .tp ts, h => by
    simp only [Tg.inb] at h
    simp only [Tg.in]
    exact Tg.ins_of h
theorem Tg.ins_of {vs : List Nat} : ∀ {ts : List Tg}, Tg.insb vs ts = true → Tg.ins vs ts
  | [], _ => by simp only [Tg.ins]
  | t :: ts, h => by
    simp only [Tg.insb, Bool.and_eq_true] at h
    simp only [Tg.ins]
    exact ⟨Tg.in_of h.1, Tg.ins_of h.2⟩
end
theorem ro_lst {K : PySem.W.Frag} {H : Hp} {a : Addr} {ds : List D} {vs : List V} (r : RVs K H ds vs) : RO K H a (.lst ds) (.lst vs) := ⟨vs, rfl, r⟩
def LcW (S : MSrc) (g : Tg) (t : MTT) (e : MTE) (vs : List Nat) (env : ME) (h1 : MH) (Q : MQ) : Prop := ∀ p, h1 p = none → ∃ W : Nat → MH → Prop, W 0 (up h1 p (.lst [])) ∧ ∀ k h', k ≤ S.n → W k h' → S.ok h' ∧
  (k < S.n → ∃ env2, asg g (S.item k) (mwipe env vs) = some env2 ∧ t env2 h' fun b h3 => if b = true then e env2 h3 fun y h4 => ∃ acc, h4 p = some (.lst acc) ∧ acc.length < sizeLine ∧ W (k + 1) (up h4 p (.lst (acc ++ [y]))) else W (k + 1) h3) ∧
  (k = S.n → Q (.ref p) h')
def mLc (i : MTI) (g : Tg) (t : MTT) (e : MTE) (vs : List Nat) : MTE := fun env h Q => i env h fun S h1 => LcW S g t e vs env h1 Q
def ITs (X : Cx) (Hb : Hp) (ifs : List Expr) (m : MTT) : Prop := PTs X ifs (liftT X.K Hb m)
def mYes : MTT := fun _ h Q => Q true h
section
variable {X : Cx} {Hb : Hp} {elt tg iter : Expr} {ifs : List Expr} {scope : Scope} {pos : Pos} {mi : MTI} {g : Tg} {mt : MTT} {me : MTE}
theorem its_nil : ITs X Hb [] mYes := ⟨fun pins s σ H Q I q => by
  obtain ⟨env, h, Q0, re, rh, m, f⟩ := q
  exact pts_nil.run pins s σ H Q I (f true h m H (.refl H) rh)⟩
theorem its_one {c : Expr} (h : IT X Hb c mt) : ITs X Hb [c] mt := pts_one h
theorem lc_lift {own : List (Str × Nat)} {K : PySem.W.Frag} {σ : L2.St} {H : Hp} {Q : VK} (hin : g.inb (own.map (·.2)) = true) (q : lift K Hb (mLc mi g mt me (own.map (·.2))) σ H Q) : tLc (liftI K Hb mi) (gT K g) (liftT K Hb mt) (lift K Hb me) (own.map (·.2)) σ H Q := by
  obtain ⟨env, h, Q0, re, rh, m, f⟩ := q
  refine ⟨env, h, _, re, rh, m, fun S h1 m1 J H1 t1 r1 so Dl hD => ?_⟩
  obtain ⟨W, w0, turn⟩ := m1 Dl (r1.free hD)
  have tD : TL H1 (upd H1 Dl (.lst [])) := .new hD
  refine ⟨fun i m H' => m = S.n - i ∧ i ≤ S.n ∧ TL H1 H' ∧ ∃ h', HR K h' H' ∧ W i h', ⟨S.n, rfl, Nat.zero_le _, tD, _, r1.new hD (ro_lst .nil), w0⟩, ?_⟩
  rintro i m H2 ⟨rfl, hi, t2, h2, r2, w2⟩
  obtain ⟨ok, q1, q2⟩ := turn i h2 hi w2
  by_cases c : i < S.n
  · obtain ⟨env2, e2, q⟩ := q1 c
    refine .inr ⟨so.go i h2 H2 t2 r2 ok c, fun H' => TL H1 H' ∧ ∃ h', HR K h' H' ∧ W (i + 1) h', ?_, fun x H3 hy => ?_⟩
    · rintro H' ⟨t, h', rh', w⟩
      exact ⟨_, by omega, rfl, c, t, h', rh', w⟩
    · obtain ⟨t3, r3, rx⟩ := so.yld i h2 H2 t2 r2 ok c x H3 hy
      have t13 := t1.trans (t2.trans t3)
      obtain ⟨σ3, k1, k2, k3⟩ := gT_ok e2 rx ((re.mono t13).wipe (own.map (·.2)))
      refine k1 _ ⟨(k3 _ (Tg.in_of hin)).trans (wipe_wipe _ _), env2, h2, _, k2, r3, q, fun b h4 q4 H4 t4 r4 => ?_⟩
      cases b with
      | true =>
        refine ⟨env2, h4, _, k2.mono t4, r4, q4, ?_⟩
        rintro y h5 ⟨acc, ea, z, w⟩ v H5 t5 r5 ry
        obtain ⟨vs, E, rs⟩ := r5.lst ea
        have tp : TL H5 (upd H5 Dl (.lst (vs ++ [v]))) := .put E (fun _ z => by cases z) (fun _ _ z => by cases z)
        refine ⟨vs, E, by rw [← rs.length]; exact z, t2.trans (t3.trans (t4.trans (t5.trans tp))), _, r5.put tp (ro_lst ((rs.append (.cons ry .nil)).mono tp)), w⟩
      | false => exact ⟨t2.trans (t3.trans t4), h4, r4, q4⟩
  · have e : i = S.n := by omega
    subst e
    exact .inl ⟨so.stop h2 H2 t2 r2 ok, f _ h2 (q2 rfl) _ H2 (t1.trans t2) r2 rv_ref⟩
theorem ie_lc {own : List (Str × Nat)} (hc : X.calm = true) (hN : X.N.Nodup) (hin : g.inb (own.map (·.2)) = true) (hi : II X Hb tg iter mi) (ok : BlkOk X.N X.env.scope scope own)
    (hg : ∀ (s : Shared) (H : Hp) (C : Addr) (cl : List (Str × Addr)) (fp : List Addr), IG (X.blk s H scope (compEnvC scope cl C X.env) fp) tg g) (ht : ∀ (s : Shared) (H : Hp) (C : Addr) (cl : List (Str × Addr)) (fp : List Addr), ITs (X.blk s H scope (compEnvC scope cl C X.env) fp) Hb ifs mt)
    (he : ∀ (s : Shared) (H : Hp) (C : Addr) (cl : List (Str × Addr)) (fp : List Addr), IE (X.blk s H scope (compEnvC scope cl C X.env) fp) Hb elt me) (hs : ∀ x, foldedSetIterable iter X.env x = pure x := by intro _; rfl) :
    IE X Hb (.ListComp elt [⟨tg, iter, ifs, 0⟩] scope pos) (mLc mi g mt me (own.map (·.2))) :=
  pe_w (pe_lc (g := gT X.K g) (tt := liftT X.K Hb mt) (te := lift X.K Hb me) hc hN hi ok hg ht he hs) fun σ H Q q => lc_lift hin q
theorem is_setLc (i : Nat) {y : Str} {py spos : Pos} {own : List (Str × Nat)} (hc : X.calm = true) (hN : X.N.Nodup) (hin : g.inb (own.map (·.2)) = true) (hy : X.N[i]? = some y) (hyl : X.env.scope.names.lookup y = some .local)
    (hsw : swapsWith (.ListComp elt [⟨tg, iter, ifs, 0⟩] scope pos) (some (.Name y py)) spos.line X.env = pure true) (hi : II X Hb tg iter mi) (ok : BlkOk X.N X.env.scope scope own)
    (hg : ∀ (s : Shared) (H : Hp) (C : Addr) (cl : List (Str × Addr)) (fp : List Addr), IG (X.blk s H scope (compEnvC scope cl C X.env) fp) tg g) (ht : ∀ (s : Shared) (H : Hp) (C : Addr) (cl : List (Str × Addr)) (fp : List Addr), ITs (X.blk s H scope (compEnvC scope cl C X.env) fp) Hb ifs mt)
    (he : ∀ (s : Shared) (H : Hp) (C : Addr) (cl : List (Str × Addr)) (fp : List Addr), IE (X.blk s H scope (compEnvC scope cl C X.env) fp) Hb elt me) (hs : ∀ x, foldedSetIterable iter X.env x = pure x := by intro _; rfl) :
    IS X Hb (.Assign [.Name y py] (.ListComp elt [⟨tg, iter, ifs, 0⟩] scope pos) spos) (mSet i (mLc mi g mt me (own.map (·.2)))) := by
  refine is_of (ps_setLc (g := gT X.K g) (tt := liftT X.K Hb mt) (te := lift X.K Hb me) hc hN hy hyl hsw hi ok hg ht he hs) fun D' σ H env h D0 re rh m f => ?_
  refine lc_lift (Hb := Hb) hin ⟨env, h, _, re, rh, m, fun d h1 q v H1 t1 r1 rv => ?_⟩
  exact f.nx _ h1 q _ H1 t1 ((re.mono t1).set i rv) r1
end
/-! ### built-in methods -/
def tyM (T : String) (x : D) (h : MH) : Prop := match x with
  | .ref a => T = "list" ∧ ∃ ds, h a = some (.lst ds)
  | .str _ => T = "str"
  | .rl _ => T = "list"
  | _ => False
abbrev MRM := D → List D → MH → MQ → Prop
def MtI (X : Cx) (id : String) (r : MRM) : Prop := ∃ R : V → List V → Hp → VK → Prop, MtR X id R ∧ ∀ (x : D) (xs : List D) (h : MH) (Q0 : MQ) (vx : V) (vs : List V) (H : Hp) (Q : VK), r x xs h Q0 → HR X.K h H → RV X.K H x vx → RVs X.K H xs vs → Fin X.K H Q0 Q → R vx vs H Q
def mBM (T : String) (r : MRM) (o : MTE) (t : MTA) : MTE := fun env h Q => o env h fun x h1 => tyM T x h1 ∧ t env h1 fun xs h2 => r x xs h2 Q
section
variable {X : Cx} {Hb : Hp} {o e : Expr} {es : List Expr} {mo : MTE} {ms : MTA} {name : Str} {apos cpos : Pos} {T id : String} {r : MRM}
theorem tyV_of {K : PySem.W.Frag} {x : D} {h : MH} {H : Hp} {v : V} (t : tyM T x h) (rh : HR K h H) (rx : RV K H x v) : tyV K T v H := by
  cases x <;> first | exact False.elim t | skip
  · obtain rfl : T = "str" := t
    rw [rx.str]; rfl
  · obtain rfl : T = "list" := t
    obtain ⟨a, vs, rfl, ta, _⟩ := rx.rl
    exact .inl ⟨rfl, vs, ta.l⟩
  · obtain ⟨rfl, ds, e⟩ := t
    rw [rx.ref]
    obtain ⟨vs, E, _⟩ := rh.lst e
    exact .inl ⟨rfl, vs, .of E⟩
theorem ie_bm (pa : PlainAttrs T) (slot : Slot T name id) (hty : typeOf (.builtin id) = pure (.type "method_descriptor")) (hm : MtI X id r) (ho : IE X Hb o mo) (ha : IA X Hb (e :: es) ms)
    (hbase : attributeBase o name X.env (eval o X.env) = eval o X.env := by rfl)
    (hfew : ((backTo cpos (starEach (e :: es) X.env)).all (fun x => !x.1) && (backToKw cpos (keywordEach [] X.env)).all (fun x => x.1.isSome)
      && decide ((e :: es).length + ([] : List Keyword).length + (if ([] : List Keyword).isEmpty then 0 else 1) < 30)) = true := by rfl)
    (hline : (apos.endLine == cpos.line) = true := by rfl) (hs : starEach (e :: es) X.env = (false, eval e X.env) :: starEach es X.env := by rfl) (hplain : (backTo cpos (starEach es X.env)).any (·.1) = false := by rfl) :
    IE X Hb (.Call (.Attribute o name apos) (e :: es) [] cpos) (mBM T r mo ms) := by
  obtain ⟨R, hR, hi⟩ := hm
  refine pe_w (pe_bm pa slot hty hR ho ha hbase hfew hline hs hplain) fun σ H Q ⟨env, h, Q0, re, rh, m, f⟩ => ?_
  refine ⟨env, h, _, re, rh, m, fun x h1 ⟨ty, q⟩ vx H1 t1 r1 rx => ⟨tyV_of ty r1 rx, ?_⟩⟩
  refine ⟨env, h1, _, re.mono t1, r1, q, fun ds h2 q2 vs H2 t2 r2 rs => ?_⟩
  exact hi x ds h2 Q0 vx vs H2 Q q2 r2 (rx.mono t2) rs (Fin.mono (t1.trans t2) f)
theorem ie_bm0 (pa : PlainAttrs T) (slot : Slot T name id) (hty : typeOf (.builtin id) = pure (.type "method_descriptor")) (hm : MtI X id r) (ho : IE X Hb o mo)
    (hbase : attributeBase o name X.env (eval o X.env) = eval o X.env := by rfl) (hline : (apos.endLine == cpos.line) = true := by rfl) : IE X Hb (.Call (.Attribute o name apos) [] [] cpos) (mBM T r mo mNil) := by
  obtain ⟨R, hR, hi⟩ := hm
  refine pe_w (pe_bm0 pa slot hty hR ho hbase hline) fun σ H Q ⟨env, h, Q0, re, rh, m, f⟩ => ?_
  refine ⟨env, h, _, re, rh, m, fun x h1 ⟨ty, q⟩ vx H1 t1 r1 rx => ⟨tyV_of ty r1 rx, ?_⟩⟩
  exact hi x [] h1 Q0 vx [] H1 Q q r1 rx .nil (Fin.mono t1 f)
def rAppend : MRM := fun x xs h Q => match x, xs with
  | .ref a, [y] => ∃ ds, h a = some (.lst ds) ∧ ds.length < sizeLine ∧ Q .non (up h a (.lst (ds ++ [y])))
  | _, _ => False
theorem mi_append : MtI X "list.append" rAppend := by
  refine ⟨_, mt_append, fun x xs h Q0 vx vs H Q q rh rx rs f => ?_⟩
  unfold rAppend at q
  split at q
  · obtain ⟨ds, e, z, q⟩ := q
    obtain ⟨v, rfl, ry⟩ := rs.one
    obtain ⟨ws, E, rt⟩ := rh.lst e
    rw [rx.ref]
    have t : TL H (upd H _ (.lst (ws ++ [v]))) := .put E (fun _ z => by cases z) (fun _ _ z => by cases z)
    exact ⟨_, ws, v, rfl, rfl, E, by rw [← rt.length]; exact z, f _ _ q _ _ t (rh.put t ⟨_, rfl, (rt.append (.cons ry .nil)).mono t⟩) rv_non⟩
  · exact q.elim
def rExtend : MRM := fun x xs h Q => match x, xs with
  | .ref a, [.ref b] => ∃ ds es, h a = some (.lst ds) ∧ h b = some (.lst es) ∧ ds.length + es.length ≤ sizeLine ∧ Q .non (up h a (.lst (ds ++ es)))
  | _, _ => False
theorem mi_extend : MtI X "list.extend" rExtend := by
  refine ⟨_, mt_extend, fun x xs h Q0 vx vs H Q q rh rx rs f => ?_⟩
  unfold rExtend at q
  split at q
  · obtain ⟨ds, es, e, e2, z, q⟩ := q
    obtain ⟨v, rfl, ry⟩ := rs.one
    obtain ⟨ws, E, rt⟩ := rh.lst e
    obtain ⟨us, E2, ru⟩ := rh.lst e2
    rw [rx.ref, ry.ref]
    have t : TL H (upd H _ (.lst (ws ++ us))) := .put E (fun _ z => by cases z) (fun _ _ z => by cases z)
    exact ⟨_, _, ws, us, rfl, rfl, E, E2, by rw [← rt.length, ← ru.length]; exact z, f _ _ q _ _ t (rh.put t ⟨_, rfl, (rt.append ru).mono t⟩) rv_non⟩
  · exact q.elim
end
/-! ### defs -/
abbrev MXE := Addr → MH → Prop
abbrev MSp := List D → MH → MQ → MXE → Prop
def FinE (K : PySem.W.Frag) (H : Hp) (E0 : MXE) (E : XK) : Prop := ∀ C h', E0 C h' → ∀ od H', TL H H' → HR K h' H' → E (.ref C) od H'
theorem FinE.mono {K : PySem.W.Frag} {H H' : Hp} {E0 : MXE} {E : XK} (t : TL H H') (f : FinE K H E0 E) : FinE K H' E0 E := fun C h' q od H2 t2 => f C h' q od H2 (t.trans t2)
def liftSp (K : PySem.W.Frag) (sp : MSp) : Sp := fun vs H Q E => ∃ ds h, ∃ Q0 : MQ, ∃ E0 : MXE, RVs K H ds vs ∧ HR K h H ∧ sp ds h Q0 E0 ∧ Fin K H Q0 Q ∧ FinE K H E0 E
abbrev noE : MXE := fun _ _ => False
def mCall (sp : MSp) (E : MXE) (t : MTA) : MTE := fun env h Q => t env h fun xs h1 => sp xs h1 Q E
def mstart (N : List Str) (ds : List D) : ME := ds.map some ++ List.replicate (N.length - ds.length) none
theorem renv_start {K : PySem.W.Frag} {H : Hp} {N : List Str} {ds : List D} {vs : List V} (r : RVs K H ds vs) : REnv K H H (mstart N ds) (L2.start N vs) := by
  refine ⟨.refl H, ?_, fun i d e => ?_⟩
  · unfold mstart L2.start
    simp [r.length]
  · unfold mstart at e
    unfold L2.start
    by_cases c : i < ds.length
    · rw [List.getElem?_append_left (by rw [List.length_map]; exact c), List.getElem?_map] at e
      cases q : ds[i]? with
      | none => rw [q] at e; cases e
      | some d' =>
        rw [q] at e
        cases e
        obtain ⟨v, e1, rv⟩ := r.get q
        refine ⟨v, ?_, rv⟩
        rw [List.getElem?_append_left (by rw [List.length_map, ← r.length]; exact c), List.getElem?_map, e1]
        rfl
    · rw [List.getElem?_append_right (by rw [List.length_map]; omega), List.getElem?_replicate] at e
      split at e <;> cases e
section
variable {X : Cx} {Hb : Hp} {CX : CXT} {k : Nat} {f C : Addr} {fd : FuncData} {ps : List Str} {sp : MSp} {x m : Str} {p pos apos : Pos} {e o : Expr} {es : List Expr} {mo : MTE} {ms : MTA}
theorem ie_callX {E : XK} {E0 : MXE} (F : FnOk X.prog X.w X.K X.mg X.base CX k f fd ps (liftSp X.K sp)) (hr : Room k X.A) (hm : X.mg x = some (.ref f)) (hk : PySem.W.keepIn X.K (.ref f) = true) (hb : Binds X.K fd ps []) (hx : Passes CX X E) (fe : FinE X.K Hb E0 E)
    (ha : IA X Hb (e :: es) ms) (hg : Gl X x := by rfl) (hdb : (x == ("__debug__" : Str)) = false := by decide) (he : starEach (e :: es) X.env = (false, eval e X.env) :: starEach es X.env := by rfl) (hpl : (backTo pos (starEach es X.env)).any (·.1) = false := by rfl) :
    IE X Hb (.Call (.Name x p) (e :: es) [] pos) (mCall sp E0 ms) := by
  refine pe_w (pe_call F hr hg hm hk hb .nil hx ha hdb he hpl) fun σ H Q ⟨env, h, Q0, re, rh, m, fq⟩ => ?_
  refine ⟨env, h, _, re, rh, m, fun ds h1 q vs H1 t1 r1 rs => ?_⟩
  show liftSp X.K sp (vs ++ []) H1 Q E
  rw [List.append_nil]
  exact ⟨ds, h1, Q0, E0, rs, r1, q, Fin.mono t1 fq, fe.mono (re.1.trans t1)⟩
theorem ie_call (F : FnOk X.prog X.w X.K X.mg X.base CX0 k f fd ps (liftSp X.K sp)) (hr : Room k X.A) (hm : X.mg x = some (.ref f)) (hk : PySem.W.keepIn X.K (.ref f) = true) (hb : Binds X.K fd ps [])
    (ha : IA X Hb (e :: es) ms) (hg : Gl X x := by rfl) (hdb : (x == ("__debug__" : Str)) = false := by decide) (he : starEach (e :: es) X.env = (false, eval e X.env) :: starEach es X.env := by rfl) (hpl : (backTo pos (starEach es X.env)).any (·.1) = false := by rfl) :
    IE X Hb (.Call (.Name x p) (e :: es) [] pos) (mCall sp noE ms) := ie_callX F hr hm hk hb pass0 (fun _ _ q => q.elim) ha hg hdb he hpl
theorem ie_call0 (F : FnOk X.prog X.w X.K X.mg X.base CX0 k f fd ps (liftSp X.K sp)) (hr : Room k X.A) (hm : X.mg x = some (.ref f)) (hk : PySem.W.keepIn X.K (.ref f) = true) (hb : Binds X.K fd ps [])
    (hg : Gl X x := by rfl) (hdb : (x == ("__debug__" : Str)) = false := by decide) : IE X Hb (.Call (.Name x p) [] [] pos) (mCall sp noE mNil) := by
  refine pe_w (pe_call0 F hr hg hm hk hb .nil pass0 hdb) fun σ H Q ⟨env, h, Q0, re, rh, m, fq⟩ => ?_
  exact ⟨[], h, Q0, noE, .nil, rh, m, fq, fun _ _ q => q.elim⟩
end
section
variable {P : Program} {w : World} {K : PySem.W.Frag} {mg : Str → Option Value} {base : Heap}
/-- a def that lets nothing out -/
theorem fnM {x qual : Str} {st : Stmt} {f : Addr} {fd : FuncData} {N ps : List Str} {k : Nat} {sp : MSp} {m : MTS} (F : Fun K x qual st f fd) (S : FnScope N ps (defScope st))
    (len : ∀ ds h Q E, sp ds h Q E → ds.length = ps.length)
    (d : ∀ (cdv : Value) (A : Around) (outer : List Env) (s : Shared) (H : Hp) (E : XK), Room k (A.deeper (PyProof.Rows.envOfC qual (defScope st) s.heap.objs.size f cdv)) → ISs (cxOf CX0 P w K mg base N qual (defScope st) f cdv A outer s H E).nox H (defBody st) m)
    (hm : ∀ ds h Q E, sp ds h Q E → m { nx := fun _ h' => Q .non h', rt := Q } (mstart N ds) h) : FnOk P w K mg base CX0 (k + 1) f fd ps (liftSp K sp) := by
  refine F.ok S (fun vs H Q E ⟨ds, h, Q0, E0, rs, rh, q, fq, fe⟩ => by rw [← rs.length]; exact len ds h Q0 E0 q) fun cdv A outer s H vs Q E hr ⟨ds, h, Q0, E0, rs, rh, q, fq, fe⟩ => ?_
  refine ⟨_, d cdv A outer s H E hr, ?_⟩
  refine liftS_iff.mpr ⟨mstart N ds, h, _, renv_start rs, rh, hm ds h Q0 E0 q, ?_, ?_, ?_, ?_⟩
  · exact fun env' h' q σ' H' t re' rh' => fq _ h' q _ H' t rh' rv_non
  · exact fun d h' q v H' t rv rh' => fq d h' q v H' t rh' rv
  · exact fun _ _ q => q.elim
  · exact fun _ _ q => q.elim
end
end M

namespace M
open PySem L2
/-! ### == -/
def isSc : D → D → Bool
  | .non, .non => true | .non, .int _ => true | .int _, .non => true | .non, .bl _ => true | .bl _, .non => true | .non, .str _ => true | .str _, .non => true
  | .int _, .int _ => true | .bl _, .bl _ => true | .str _, .str _ => true
  | .int _, .str _ => true | .str _, .int _ => true | .bl _, .str _ => true | .str _, .bl _ => true
  | _, _ => false
def eqS : D → D → Bool
  | .non, .non => true
  | .int i, .int j => decide (i = j)
  | .bl i, .bl j => decide (i = j)
  | .str i, .str j => decide (i = j)
  | _, _ => false
mutual
inductive DP (h : MH) : D → PyData → Prop
  | non : DP h .non .none
  | bl (b : Bool) : DP h (.bl b) (.bool b)
  | int (i : Int) : DP h (.int i) (.int i)
  | str (x : Str) : DP h (.str x) (.str x)
  | lst {a : Addr} {ds : List D} {ps : List PyData} : h a = some (.lst ds) → DPs h ds ps → DP h (.ref a) (.list ps)
  | rl {ds : List D} {ps : List PyData} : DPs h ds ps → DP h (.rl ds) (.list ps)
  | tup {ds : List D} {ps : List PyData} : DPs h ds ps → DP h (.tup ds) (.tuple ps)
inductive DPs (h : MH) : List D → List PyData → Prop
  | nil : DPs h [] []
  | cons {d : D} {ds : List D} {p : PyData} {ps : List PyData} : DP h d p → DPs h ds ps → DPs h (d :: ds) (p :: ps)
end
section
variable {K : PySem.W.Frag} {h : MH} {H : Hp}
mutual
theorem DP.dp (rh : HR K h H) : ∀ {d : D} {p : PyData} {v : V}, DP h d p → RV K H d v → Dp K H v p
  | _, _, _, .non, r => by rw [r.non]; exact .non
  | _, _, _, .bl b, r => by rw [r.bl]; exact .bl b
  | _, _, _, .int i, r => by rw [r.int]; exact .int i
  | _, _, _, .str x, r => by rw [r.str]; exact .str x
  | _, _, _, .lst e s, r => by
    rw [r.ref]
    obtain ⟨vs, E, rs⟩ := rh.lst e
    exact .lst (.of E) (DPs.dp rh s rs)
  | _, _, _, .rl s, r => by
    obtain ⟨a, vs, rfl, ta, rs⟩ := r.rl
    exact .lst ta.l (DPs.dp rh s rs)
  | _, _, _, .tup s, r => by
    obtain ⟨a, vs, rfl, ta, rs⟩ := r.tup
    exact .tup ta (DPs.dp rh s rs)
theorem DPs.dp (rh : HR K h H) : ∀ {ds : List D} {ps : List PyData} {vs : List V}, DPs h ds ps → RVs K H ds vs → DpAll K H vs ps
  | _, _, _, .nil, r => by rw [r.inv0]; exact .nil
  | _, _, _, .cons a b, r => by
    obtain ⟨v, ws, rfl, q, t⟩ := r.inv
    exact .cons (DP.dp rh a q) (DPs.dp rh b t)
end
end
def rEqD (x y : D) (h : MH) (Q : MQ) : Prop := ∃ p q, DP h x p ∧ DP h y q ∧ SeqAt.shaped p = true ∧ SeqAt.shaped q = true ∧ Q (.bl (PyData.eqv p q)) h
def rNeD (x y : D) (h : MH) (Q : MQ) : Prop := ∃ p q, DP h x p ∧ DP h y q ∧ SeqAt.shaped p = true ∧ SeqAt.shaped q = true ∧ Q (.bl (!PyData.eqv p q)) h
def rEq : MR2 := fun x y h Q => if isSc x y = true then Q (.bl (eqS x y)) h else rEqD x y h Q
def rNe : MR2 := fun x y h Q => if isSc x y = true then Q (.bl (!eqS x y)) h else rNeD x y h Q
section
variable {X : Cx}
theorem sc_of {K : PySem.W.Frag} {H : Hp} {x y : D} {vx vy : V} (c : isSc x y = true) (rx : RV K H x vx) (ry : RV K H y vy) : scal vx vy = true ∧ decide (vx = vy) = eqS x y := by
  cases x <;> cases y <;> first | (cases c; done) | skip
  all_goals simp only [RV] at rx ry
  all_goals subst rx ry
  all_goals refine ⟨rfl, ?_⟩
  all_goals (first | rfl | (simp only [eqS, decide_eq_decide, V.int.injEq, V.bl.injEq, V.str.injEq]) | (simp [eqS]))
theorem om_eq (hu : X.A.units + 64 < cLine) : OpM X (compareOp .Eq) rEq := by
  refine ⟨_, op_eq.or (op_eqD hu), fun x y h Q0 vx vy H Q q rh rx ry f => ?_⟩
  unfold rEq at q
  split at q
  · rename_i c
    obtain ⟨c1, c2⟩ := sc_of c rx ry
    exact .inl ⟨c1, by rw [c2]; exact fin_at f q rh rv_bl⟩
  · obtain ⟨p, p', d1, d2, s1, s2, q⟩ := q
    exact .inr ⟨p, p', d1.dp rh rx, d2.dp rh ry, s1, s2, fin_at f q rh rv_bl⟩
theorem om_ne (hu : X.A.units + 64 < cLine) : OpM X (compareOp .NotEq) rNe := by
  refine ⟨_, op_ne.or (op_neD hu), fun x y h Q0 vx vy H Q q rh rx ry f => ?_⟩
  unfold rNe at q
  split at q
  · rename_i c
    obtain ⟨c1, c2⟩ := sc_of c rx ry
    exact .inl ⟨c1, by rw [c2]; exact fin_at f q rh rv_bl⟩
  · obtain ⟨p, p', d1, d2, s1, s2, q⟩ := q
    exact .inr ⟨p, p', d1.dp rh rx, d2.dp rh ry, s1, s2, fin_at f q rh rv_bl⟩
/-! ### in: flat things -/
def flatD : D → Bool
  | .non => true
  | .bl _ => true
  | .int _ => true
  | .str _ => true
  | _ => false
def eqF : D → D → Bool
  | .non, .non => true
  | .bl a, .bl b => a == b
  | .bl a, .int b => (if a then 1 else 0) == b
  | .int a, .bl b => a == (if b then 1 else 0)
  | .int a, .int b => a == b
  | .str a, .str b => a == b
  | _, _ => false
def inF (x : D) (ds : List D) : Bool := ds.any fun y => eqF y x
def rIn (neg : Bool) : MR2 := fun x y h Q => match y with
  | .tup ds => flatD x = true ∧ ds.all flatD = true ∧ Q (.bl (if neg then !inF x ds else inF x ds)) h
  | .rl ds => flatD x = true ∧ ds.all flatD = true ∧ Q (.bl (if neg then !inF x ds else inF x ds)) h
  | .ref a => ∃ ds, h a = some (.lst ds) ∧ flatD x = true ∧ ds.all flatD = true ∧ Q (.bl (if neg then !inF x ds else inF x ds)) h
  | .str z => ∃ w, x = .str w ∧ Q (.bl (if neg then !(!(Builtin.Str.occurrences z w 0 z.length 1).isEmpty) else !(Builtin.Str.occurrences z w 0 z.length 1).isEmpty)) h
  | _ => False
theorem flat_of {K : PySem.W.Frag} {H : Hp} {x : D} {v : V} (c : flatD x = true) (r : RV K H x v) : flatV v = true := by
  cases x <;> first | (cases c; done) | skip
  all_goals simp only [RV] at r
  all_goals subst r
  all_goals rfl
theorem eqF_of {K : PySem.W.Frag} {H : Hp} {x y : D} {v w : V} (c : flatD x = true) (r : RV K H x v) (c2 : flatD y = true) (r2 : RV K H y w) : eqV v w = eqF x y := by
  cases x <;> first | (cases c; done) | skip
  all_goals (cases y <;> first | (cases c2; done) | skip)
  all_goals simp only [RV] at r r2
  all_goals subst r r2
  all_goals rfl
theorem flats_of {K : PySem.W.Frag} {H : Hp} : ∀ {ds : List D} {vs : List V}, ds.all flatD = true → RVs K H ds vs → vs.all flatV = true
  | [], _, _, r => by rw [r.inv0]; rfl
  | d :: ds, _, c, r => by
    obtain ⟨v, ws, rfl, q, t⟩ := r.inv
    rw [List.all_cons, Bool.and_eq_true] at c ⊢
    exact ⟨flat_of c.1 q, flats_of c.2 t⟩
theorem inF_of {K : PySem.W.Frag} {H : Hp} {x : D} {v : V} (c : flatD x = true) (r : RV K H x v) : ∀ {ds : List D} {vs : List V}, ds.all flatD = true → RVs K H ds vs → inV v vs = inF x ds
  | [], _, _, q => by rw [q.inv0]; rfl
  | d :: ds, _, c2, q => by
    obtain ⟨w, ws, rfl, q1, t⟩ := q.inv
    rw [List.all_cons, Bool.and_eq_true] at c2
    have ih := inF_of c r c2.2 t
    unfold inV inF at ih ⊢
    rw [List.any_cons, List.any_cons, ih, eqF_of c2.1 q1 c r]
theorem om_in : OpM X (compareOp .In) (rIn false) := by
  refine ⟨_, op_in_seq.or op_in_str, fun x y h Q0 vx vy H Q q rh rx ry f => ?_⟩
  cases y <;> first | exact q.elim | skip
  · obtain ⟨w, rfl, q⟩ := q
    rw [rx.str, ry.str]
    exact .inr ⟨_, _, rfl, rfl, fin_at f q rh rv_bl⟩
  · obtain ⟨c1, c2, q⟩ := q
    obtain ⟨a, vs, rfl, ta, rs⟩ := ry.tup
    exact .inl ⟨a, vs, rfl, .inr ta, flat_of c1 rx, flats_of c2 rs, by rw [inF_of c1 rx c2 rs]; exact fin_at f q rh rv_bl⟩
  · obtain ⟨c1, c2, q⟩ := q
    obtain ⟨a, vs, rfl, ta, rs⟩ := ry.rl
    exact .inl ⟨a, vs, rfl, .inl ta.l, flat_of c1 rx, flats_of c2 rs, by rw [inF_of c1 rx c2 rs]; exact fin_at f q rh rv_bl⟩
  · obtain ⟨ds, e, c1, c2, q⟩ := q
    rw [ry.ref]
    obtain ⟨vs, E, rs⟩ := rh.lst e
    exact .inl ⟨_, vs, rfl, .inl (.of E), flat_of c1 rx, flats_of c2 rs, by rw [inF_of c1 rx c2 rs]; exact fin_at f q rh rv_bl⟩
theorem om_notIn : OpM X (compareOp .NotIn) (rIn true) := by
  refine ⟨_, op_notIn_seq.or op_notin_str, fun x y h Q0 vx vy H Q q rh rx ry f => ?_⟩
  cases y <;> first | exact q.elim | skip
  · obtain ⟨w, rfl, q⟩ := q
    rw [rx.str, ry.str]
    exact .inr ⟨_, _, rfl, rfl, fin_at f q rh rv_bl⟩
  · obtain ⟨c1, c2, q⟩ := q
    obtain ⟨a, vs, rfl, ta, rs⟩ := ry.tup
    exact .inl ⟨a, vs, rfl, .inr ta, flat_of c1 rx, flats_of c2 rs, by rw [inF_of c1 rx c2 rs]; exact fin_at f q rh rv_bl⟩
  · obtain ⟨c1, c2, q⟩ := q
    obtain ⟨a, vs, rfl, ta, rs⟩ := ry.rl
    exact .inl ⟨a, vs, rfl, .inl ta.l, flat_of c1 rx, flats_of c2 rs, by rw [inF_of c1 rx c2 rs]; exact fin_at f q rh rv_bl⟩
  · obtain ⟨ds, e, c1, c2, q⟩ := q
    rw [ry.ref]
    obtain ⟨vs, E, rs⟩ := rh.lst e
    exact .inl ⟨_, vs, rfl, .inl (.of E), flat_of c1 rx, flats_of c2 rs, by rw [inF_of c1 rx c2 rs]; exact fin_at f q rh rv_bl⟩
/-! ### is -/
def isN : D → Bool | .non => true | _ => false
def rIs (neg : Bool) : MR2 := fun x y h Q => match y with
  | .non => Q (.bl (if neg then !isN x else isN x)) h
  | .bl b => ∃ a, x = .bl a ∧ Q (.bl (if neg then !decide (a = b) else decide (a = b))) h
  | _ => False
theorem isN_of {K : PySem.W.Frag} {H : Hp} {x : D} {v : V} (r : RV K H x v) : decide (v = .non) = isN x := by
  cases x <;> simp only [RV] at r <;> first | (subst r; rfl) | (obtain ⟨a, vs, e, _⟩ := r; subst e; rfl)
theorem om_is : OpM X (compareOp .Is) (rIs false) := by
  refine ⟨_, op_isN.or op_isBl, fun x y h Q0 vx vy H Q q rh rx ry f => ?_⟩
  cases y <;> first | exact q.elim | skip
  · exact .inl ⟨ry.non, by rw [isN_of rx]; exact fin_at f q rh rv_bl⟩
  · obtain ⟨a, rfl, q⟩ := q
    rw [rx.bl, ry.bl]
    exact .inr ⟨_, _, rfl, rfl, fin_at f q rh rv_bl⟩
theorem om_isnot : OpM X (compareOp .IsNot) (rIs true) := by
  refine ⟨_, op_notN.or op_notBl, fun x y h Q0 vx vy H Q q rh rx ry f => ?_⟩
  cases y <;> first | exact q.elim | skip
  · exact .inl ⟨ry.non, by rw [isN_of rx]; exact fin_at f q rh rv_bl⟩
  · obtain ⟨a, rfl, q⟩ := q
    rw [rx.bl, ry.bl]
    exact .inr ⟨_, _, rfl, rfl, fin_at f q rh rv_bl⟩
/-! ### max, min, sorted of ints in a list -/
def rMaxL : MRA := fun xs h Q => match xs with
  | [.ref a] => ∃ ns : List Int, h a = some (.lst (ns.map .int)) ∧ 0 < ns.length ∧ ∀ m, m ∈ ns → (∀ y, y ∈ ns → y ≤ m) → Q (.int m) h
  | _ => False
def rMinL : MRA := fun xs h Q => match xs with
  | [.ref a] => ∃ ns : List Int, h a = some (.lst (ns.map .int)) ∧ 0 < ns.length ∧ ∀ m, m ∈ ns → (∀ y, y ∈ ns → m ≤ y) → Q (.int m) h
  | _ => False
theorem cm_maxL (hc : X.calm = true) : CaM X (.builtin "max") rMaxL := by
  refine ⟨_, cr_max hc, fun xs h Q0 vs H Q q rh rs f => ?_⟩
  unfold rMaxL at q
  split at q
  · obtain ⟨v, rfl, rx⟩ := rs.one
    rw [rx.ref]
    obtain ⟨ns, e, l, q⟩ := q
    obtain ⟨vs, E, rs⟩ := rh.lst e
    rw [rs.ints] at E
    exact ⟨_, ns, rfl, .of E, l, fun m h1 h2 => fin_at f (q m h1 h2) rh rv_int⟩
  · exact q.elim
theorem cm_minL (hc : X.calm = true) : CaM X (.builtin "min") rMinL := by
  refine ⟨_, cr_min hc, fun xs h Q0 vs H Q q rh rs f => ?_⟩
  unfold rMinL at q
  split at q
  · obtain ⟨v, rfl, rx⟩ := rs.one
    rw [rx.ref]
    obtain ⟨ns, e, l, q⟩ := q
    obtain ⟨vs, E, rs⟩ := rh.lst e
    rw [rs.ints] at E
    exact ⟨_, ns, rfl, .of E, l, fun m h1 h2 => fin_at f (q m h1 h2) rh rv_int⟩
  · exact q.elim
end
end M

namespace M
open PySem L2
/-! ### isinstance -/
def tyD (h : MH) : D → String
  | .non => "NoneType"
  | .bl _ => "bool"
  | .int _ => "int"
  | .str _ => "str"
  | .tup _ => "tuple"
  | .tw _ => "tuple"
  | .rl _ => "list"
  | .ref a => match h a with
    | some (.lst _) => "list"
    | some (.dK _) => "dict"
    | some (.dT _) => "dict"
    | _ => "?"
def isTy (t c : String) : Bool := t == c || (t == "bool" && c == "int")
structure Kt (c : String) : Prop where
  yes : ∀ (K : PySem.W.Frag) (t : String), t = "NoneType" ∨ t = "bool" ∨ t = "int" ∨ t = "str" ∨ t = "tuple" ∨ t = "list" ∨ t = "dict" → PySem.W.kitOne K (.type t) (.type c) = some (isTy t c)
theorem kt_int : Kt "int" := ⟨fun K t h => by rcases h with e | e | e | e | e | e | e <;> subst e <;> exact kit_ty (by decide +kernel)⟩
theorem kt_bool : Kt "bool" := ⟨fun K t h => by rcases h with e | e | e | e | e | e | e <;> subst e <;> exact kit_ty (by decide +kernel)⟩
theorem kt_str : Kt "str" := ⟨fun K t h => by rcases h with e | e | e | e | e | e | e <;> subst e <;> exact kit_ty (by decide +kernel)⟩
theorem kt_tuple : Kt "tuple" := ⟨fun K t h => by rcases h with e | e | e | e | e | e | e <;> subst e <;> exact kit_ty (by decide +kernel)⟩
theorem kt_list : Kt "list" := ⟨fun K t h => by rcases h with e | e | e | e | e | e | e <;> subst e <;> exact kit_ty (by decide +kernel)⟩
theorem kt_dict : Kt "dict" := ⟨fun K t h => by rcases h with e | e | e | e | e | e | e <;> subst e <;> exact kit_ty (by decide +kernel)⟩
theorem bt_int : bootBuiltins "int" = some (.type "int") := PyProof.Rows.boot_int
theorem bt_bool : bootBuiltins "bool" = some (.type "bool") := PyProof.Rows.boot_bool
theorem bt_str : bootBuiltins "str" = some (.type "str") := PyProof.Rows.boot_str
theorem bt_tuple : bootBuiltins "tuple" = some (.type "tuple") := PyProof.Rows.boot_tuple
theorem bt_list : bootBuiltins "list" = some (.type "list") := PyProof.Rows.boot_list
theorem bt_dict : bootBuiltins "dict" = some (.type "dict") := PyProof.Rows.boot_dict
def mIsi (c : String) (a : MTE) : MTE := fun env h Q => a env h fun x h1 => tyD h1 x ≠ "?" ∧ Q (.bl (isTy (tyD h1 x) c)) h1
theorem tyX_of {K : PySem.W.Frag} {h : MH} {H : Hp} {x : D} {v : V} (n : tyD h x ≠ "?") (rh : HR K h H) (r : RV K H x v) :
    TyX K H v (.type (tyD h x)) ∧ (tyD h x = "NoneType" ∨ tyD h x = "bool" ∨ tyD h x = "int" ∨ tyD h x = "str" ∨ tyD h x = "tuple" ∨ tyD h x = "list" ∨ tyD h x = "dict") := by
  cases x with
  | non => rw [r.non]; exact ⟨.base .non, .inl rfl⟩
  | bl b => rw [r.bl]; exact ⟨.base (.bl b), .inr (.inl rfl)⟩
  | int b => rw [r.int]; exact ⟨.base (.int b), .inr (.inr (.inl rfl))⟩
  | str b => rw [r.str]; exact ⟨.base (.str b), .inr (.inr (.inr (.inl rfl)))⟩
  | tup ds =>
    obtain ⟨a, vs, rfl, ta, _⟩ := r.tup
    refine ⟨?_, .inr (.inr (.inr (.inr (.inl rfl))))⟩
    rcases ta with (e | ⟨o, e⟩) | ⟨o, its, n, e, c, _⟩
    · exact .base (.tup e)
    · exact .fTuple e
    · exact .kTuple e c
  | tw ds =>
    obtain ⟨a, vs, rfl, ta, _⟩ := r.tw
    refine ⟨?_, .inr (.inr (.inr (.inr (.inl rfl))))⟩
    rcases ta with (e | ⟨o, e⟩) | ⟨o, its, n, e, c, _⟩
    · exact .base (.tup e)
    · exact .fTuple e
    · exact .kTuple e c
  | rl ds =>
    obtain ⟨a, vs, rfl, ta, _⟩ := r.rl
    refine ⟨?_, .inr (.inr (.inr (.inr (.inr (.inl rfl)))))⟩
    rcases ta with ⟨o, e⟩ | ⟨o, its, n, e, c, _⟩
    · exact .base (.frz e)
    · exact .kList e c
  | ref a =>
    rw [r.ref]
    cases e : h a with
    | none => exact absurd (by show (match h a with | some (.lst _) => "list" | some (.dK _) => "dict" | some (.dT _) => "dict" | _ => "?") = "?"; rw [e]) n
    | some o =>
      cases o with
      | lst ds =>
        have e1 : tyD h (.ref a) = "list" := by show (match h a with | some (.lst _) => "list" | some (.dK _) => "dict" | some (.dT _) => "dict" | _ => "?") = "list"; rw [e]
        obtain ⟨vs, E, _⟩ := rh.lst e
        rw [e1]
        exact ⟨.base (.lst E), .inr (.inr (.inr (.inr (.inr (.inl rfl)))))⟩
      | dK ds =>
        have e1 : tyD h (.ref a) = "dict" := by show (match h a with | some (.lst _) => "list" | some (.dK _) => "dict" | some (.dT _) => "dict" | _ => "?") = "dict"; rw [e]
        obtain ⟨vs, E, _⟩ := rh.dK e
        rw [e1]
        exact ⟨.base (.dK E), .inr (.inr (.inr (.inr (.inr (.inr rfl)))))⟩
      | dT ds =>
        have e1 : tyD h (.ref a) = "dict" := by show (match h a with | some (.lst _) => "list" | some (.dK _) => "dict" | some (.dT _) => "dict" | _ => "?") = "dict"; rw [e]
        obtain ⟨vs, E, _⟩ := rh.dT e
        rw [e1]
        exact ⟨.base (.dT E), .inr (.inr (.inr (.inr (.inr (.inr rfl)))))⟩
      | fT fs ws od => exact absurd (by show (match h a with | some (.lst _) => "list" | some (.dK _) => "dict" | some (.dT _) => "dict" | _ => "?") = "?"; rw [e]) n
      | fK fs ws od => exact absurd (by show (match h a with | some (.lst _) => "list" | some (.dK _) => "dict" | some (.dT _) => "dict" | _ => "?") = "?"; rw [e]) n
      | ins C fs => exact absurd (by show (match h a with | some (.lst _) => "list" | some (.dK _) => "dict" | some (.dT _) => "dict" | _ => "?") = "?"; rw [e]) n
      | dN fs => exact absurd (by show (match h a with | some (.lst _) => "list" | some (.dK _) => "dict" | some (.dT _) => "dict" | _ => "?") = "?"; rw [e]) n
      | fN fs ws od => exact absurd (by show (match h a with | some (.lst _) => "list" | some (.dK _) => "dict" | some (.dT _) => "dict" | _ => "?") = "?"; rw [e]) n
section
variable {X : Cx} {Hb : Hp} {e : Expr} {es : List Expr} {me : MTE} {pos p p2 : Pos} {c : Str} {cn : String}
theorem ie_isi (hm : X.mg "isinstance" = none) (hmc : X.mg c = none) (he : IE X Hb e me) (hv : bootBuiltins c = some (.type cn)) (k : Kt cn) (hg : Gl X "isinstance" := by rfl) (hgc : Gl X c := by rfl) (hn : c ≠ "__name__" := by decide) (hd : (c == ("__debug__" : Str)) = false := by decide)
    (hs : starEach [e, .Name c p2] X.env = (false, eval e X.env) :: starEach [.Name c p2] X.env := by rfl) (hs2 : starEach [.Name c p2] X.env = (false, eval (.Name c p2) X.env) :: starEach [] X.env := by rfl) (hpl : (backTo pos (starEach [.Name c p2] X.env)).any (·.1) = false := by rfl) :
    IE X Hb (.Call (.Name "isinstance" p) [e, .Name c p2] [] pos) (mIsi cn me) := by
  refine pe_w (pe_callB call_isi hg hm PyProof.Rows.boot_isinstance (pa_cons he (pa_cons (pe_bltn (v := .ty cn) hgc hmc hv rfl hn hd) pa_nil hs2) hs) (by decide) (by decide) hs hpl) fun σ H Q ⟨env, h, Q0, re, rh, m, f⟩ => ?_
  refine ⟨env, h, _, re, rh, m, fun x h1 q v H1 t1 r1 rx => ?_⟩
  obtain ⟨ty, cs⟩ := tyX_of q.1 r1 rx
  exact ⟨v, .ty cn, _, _, _, rfl, .ty cn, ty, k.yes _ _ cs, f _ h1 q.2 _ H1 t1 r1 rv_bl⟩
/-! ### a list unpacked -/
def mAsgL (a : MTE) (ts : List Tg) : MTS := fun D' env h => a env h fun d h1 => ∃ b ds, d = .ref b ∧ h1 b = some (.lst ds) ∧ ∃ env', asgs ts ds env = some env' ∧ D'.nx env' h1
theorem is_asgL {ts : List Tg} {k : Nat} {pt : Pos} (hc : X.calm = true) (he : IE X Hb e me) (hg : IGs X es ts) (hn : (assignEach es X.env).length = ts.length := by rfl) (hst : (assignEach es X.env).findIdx? (·.1) = none := by rfl)
    (hs : swapsWithSole [.Tuple es k pt] e pos.line X.env = pure false := by rfl) (hw : swappedStores [.Tuple es k pt] e X.env = pure none := by rfl)
    (h1 : (assignEach [.Tuple es k pt] X.env).map (·.2) = [assign (.Tuple es k pt) X.env] := by rfl) : IS X Hb (.Assign [.Tuple es k pt] e pos) (mAsgL me ts) := by
  refine is_of (ps_asg he (pg_unl (t := gTs X.K ts) (n := ts.length) hc hg hn hst) hs hw h1) fun D' σ H env h D0 re rh m f => ?_
  refine ⟨env, h, _, re, rh, m, ?_⟩
  rintro d h1 ⟨b, ds, rfl, e1, env', e2, q⟩ v H1 t1 r1 rv
  obtain ⟨vs, E, rs⟩ := r1.lst e1
  rw [rv.ref]
  obtain ⟨σ', k1, k2, _⟩ := gTs_ok e2 rs (re.mono t1)
  exact ⟨b, vs, rfl, .of E, by rw [asgs_len e2, rs.length], k1 _ (f.nx env' h1 q σ' H1 t1 k2 r1)⟩
end
/-! ### a def of the text, a constant of the text -/
structure Fd (K : PySem.W.Frag) (mg : Str → Option Value) (x qual : Str) (st : Stmt) (ps : List Str) where
  a : Addr
  fd : FuncData
  F : Fun K x qual st a fd
  b : Binds K fd ps []
  m : mg x = some (.ref a)
structure Gc (K : PySem.W.Frag) (mg : Str → Option Value) (x : Str) (d : D) where
  u : Value
  v : V
  m : mg x = some u
  r : RelV v u
  rv : ∀ H, RV K H d v
theorem Gc.ie {X : Cx} {Hb : Hp} {x : Str} {d : D} {pos : Pos} (g : Gc X.K X.mg x d) (hg : Gl X x := by rfl) (hd : (x == ("__debug__" : Str)) = false := by decide) : IE X Hb (.Name x pos) (mC d) := ie_c (pe_glob hg g.m g.r hd) g.rv
/-! ### the end -/
theorem start_law {K : PySem.W.Frag} {H : Hp} {a : Addr} {ns : List Int} {sp : MSp} (hl : ns.length ≤ 63) (hb : ∀ z ∈ ns, Builtin.Int.intBits z ≤ 1048576) (hO : Only H) (hS : SqL K H a (ns.map V.int))
    (h : sp [.rl (ns.map .int)] (fun _ => none) (fun d _ => d = .bl true) noE) : liftSp K sp [.ref a] H (fun v _ => v = .bl true) fun _ _ _ => False := by
  have hI : SqI K H a (ns.map V.int) := by
    rcases hS with (e | ⟨o, e⟩) | e
    · rcases hO a with z | ⟨o, xs, z⟩
      · rw [e] at z; cases z
      · rw [e] at z; cases z
    · exact .inl ⟨o, e⟩
    · exact .inr e
  refine ⟨_, _, _, _, .cons ?_ .nil, fun _ _ e => (by cases e), h, fun d h' q v H' t rh rv => ?_, fun _ _ q => q.elim⟩
  · simp only [RV]
    exact ⟨a, _, rfl, hI, .of_ints⟩
  · subst q
    exact rv.bl
/-! ### frames -/
def Fr (S : List Addr) (h h' : MH) : Prop := ∀ b o, b ∉ S → h b = some o → h' b = some o
theorem Fr.refl {S : List Addr} {h : MH} : Fr S h h := fun _ _ _ e => e
theorem Fr.trans {S : List Addr} {h h1 h2 : MH} (a : Fr S h h1) (b : Fr S h1 h2) : Fr S h h2 := fun c o n e => b c o n (a c o n e)
theorem Fr.mono {S S' : List Addr} {h h1 : MH} (a : Fr S h h1) (s : ∀ x ∈ S, x ∈ S') : Fr S' h h1 := fun c o n e => a c o (fun z => n (s _ z)) e
theorem Fr.new {S : List Addr} {h : MH} {p : Addr} {o : MO} (n : h p = none) : Fr S h (up h p o) := fun b u _ e => by rw [up_ne (ne_of e n)]; exact e
theorem Fr.put {S : List Addr} {h : MH} {p : Addr} {o : MO} (n : p ∈ S) : Fr S h (up h p o) := fun b u nb e => by rw [up_ne (fun z => nb (by rw [z]; exact n))]; exact e
theorem Fr.at0 {h h' : MH} (f : Fr [] h h') {a : Addr} {o : MO} (e : h a = some o) : h' a = some o := f a o (by simp) e
theorem Fr.at1 {h h' : MH} {p a : Addr} {o : MO} (f : Fr [p] h h') (e : h a = some o) (n : a ≠ p) : h' a = some o := f a o (by simpa using n) e
theorem Fr.free {h h' : MH} (f : Fr [] h h') {a : Addr} (e : h' a = none) : h a = none := by
  cases q : h a with
  | none => rfl
  | some o => rw [f.at0 q] at e; cases e
/-! ### the walk -/
theorem seq_ {a b : MTS} {D' : MEnds} {env : ME} {h : MH} (k : a { D' with nx := b D' } env h) : mSeq a b D' env h := k
theorem ite_ {c : Prop} [Decidable c] {A B : Prop} (h1 : c → A) (h2 : ¬ c → B) : if decide c = true then A else B := by
  by_cases h : c
  · rw [if_pos (decide_eq_true h)]; exact h1 h
  · rw [if_neg (by simpa using h)]; exact h2 h
theorem iteb_ {c : Bool} {A B : Prop} (h1 : c = true → A) (h2 : c = false → B) : if c = true then A else B := by
  cases c with
  | true => rw [if_pos rfl]; exact h1 rfl
  | false => rw [if_neg Bool.false_ne_true]; exact h2 rfl
end M
namespace M
open PySem L2
section
variable {D' : MEnds} {env : ME} {h : MH} {e o i : MTE} {a b : MTS} {c : MTT} {n j : Nat} {t : Tg} {ts : List Tg} {r : MR2} {rs : MRSet}
theorem set_ (k : e env h fun d h1 => D'.nx (env.set n (some d)) h1) : mSet n e D' env h := k
theorem ret_ (k : e env h D'.rt) : mRet e D' env h := k
theorem retN_ (k : D'.rt .non h) : mRetN D' env h := k
theorem drop_ (k : e env h fun _ h1 => D'.nx env h1) : mDrop e D' env h := k
theorem next_ (k : D'.nx env h) : mNext D' env h := k
theorem brk_ (k : D'.bk env h) : mBrk D' env h := k
theorem ct_ (k : D'.ct env h) : mCt D' env h := k
theorem if_ (k : c env h fun k h1 => if k = true then a D' env h1 else b D' env h1) : mIf c a b D' env h := k
theorem asg_ (k : e env h fun d h1 => ∃ env', asg t d env = some env' ∧ D'.nx env' h1) : mAsg e t D' env h := k
theorem asgL_ (k : e env h fun d h1 => ∃ b ds, d = .ref b ∧ h1 b = some (.lst ds) ∧ ∃ env', asgs ts ds env = some env' ∧ D'.nx env' h1) : mAsgL e ts D' env h := k
theorem put_ (k : e env h fun d h1 => o env h1 fun x h2 => i env h2 fun y h3 => rs x y d h3 fun h4 => D'.nx env h4) : mPut rs e o i D' env h := k
theorem for_ {i : MTI} (k : i env h fun S h1 => ForW S t a D' env h1) : mFor i t a D' env h := k
theorem while_ (W : Nat → ME → MH → Prop) (m : Nat) (w0 : W m env h) (turn : ∀ m env h, W m env h →
  c env h fun k h1 => if k = true then a { D' with nx := fun env' h' => ∃ m', m' < m ∧ W m' env' h', ct := fun env' h' => ∃ m', m' < m ∧ W m' env' h', bk := D'.nx } env h1 else D'.nx env h1) : mWhile c a D' env h := ⟨W, ⟨m, w0⟩, turn⟩
/-- the loop's word -/
theorem forW {S : MSrc} {h1 : MH} (W : Nat → ME → MH → Prop) (w0 : W 0 env h1) (ok : ∀ k env' h', W k env' h' → S.ok h') (turn : ∀ k env' h', k < S.n → W k env' h' →
    ∃ env2, asg t (S.item k) env' = some env2 ∧ a { D' with nx := W (k + 1), ct := W (k + 1), bk := D'.nx } env2 h') (fin : ∀ env' h', W S.n env' h' → D'.nx env' h') : ForW S t a D' env h1 :=
  ⟨W, w0, fun k env' h' hk w => ⟨ok k env' h' w, fun hl => turn k env' h' hl w, fun e => fin env' h' (e ▸ w)⟩⟩
/-- a comprehension whose element and test leave the heap's things as they are -/
theorem lcW {S : MSrc} {h1 : MH} {Q : MQ} {tt : MTT} {vs : List Nat} (f : Nat → Option D) (ok : ∀ h', Fr [] h1 h' → S.ok h') (hz : S.n ≤ 100000) (turn : ∀ k h', k < S.n → Fr [] h1 h' →
    ∃ env2, asg t (S.item k) (mwipe env vs) = some env2 ∧ ∀ R : Bool → MH → Prop, (∀ h3, Fr [] h' h3 → R (f k).isSome h3) → tt env2 h' R)
    (el : ∀ k h' env2 d, k < S.n → Fr [] h1 h' → asg t (S.item k) (mwipe env vs) = some env2 → f k = some d → ∀ R : MQ, (∀ h3, Fr [] h' h3 → R d h3) → e env2 h' R)
    (fin : ∀ p h', Fr [] h1 h' → h1 p = none → h' p = some (.lst ((List.range S.n).filterMap f)) → Q (.ref p) h') : LcW S t tt e vs env h1 Q := by
  intro p np
  refine ⟨fun k h' => Fr [] h1 h' ∧ h' p = some (.lst ((List.range k).filterMap f)), ⟨.new np, up_same⟩, fun k h' hk ⟨fr, ep⟩ => ⟨ok h' fr, fun hl => ?_, fun e => fin p h' fr np (e ▸ ep)⟩⟩
  obtain ⟨env2, ea, ht⟩ := turn k h' hl fr
  refine ⟨env2, ea, ht _ fun h3 f3 => ?_⟩
  have e3 := f3.at0 ep
  have sz : ((List.range k).filterMap f).length < sizeLine := by
    have := List.length_filterMap_le f (List.range k)
    rw [List.length_range] at this
    rw [sizeLine_eq]; omega
  cases q : f k with
  | none =>
    refine ⟨fr.trans f3, ?_⟩
    rw [List.range_succ, List.filterMap_append, List.filterMap_cons, q, List.filterMap_nil, List.append_nil]
    exact e3
  | some d =>
    refine el k h3 env2 d hl (fr.trans f3) ea q _ fun h4 f4 => ?_
    refine ⟨_, f4.at0 e3, sz, fun b o nb e => ?_, ?_⟩
    · rw [up_ne (ne_of e np)]
      exact f4.at0 (f3.at0 (fr.at0 e))
    · rw [up_same, List.range_succ, List.filterMap_append, List.filterMap_cons, q, List.filterMap_nil]
theorem par_ (k : e env h fun x h1 => o env h1 fun y h2 => D'.nx ((env.set n (some x)).set j (some y)) h2) : mPar n j e o D' env h := k
theorem aug_ (k : ∃ x, env[n]? = some (some x) ∧ e env h fun y h1 => r x y h1 fun z h2 => D'.nx (env.set n (some z)) h2) : mAug n r e D' env h := k
end
section
variable {α : Type} {x y z u v w : α} {xs : List α}
theorem at0 : atI (x :: xs) 0 = some x := atI_nat (j := 0) rfl
theorem at1 : atI (x :: y :: xs) 1 = some y := atI_nat (j := 1) rfl
theorem at2 : atI (x :: y :: z :: xs) 2 = some z := atI_nat (j := 2) rfl
theorem at3 : atI (x :: y :: z :: u :: xs) 3 = some u := atI_nat (j := 3) rfl
theorem at4 : atI (x :: y :: z :: u :: v :: xs) 4 = some v := atI_nat (j := 4) rfl
theorem at5 : atI (x :: y :: z :: u :: v :: w :: xs) 5 = some w := atI_nat (j := 5) rfl
end
theorem srcR_item {lo c : Int} {n k : Nat} : (srcR lo n c).item k = .int (lo + (k : Nat) * c) := rfl
theorem srcR_n {lo c : Int} {n : Nat} : (srcR lo n c).n = n := rfl
theorem srcD_n {ds : List D} {ok : MH → Prop} : (srcD ds ok).n = ds.length := rfl
theorem srcE_n {ds : List D} {ok : MH → Prop} : (srcE ds ok).n = ds.length := rfl
theorem srcZ_n {ds es : List D} {ok : MH → Prop} : (srcZ ds es ok).n = min ds.length es.length := rfl
theorem srcD_item {ds : List D} {ok : MH → Prop} {k : Nat} : (srcD ds ok).item k = ds.getD k .non := rfl
theorem srcE_item {ds : List D} {ok : MH → Prop} {k : Nat} : (srcE ds ok).item k = .tw [.int (k : Nat), ds.getD k .non] := rfl
theorem srcZ_item {ds es : List D} {ok : MH → Prop} {k : Nat} : (srcZ ds es ok).item k = .tw [ds.getD k .non, es.getD k .non] := rfl
end M

namespace M
open PySem L2
/-! ### more rules -/
def mRev (a : MTE) : MTE := fun env h Q => a env h fun x h1 => match x with
  | .rl ds => ∀ p, h1 p = none → Q (.ref p) (up h1 p (.lst ds.reverse))
  | .ref a => ∃ ds, h1 a = some (.lst ds) ∧ ∀ p, h1 p = none → Q (.ref p) (up h1 p (.lst ds.reverse))
  | _ => False
theorem RVs.reverse {K : PySem.W.Frag} {H : Hp} : ∀ {ds : List D} {vs : List V}, RVs K H ds vs → RVs K H ds.reverse vs.reverse
  | [], _, h => by rw [h.inv0]; exact .nil
  | d :: ds, _, h => by
    obtain ⟨v, r, rfl, q, t⟩ := h.inv
    rw [List.reverse_cons, List.reverse_cons]
    exact t.reverse.append (.cons q .nil)
theorem rgV_ints (a b : Int) : rgV a b = ((List.range (b - a).toNat).map fun i => a + (i : Nat)).map V.int := by
  unfold rgV; rw [List.map_map]; rfl
def rgI (a b : Int) : List Int := (List.range (b - a).toNat).map fun i => a + (i : Nat)
def mTupR1 (a : MTE) : MTE := fun env h Q => a env h fun x h1 => ∃ j, x = .int j ∧ RgOk 0 j ∧ Q (.tup ((rgI 0 j).map .int)) h1
def mLstR1 (a : MTE) : MTE := fun env h Q => a env h fun x h1 => ∃ j, x = .int j ∧ RgOk 0 j ∧ ∀ p, h1 p = none → Q (.ref p) (up h1 p (.lst ((rgI 0 j).map .int)))
section
variable {X : Cx} {Hb : Hp} {a e o i : Expr} {ma me mo mi : MTE} {pos p p2 p3 pa : Pos} {k : Nat}
theorem ie_revL (he : IE X Hb e me) : IE X Hb (.Subscript e (.Slice none none (some (.UnaryOp .USub (.Constant (.int 1) k p) p2)) p3) pos) (mRev me) := by
  refine pe_w (pe_revL he) fun σ H Q ⟨env, h, Q0, re, rh, m, f⟩ => ?_
  refine ⟨env, h, _, re, rh, m, fun x h1 q v H1 t1 r1 rx => ?_⟩
  have f1 := Fin.mono t1 f
  cases x <;> first | exact q.elim | skip
  · obtain ⟨a, vs, rfl, ta, rs⟩ := rx.rl
    exact ⟨a, vs, rfl, ta.l, fun p np => f1 _ _ (q p (r1.free np)) _ _ (.new np) (r1.new np (ro_lst rs.reverse)) rv_ref⟩
  · obtain ⟨ds, e, q⟩ := q
    rw [rx.ref]
    obtain ⟨vs, E, rs⟩ := r1.lst e
    exact ⟨_, vs, rfl, .of E, fun p np => f1 _ _ (q p (r1.free np)) _ _ (.new np) (r1.new np (ro_lst rs.reverse)) rv_ref⟩
def tTupRgN (te : L2.St → Hp → (Int → Int → Hp → Prop) → Prop) : TE := fun σ H Q => te σ H fun a b H1 => RgOk a b ∧ ∀ q od, H1 q = none → od.dict = none → Q (.ref q) (upd H1 q (.frz od (.tup (rgV a b))))
open PySem.Spec PyProof PyProof.Rows in
theorem pe_tupRgN {X : Cx} {e : Expr} {te : L2.St → Hp → (Int → Int → Hp → Prop) → Prop} {p pos : Pos} (hc : X.calm = true) (hg : Gl X "tuple") (hm : X.mg "tuple" = none) (he : PRg X e te) (na : starEach [e] X.env = (false, eval e X.env) :: starEach [] X.env := by rfl) : PE X (.Call (.Name "tuple" p) [e] [] pos) (tTupRgN te) := by
  refine ⟨fun pins s σ H Q I h => ?_⟩
  refine Call_ (ld_blt I hg hm PyProof.Rows.boot_tuple (PyProof.Rows.callWith_type1 (args_cons (thn (he pins s σ H _ I h) fun x s1 ⟨r, a, b, t, u, v, H1, ex, hr, I1, ok, q⟩ => args_nil ?_) na) na))
  subst ex
  obtain ⟨b1, b2, b3, b4, b5⟩ := ok
  refine call_tuple_range (n := (b - a).toNat) (I1.ok.hd hc) hr (small_one b1 b2 b3 b4) (rangeSize_nat a b) b5 fun h' tk acc hk hi => ?_
  have I2 : Inv X pins σ H1 { s1 with heap := h', toks := tk } := I1.kept hk
  have e : acc.toList.toArray = acc := Array.toArray_toList
  have ok := okN (P := X.prog) (w := X.w) (h := h') (H := upd H1 h'.objs.size (.frz (tob acc.toList) (.tup (rgV a b)))) (by rw [rgV_length, sizeLine_eq]; omega) (vals_rg hi)
  have I3 := I2.laid (a := h'.objs.size) (t' := tk) (fun c o e => Heap.get?_push_of_some (h := h') (tob acc.toList) e) (Nat.le_refl _) ok
  unfold tob at I3
  rw [e] at I3
  exact ⟨.ref h'.objs.size, _, I3, rfl, q _ _ (I2.hok.fresh (Nat.le_refl _)) rfl⟩
theorem ie_tupR1 (hm : X.mg "tuple" = none) (hr : X.mg "range" = none) (ha : IE X Hb a ma) (hc : X.calm = true := by rfl) (hg : Gl X "tuple" := by rfl) (hg2 : Gl X "range" := by rfl) (na : starEach [a] X.env = (false, eval a X.env) :: starEach [] X.env := by rfl)
    (na2 : starEach [.Call (.Name "range" p2) [a] [] pa] X.env = (false, eval (.Call (.Name "range" p2) [a] [] pa) X.env) :: starEach [] X.env := by rfl) : IE X Hb (.Call (.Name "tuple" p) [.Call (.Name "range" p2) [a] [] pa] [] pos) (mTupR1 ma) := by
  refine pe_w (pe_tupRgN hc hg hm (prg_1 hg2 hr ha na) na2) fun σ H Q ⟨env, h, Q0, re, rh, m, f⟩ => ?_
  refine ⟨env, h, _, re, rh, m, ?_⟩
  rintro d h1 ⟨j, rfl, ok, q⟩ v H1 t1 r1 rx
  rw [rx.int]
  refine ⟨j, rfl, ok, fun p od np nd => ?_⟩
  rw [rgV_ints]
  exact f _ h1 q _ _ (t1.trans (.new np)) (r1.skip np) (rv_tup (.of upd_same nd) .of_ints)
theorem ie_lstR1 (hm : X.mg "list" = none) (hr : X.mg "range" = none) (ha : IE X Hb a ma) (hc : X.calm = true := by rfl) (hg : Gl X "list" := by rfl) (hg2 : Gl X "range" := by rfl) (na : starEach [a] X.env = (false, eval a X.env) :: starEach [] X.env := by rfl)
    (na2 : starEach [.Call (.Name "range" p2) [a] [] pa] X.env = (false, eval (.Call (.Name "range" p2) [a] [] pa) X.env) :: starEach [] X.env := by rfl) : IE X Hb (.Call (.Name "list" p) [.Call (.Name "range" p2) [a] [] pa] [] pos) (mLstR1 ma) := by
  refine pe_w (pe_listRg hc hg hm (prg_1 hg2 hr ha na) na2) fun σ H Q ⟨env, h, Q0, re, rh, m, f⟩ => ?_
  refine ⟨env, h, _, re, rh, m, ?_⟩
  rintro d h1 ⟨j, rfl, ok, q⟩ v H1 t1 r1 rx
  rw [rx.int]
  refine ⟨j, rfl, ok, fun p np => ?_⟩
  rw [rgV_ints]
  exact f _ _ (q p (r1.free np)) _ _ (t1.trans (.new np)) (r1.new np (ro_lst .of_ints)) rv_ref
def rPopAt : MRM := fun x xs h Q => match x, xs with
  | .ref a, [.int i] => ∃ ds, h a = some (.lst ds) ∧ 0 ≤ i ∧ i < ds.length ∧ ds.length < 2 ^ 62 ∧ ∃ y, ds[i.toNat]? = some y ∧ Q y (up h a (.lst (ds.eraseIdx i.toNat)))
  | _, _ => False
theorem RVs.eraseIdx {K : PySem.W.Frag} {H : Hp} : ∀ {ds : List D} {vs : List V} (n : Nat), RVs K H ds vs → RVs K H (ds.eraseIdx n) (vs.eraseIdx n)
  | [], _, _, h => by rw [h.inv0]; exact .nil
  | d :: ds, _, 0, h => by
    obtain ⟨v, r, rfl, q, t⟩ := h.inv
    exact t
  | d :: ds, _, n + 1, h => by
    obtain ⟨v, r, rfl, q, t⟩ := h.inv
    exact .cons q (t.eraseIdx n)
theorem mi_popAt : MtI X "list.pop" rPopAt := by
  refine ⟨_, mt_popAt, fun x xs h Q0 vx vs H Q q rh rx rs f => ?_⟩
  unfold rPopAt at q
  split at q
  · rename_i a i
    obtain ⟨ds, e, i0, i1, i2, y, ey, q⟩ := q
    obtain ⟨v, rfl, ry⟩ := rs.one
    obtain ⟨ws, E, rt⟩ := rh.lst e
    rw [rx.ref, ry.int]
    obtain ⟨u, eu, ru⟩ := rt.get ey
    have t : TL H (upd H _ (.lst (ws.eraseIdx i.toNat))) := .put E (fun _ z => by cases z) (fun _ _ z => by cases z)
    have hl := rt.length
    have e2 : ixN ws.length i = some i.toNat := by
      unfold ixN
      rw [if_pos i0, if_pos (by omega)]
    exact ⟨_, ws, i, i.toNat, u, rfl, rfl, E, by omega, by omega, (ixN_seq e2).1, eu, f _ _ q _ _ t (rh.put t (ro_lst ((rt.eraseIdx _).mono t))) (ru.mono t)⟩
  · exact q.elim
def rPop : MRM := fun x xs h Q => match x, xs with
  | .ref a, [] => ∃ ds, h a = some (.lst ds) ∧ ∃ y, ds[ds.length - 1]? = some y ∧ Q y (up h a (.lst ds.dropLast))
  | _, _ => False
theorem RVs.dropLast {K : PySem.W.Frag} {H : Hp} {ds : List D} {vs : List V} (h : RVs K H ds vs) : RVs K H ds.dropLast vs.dropLast := by
  rw [List.dropLast_eq_take, List.dropLast_eq_take, h.length]; exact h.take _
theorem mi_pop : MtI X "list.pop" rPop := by
  refine ⟨_, mt_pop, fun x xs h Q0 vx vs H Q q rh rx rs f => ?_⟩
  unfold rPop at q
  split at q
  · obtain ⟨ds, e, y, ey, q⟩ := q
    obtain ⟨ws, E, rt⟩ := rh.lst e
    rw [rx.ref, rs.inv0]
    obtain ⟨u, eu, ru⟩ := rt.get ey
    have t : TL H (upd H _ (.lst ws.dropLast)) := .put E (fun _ z => by cases z) (fun _ _ z => by cases z)
    exact ⟨_, ws, u, rfl, rfl, E, by rw [← rt.length]; exact eu, f _ _ q _ _ t (rh.put t (ro_lst (rt.dropLast.mono t))) (ru.mono t)⟩
  · exact q.elim
/-! ### sorted ints of a list -/
def rSorted : MRA := fun xs h Q => match xs with
  | [.ref a] => ∃ ns : List Int, h a = some (.lst (ns.map .int)) ∧ ∀ (ns' : List Int) p, ns'.Perm ns → ns'.Pairwise (· ≤ ·) → h p = none → Q (.ref p) (up h p (.lst (ns'.map .int)))
  | _ => False
theorem cm_sorted : CaM X (.builtin "sorted") rSorted := by
  refine ⟨_, cr_sortedI, fun xs h Q0 vs H Q q rh rs f => ?_⟩
  unfold rSorted at q
  split at q
  · obtain ⟨v, rfl, rx⟩ := rs.one
    rw [rx.ref]
    obtain ⟨ns, e, q⟩ := q
    obtain ⟨vs, E, rs⟩ := rh.lst e
    rw [rs.ints] at E
    exact ⟨_, ns, rfl, .of E, fun ns' p h1 h2 np => f _ _ (q ns' p h1 h2 (rh.free np)) _ _ (.new np) (rh.new np (ro_lst .of_ints)) rv_ref⟩
  · exact q.elim
/-! ### xs[i] op= e -/
def mAugS (r : MR2) (o i e : MTE) : MTS := fun D' env h => o env h fun x h1 => i env h1 fun y h2 => rIx x y h2 (fun z h3 => e env h3 fun w h4 => r z w h4 fun u h5 => rSetL x y u h5 fun h6 => D'.nx env h6) ∧ ∃ a, x = .ref a
theorem pget_list : PGet X (rIxL X.K) := by
  intro pins s σ H x y v u Q I rx ry h
  obtain ⟨p, xs, i, z, rfl, rfl, hq, he, q⟩ := h
  cases rx
  obtain ⟨t, rfl⟩ := ry
  obtain ⟨its, r, pl, hz⟩ := I.list hq
  obtain ⟨j, h1, h2, h3, h4, h5⟩ := atI_get he
  obtain ⟨w, ew, rw'⟩ := r.get h2
  have hl := r.length
  have hn := L2.line63
  have fin : EP X pins σ Q w s := ⟨z, H, I, rw', q⟩
  by_cases h0 : 0 ≤ i
  · have hj : i.toNat = j := by
      rw [seqIndex_of h0 h5] at h1
      exact Option.some.inj h1
    exact wpAny_getItem_list pl.isList h0 (by omega) (by rw [hj]; simpa using ew) fin
  · have hj : (i + (its.toArray.size : Int)).toNat = j := by
      rw [seqIndex_neg (by omega) h4] at h1
      rw [List.size_toArray, ← hl]
      exact Option.some.inj h1
    exact wpAny_getItem_list_neg pl.isList (by omega) (by rw [List.size_toArray] <;> omega) (by omega) (by rw [hj]; simpa using ew) fin
theorem is_augS {op : Operator} {r : MR2} {tpos : Pos} (hp : IpM X op r) (ho : IE X Hb o mo) (hi : IE X Hb i mi) (he : IE X Hb e me)
    (ha : ∀ ov iv new, augStore i ov iv new = (do holding [new, ov, iv] (setItem ov iv new); release [new, ov, iv] []; pure .next) := by intros; rfl) : IS X Hb (.AugAssign (.Subscript o i tpos) op e pos) (mAugS r mo mi me) := by
  obtain ⟨R, hR, hr⟩ := hp
  obtain ⟨RS, hRS, hs⟩ := se_list (X := X)
  refine is_of (ps_augS ho hi pget_list he hR hRS ha) fun D' σ H env h D0 re rh m f => ?_
  refine ⟨env, h, _, re, rh, m, fun x h1 q1 vx H1 t1 r1 rx => ?_⟩
  refine ⟨env, h1, _, re.mono t1, r1, q1, fun y h2 q2 vy H2 t2 r2 ry => ?_⟩
  have q2 : rIx x y h2 _ ∧ ∃ a, x = .ref a := q2
  obtain ⟨q2, a, rfl⟩ := q2
  cases y <;> first | exact q2.elim | skip
  rename_i k _z
  obtain ⟨ds, e0, d, ed, q2⟩ := q2
  obtain ⟨vs, E, rs⟩ := r2.lst e0
  obtain ⟨v, e1, rv⟩ := rs.atI ed
  have rx2 := rx.mono t2
  rw [rx2.ref, ry.int]
  refine ⟨a, vs, k, v, rfl, rfl, .of E, e1, ?_⟩
  refine ⟨env, h2, _, (re.mono t1).mono t2, r2, q2, fun w h4 q4 vw H4 t4 r4 rw' => ?_⟩
  refine hr d w h4 _ v vw H4 _ q4 r4 (rv.mono t4) rw' fun u h5 q5 vu H5 t5 r5 ru => ?_
  refine hs (.ref a) (.int k) u h5 _ _ _ vu H5 _ q5 r5 rv_ref rv_int ru fun h6 q6 H6 t6 r6 => ?_
  have tt := t1.trans (t2.trans (t4.trans (t5.trans t6)))
  exact f.nx env h6 q6 σ H6 tt (re.mono tt) r6
end
end M

namespace M
open PySem L2
/-- a promise of nothing (the foot of a recursion) -/
theorem fnNone {P : Program} {w : World} {K : PySem.W.Frag} {mg : Str → Option Value} {base : Heap} {CX : CXT} {k : Nat} {f : Addr} {fd : FuncData} {ps : List Str} {sp : MSp} (h : ∀ ds h Q E, ¬ sp ds h Q E) : FnOk P w K mg base CX k f fd ps (liftSp K sp) :=
  ⟨fun vs H Q E ⟨ds, hh, Q0, E0, _, _, q, _⟩ => absurd q (h _ _ _ _), fun A outer s H args us vs Q E _ _ _ _ ⟨ds, hh, Q0, E0, _, _, q, _⟩ => absurd q (h _ _ _ _)⟩
section
variable {D' : MEnds} {env : ME} {h : MH} {e o i : MTE} {a b : MTS} {c : MTT} {n j : Nat} {t : Tg} {ts : List Tg} {r : MR2} {rs : MRSet}
/-- a comprehension that changes the things at L: I tells what holds behind each item -/
theorem lcS {S : MSrc} {h1 : MH} {Q : MQ} {tt : MTT} {vs : List Nat} (L : List Addr) (I : Nat → List D → MH → Prop) (hL : ∀ a ∈ L, h1 a ≠ none)
    (stab : ∀ k acc h' p o, h1 p = none → I k acc h' → I k acc (up h' p o)) (i0 : I 0 [] h1) (ok : ∀ h', Fr L h1 h' → S.ok h') (hz : S.n ≤ 100000)
    (turn : ∀ k acc h', k < S.n → Fr L h1 h' → I k acc h' → acc.length ≤ k → ∃ env2, asg t (S.item k) (mwipe env vs) = some env2 ∧ ∀ R : Option D → MH → Prop,
      (∀ h3, Fr L h' h3 → I (k + 1) acc h3 → R none h3) → (∀ y h4, Fr L h' h4 → I (k + 1) (acc ++ [y]) h4 → R (some y) h4) →
      tt env2 h' fun b h3 => if b = true then e env2 h3 fun y h4 => R (some y) h4 else R none h3)
    (fin : ∀ p h' acc, Fr L h1 h' → h1 p = none → h' p = some (.lst acc) → I S.n acc h' → Q (.ref p) h') : LcW S t tt e vs env h1 Q := by
  intro p np
  have pL : p ∉ L := fun z => hL p z np
  refine ⟨fun k h' => Fr L h1 h' ∧ ∃ acc, h' p = some (.lst acc) ∧ acc.length ≤ k ∧ I k acc h', ⟨.new np, [], up_same, Nat.le_refl _, stab _ _ _ _ _ np i0⟩, ?_⟩
  rintro k h' hk ⟨fr, acc, ea, la, ia⟩
  refine ⟨ok h' fr, fun hl => ?_, fun e => fin p h' acc fr np ea (e ▸ ia)⟩
  obtain ⟨env2, eg, ht⟩ := turn k acc h' hl fr ia la
  refine ⟨env2, eg, ?_⟩
  have key := ht (fun d h3 => match d with
    | some y => ∃ acc, h3 p = some (.lst acc) ∧ acc.length < sizeLine ∧ (Fr L h1 (up h3 p (.lst (acc ++ [y]))) ∧ ∃ acc2, (up h3 p (.lst (acc ++ [y]))) p = some (.lst acc2) ∧ acc2.length ≤ k + 1 ∧ I (k + 1) acc2 (up h3 p (.lst (acc ++ [y]))))
    | none => Fr L h1 h3 ∧ ∃ acc, h3 p = some (.lst acc) ∧ acc.length ≤ k + 1 ∧ I (k + 1) acc h3) ?_ ?_
  · exact key
  · exact fun h3 f3 i3 => ⟨fr.trans f3, acc, f3 _ _ pL ea, by omega, i3⟩
  · intro y h4 f4 i4
    have e4 := f4 _ _ pL ea
    refine ⟨acc, e4, by rw [sizeLine_eq]; omega, fun b o nb e => ?_, _, up_same, by rw [List.length_append, List.length_singleton]; omega, stab _ _ _ _ _ np i4⟩
    rw [up_ne (ne_of e np)]
    exact f4 _ _ nb (fr _ _ nb e)
end
theorem inF_ints {x : Int} {xs : List Int} : inF (.int x) (xs.map .int) = decide (x ∈ xs) := by
  unfold inF
  rw [List.any_map]
  induction xs with
  | nil => rfl
  | cons y ys ih =>
    rw [List.any_cons, ih]
    show (y == x || _) = _
    rw [show (y == x) = decide (y = x) from rfl, ← Bool.decide_or]
    refine decide_eq_decide.mpr ?_
    rw [List.mem_cons, eq_comm]
theorem flat_ints {xs : List Int} : (xs.map D.int).all flatD = true := by
  rw [List.all_map]
  exact List.all_eq_true.mpr fun _ _ => rfl
theorem atI_ints {xs : List Int} {i : Nat} {x : Int} (h : xs[i]? = some x) : atI (xs.map D.int) (i : Int) = some (.int x) := atI_nat (by rw [List.getElem?_map, h]; rfl)
theorem atI_map {α : Type} {f : α → D} {xs : List α} {i : Nat} {x : α} (h : xs[i]? = some x) : atI (xs.map f) (i : Int) = some (f x) := atI_nat (by rw [List.getElem?_map, h]; rfl)
theorem atI_lt {ds : List D} {r : Int} (h0 : 0 ≤ r) (h1 : r < ds.length) : ∃ d, atI ds r = some d ∧ d ∈ ds := by
  have e : r = (r.toNat : Int) := by omega
  have hl : r.toNat < ds.length := by omega
  have h := atI_nat (List.getElem?_eq_getElem hl)
  rw [← e] at h
  exact ⟨ds[r.toNat], h, List.getElem_mem hl⟩
theorem ints_inj : ∀ {xs ys : List Int}, xs.map D.int = ys.map D.int → xs = ys
  | [], [], _ => rfl
  | [], _ :: _, h => by cases h
  | _ :: _, [], h => by cases h
  | x :: xs, y :: ys, h => by
    rw [List.map_cons, List.map_cons] at h
    injection h with h1 h2
    injection h1 with h1
    rw [h1, ints_inj h2]
theorem Fr.lst1 {L : List Addr} {h h' : MH} {a : Addr} {o : MO} (f : Fr L h h') (e : h a = some o) (n : a ∉ L) : h' a = some o := f a o n e

section
variable {env : ME} {e : MTE} {t : Tg}
/-- a comprehension that changes nothing that stood -/
theorem lcP {S : MSrc} {h1 : MH} {Q : MQ} {tt : MTT} {vs : List Nat} (f : Nat → Option D) (ok : ∀ h', Fr [] h1 h' → S.ok h') (hz : S.n ≤ 100000)
    (turn : ∀ k h', k < S.n → Fr [] h1 h' → ∃ env2, asg t (S.item k) (mwipe env vs) = some env2 ∧ ∀ R : Option D → MH → Prop,
      (∀ h3, Fr [] h' h3 → R (f k) h3) → tt env2 h' fun b h3 => if b = true then e env2 h3 fun y h4 => R (some y) h4 else R none h3)
    (fin : ∀ p h', Fr [] h1 h' → h1 p = none → h' p = some (.lst ((List.range S.n).filterMap f)) → Q (.ref p) h') : LcW S t tt e vs env h1 Q := by
  refine lcS [] (fun k acc _ => acc = (List.range k).filterMap f) (by simp) (fun _ _ _ _ _ _ i => i) rfl ok hz (fun k acc h' hk fr ia _ => ?_) (fun p h' acc fr np ep ia => fin p h' fr np (ia ▸ ep))
  obtain ⟨env2, ea, ht⟩ := turn k h' hk fr
  refine ⟨env2, ea, fun R r0 r1 => ht R fun h3 f3 => ?_⟩
  have e1 : (List.range (k + 1)).filterMap f = (List.range k).filterMap f ++ (match f k with | some d => [d] | none => []) := by
    rw [List.range_succ, List.filterMap_append, List.filterMap_cons]
    cases f k <;> rfl
  cases q : f k with
  | none => exact r0 h3 f3 (by rw [e1, q, List.append_nil]; exact ia)
  | some d => exact r1 d h3 f3 (by rw [e1, q, ia])
theorem range_fm {α β : Type} (xs : List α) (g : α → Option β) : (List.range xs.length).filterMap (fun k => (xs[k]?).bind g) = xs.filterMap g := by
  induction xs with
  | nil => rfl
  | cons x xs ih =>
    rw [List.length_cons, List.range_succ_eq_map, List.filterMap_cons, List.filterMap_map]
    show (match g x with | none => _ | some b => _) = _
    rw [List.filterMap_cons]
    have e : (List.range xs.length).filterMap ((fun k => ((x :: xs)[k]?).bind g) ∘ Nat.succ) = xs.filterMap g := by
      rw [← ih]; rfl
    rw [e]; cases g x <;> rfl
theorem getD_map {α : Type} {f : α → D} {xs : List α} {k : Nat} (h : k < xs.length) : (xs.map f).getD k .non = f xs[k] := by
  rw [List.getD_eq_getElem?_getD, List.getElem?_map, List.getElem?_eq_getElem h]; rfl
theorem lcL {α : Type} (xs : List α) (enc : α → D) (g : α → Option D) {okk : MH → Prop} {h1 : MH} {Q : MQ} {tt : MTT} {vs : List Nat} (ok : ∀ h', Fr [] h1 h' → okk h') (hz : xs.length ≤ 100000)
    (turn : ∀ x h', x ∈ xs → Fr [] h1 h' → ∃ env2, asg t (enc x) (mwipe env vs) = some env2 ∧ ∀ R : Option D → MH → Prop,
      (∀ h3, Fr [] h' h3 → R (g x) h3) → tt env2 h' fun b h3 => if b = true then e env2 h3 fun y h4 => R (some y) h4 else R none h3)
    (fin : ∀ p h', Fr [] h1 h' → h1 p = none → h' p = some (.lst (xs.filterMap g)) → Q (.ref p) h') : LcW (srcD (xs.map enc) okk) t tt e vs env h1 Q := by
  have hn : (srcD (xs.map enc) okk).n = xs.length := List.length_map ..
  refine lcP (fun k => (xs[k]?).bind g) ok (by rw [hn]; exact hz) (fun k h' hk fr => ?_) (fun p h' fr np ep => fin p h' fr np ?_)
  · rw [hn] at hk
    have e1 : (srcD (xs.map enc) okk).item k = enc xs[k] := getD_map hk
    rw [e1, List.getElem?_eq_getElem hk]
    exact turn xs[k] h' (List.getElem_mem hk) fr
  · rw [hn, range_fm] at ep
    exact ep
theorem fm_some {α : Type} (xs : List α) (g : α → D) : xs.filterMap (fun x => some (g x)) = xs.map g := by
  induction xs with
  | nil => rfl
  | cons x xs ih => rw [List.filterMap_cons, List.map_cons, ih]
theorem fm_if {α : Type} (xs : List α) (c : α → Bool) (g : α → D) : xs.filterMap (fun x => if c x = true then some (g x) else none) = (xs.filter c).map g := by
  induction xs with
  | nil => rfl
  | cons x xs ih =>
    rw [List.filterMap_cons, List.filter_cons]
    cases c x with
    | true => rw [if_pos rfl, if_pos rfl, List.map_cons, ih]
    | false => rw [if_neg Bool.false_ne_true, if_neg Bool.false_ne_true, ih]
end
/-! ### the operators at what they take -/
section
variable {i j : Int} {k : Nat} {h : MH} {Q : MQ} {a b : Addr} {xs ys : List D} {x y z : D} {s u : Str} {c : Bool}
theorem q_add1 : rAdd (.int i) (.int j) h Q = Q (.int (i + j)) h := rfl
theorem q_add2 : rAdd (.str s) (.str u) h Q = (s.length + u.length ≤ sizeLine ∧ Q (.str (s ++ u)) h) := rfl
theorem q_add3 : rAdd (.tup xs) (.tup ys) h Q = (xs.length + ys.length ≤ sizeLine ∧ Q (.tup (xs ++ ys)) h) := rfl
theorem q_add4 : rAdd (.ref a) (.ref b) h Q = (∃ xs ys, h a = some (.lst xs) ∧ h b = some (.lst ys) ∧ xs.length + ys.length ≤ sizeLine ∧ ∀ p, h p = none → Q (.ref p) (up h p (.lst (xs ++ ys)))) := rfl
theorem q_sub : rSub (.int i) (.int j) h Q = Q (.int (i - j)) h := rfl
theorem q_mul1 : rMul (.int i) (.int j) h Q = (MulOk i j ∧ Q (.int (i * j)) h) := rfl
theorem q_mul2 : rMul (.ref a) (.int i) h Q = (∃ xs, h a = some (.lst xs) ∧ -(2 ^ 63) ≤ i ∧ i < 2 ^ 63 ∧ xs.length * i.toNat ≤ sizeLine ∧ ∀ p, h p = none → Q (.ref p) (up h p (.lst (List.replicate i.toNat xs).flatten))) := rfl
theorem q_fdiv : rFdiv (.int i) (.int j) h Q = (DivOk j ∧ Q (.int (i / j)) h) := rfl
theorem q_fdivN : rFdivN (.int i) (.int j) h Q = (DivOkN j ∧ Q (.int (i.fdiv j)) h) := rfl
theorem q_mod : rMod (.int i) (.int j) h Q = (0 < j ∧ Q (.int (i % j)) h) := rfl
theorem q_modN : rModN (.int i) (.int j) h Q = (j ≠ 0 ∧ Q (.int (i.fmod j)) h) := rfl
theorem q_pow : rPow (.int i) (.int j) h Q = (CPow i j ∧ Q (.int (i ^ j.toNat)) h) := rfl
theorem q_shl : rShl (.int i) (.int j) h Q = (CPow i j ∧ Q (.int (i * 2 ^ j.toNat)) h) := rfl
theorem q_neg : rNeg (.int i) h Q = Q (.int (-i)) h := rfl
theorem q_lt : rLtI (.int i) (.int j) h Q = Q (.bl (decide (i < j))) h := rfl
theorem q_le : rLeI (.int i) (.int j) h Q = Q (.bl (decide (i ≤ j))) h := rfl
theorem q_gt : rGtI (.int i) (.int j) h Q = Q (.bl (decide (j < i))) h := rfl
theorem q_ge : rGeI (.int i) (.int j) h Q = Q (.bl (decide (j ≤ i))) h := rfl
theorem q_eq1 : rEq (.int i) (.int j) h Q = Q (.bl (decide (i = j))) h := rfl
theorem q_eq2 {d : Bool} : rEq (.bl c) (.bl d) h Q = Q (.bl (decide (c = d))) h := rfl
theorem q_eq3 : rEq (.str s) (.str u) h Q = Q (.bl (decide (s = u))) h := rfl
theorem q_eq4 : rEq .non .non h Q = Q (.bl true) h := rfl
theorem q_eq5 : rEq .non (.int i) h Q = Q (.bl false) h := rfl
theorem q_eq6 : rEq (.int i) .non h Q = Q (.bl false) h := rfl
theorem q_eq7 : rEq (.tup xs) y h Q = rEqD (.tup xs) y h Q := by cases y <;> rfl
theorem q_eq8 : rEq (.ref a) y h Q = rEqD (.ref a) y h Q := by cases y <;> rfl
theorem q_eq9 : rEq (.rl xs) y h Q = rEqD (.rl xs) y h Q := by cases y <;> rfl
theorem q_ne1 : rNe (.int i) (.int j) h Q = Q (.bl (!decide (i = j))) h := rfl
theorem q_ne2 {d : Bool} : rNe (.bl c) (.bl d) h Q = Q (.bl (!decide (c = d))) h := rfl
theorem q_ne3 : rNe (.str s) (.str u) h Q = Q (.bl (!decide (s = u))) h := rfl
theorem q_ne4 : rNe .non .non h Q = Q (.bl false) h := rfl
theorem q_ne5 : rNe .non (.int i) h Q = Q (.bl true) h := rfl
theorem q_ne6 : rNe (.int i) .non h Q = Q (.bl true) h := rfl
theorem q_ne7 : rNe (.tup xs) y h Q = rNeD (.tup xs) y h Q := by cases y <;> rfl
theorem q_ne8 : rNe (.ref a) y h Q = rNeD (.ref a) y h Q := by cases y <;> rfl
theorem q_ne9 : rNe (.rl xs) y h Q = rNeD (.rl xs) y h Q := by cases y <;> rfl
theorem q_iadd : rIAdd (.int i) (.int j) h Q = Q (.int (i + j)) h := rfl
theorem q_ix1 : rIx (.tup xs) (.int i) h Q = (∃ d, atI xs i = some d ∧ Q d h) := rfl
theorem q_ix2 : rIx (.rl xs) (.int i) h Q = (∃ d, atI xs i = some d ∧ Q d h) := rfl
theorem q_ix3 : rIx (.ref a) (.int i) h Q = (∃ ds, h a = some (.lst ds) ∧ ∃ d, atI ds i = some d ∧ Q d h) := rfl
theorem q_ix4 : rIx (.str s) (.int i) h Q = (s.length ≤ sizeLine ∧ ∃ c, atI s.cps.toList i = some c ∧ Q (.str ⟨#[c]⟩) h) := rfl
theorem q_sl1 {lo hi : Option Int} : rSl (.tup xs) lo hi h Q = Q (.tup (cutD xs lo hi)) h := rfl
theorem q_sl2 {lo hi : Option Int} : rSl (.rl xs) lo hi h Q = ∀ p, h p = none → Q (.ref p) (up h p (.lst (cutD xs lo hi))) := rfl
theorem q_sl3 {lo hi : Option Int} : rSl (.ref a) lo hi h Q = (∃ ds, h a = some (.lst ds) ∧ ∀ p, h p = none → Q (.ref p) (up h p (.lst (cutD ds lo hi)))) := rfl
theorem q_len1 : rLen [.tup xs] h Q = Q (.int xs.length) h := rfl
theorem q_len2 : rLen [.rl xs] h Q = Q (.int xs.length) h := rfl
theorem q_len3 : rLen [.ref a] h Q = (∃ ds, h a = some (.lst ds) ∧ Q (.int ds.length) h) := rfl
theorem q_len4 : rLen [.str s] h Q = (s.length ≤ sizeLine ∧ Q (.int s.length) h) := rfl
theorem q_abs : rAbs [.int i] h Q = Q (.int (if i < 0 then -i else i)) h := rfl
theorem q_max2 : rMax2 [.int i, .int j] h Q = Q (.int (if j > i then j else i)) h := rfl
theorem q_min2 : rMin2 [.int i, .int j] h Q = Q (.int (if j < i then j else i)) h := rfl
theorem q_int1 : rInt1 [.int i] h Q = Q (.int i) h := rfl
theorem q_int2 : rInt1 [.bl c] h Q = Q (.int (if c then 1 else 0)) h := rfl
theorem q_tuple1 : rTuple [.tup xs] h Q = Q (.tup xs) h := rfl
theorem q_tuple2 : rTuple [.rl xs] h Q = Q (.tup xs) h := rfl
theorem q_tuple3 : rTuple [.ref a] h Q = (∃ ds, h a = some (.lst ds) ∧ Q (.tup ds) h) := rfl
theorem q_list1 : rList [.tup xs] h Q = ∀ p, h p = none → Q (.ref p) (up h p (.lst xs)) := rfl
theorem q_list2 : rList [.rl xs] h Q = ∀ p, h p = none → Q (.ref p) (up h p (.lst xs)) := rfl
theorem q_list3 : rList [.ref a] h Q = (∃ ds, h a = some (.lst ds) ∧ ∀ p, h p = none → Q (.ref p) (up h p (.lst ds))) := rfl
theorem q_sum : rSum [.ref a] h Q = (∃ ns : List Int, h a = some (.lst (ns.map .int)) ∧ Q (.int ns.sum) h) := rfl
theorem q_all : rAll [.ref a] h Q = (∃ ns : List Bool, h a = some (.lst (ns.map .bl)) ∧ Q (.bl (ns.all id)) h) := rfl
theorem q_any : rAny [.ref a] h Q = (∃ ns : List Bool, h a = some (.lst (ns.map .bl)) ∧ Q (.bl (ns.any id)) h) := rfl
theorem q_maxL : rMaxL [.ref a] h Q = (∃ ns : List Int, h a = some (.lst (ns.map .int)) ∧ 0 < ns.length ∧ ∀ m, m ∈ ns → (∀ y, y ∈ ns → y ≤ m) → Q (.int m) h) := rfl
theorem q_minL : rMinL [.ref a] h Q = (∃ ns : List Int, h a = some (.lst (ns.map .int)) ∧ 0 < ns.length ∧ ∀ m, m ∈ ns → (∀ y, y ∈ ns → m ≤ y) → Q (.int m) h) := rfl
theorem q_sorted : rSorted [.ref a] h Q = (∃ ns : List Int, h a = some (.lst (ns.map .int)) ∧ ∀ (ns' : List Int) p, ns'.Perm ns → ns'.Pairwise (· ≤ ·) → h p = none → Q (.ref p) (up h p (.lst (ns'.map .int)))) := rfl
theorem q_is1 : rIs false x .non h Q = Q (.bl (isN x)) h := rfl
theorem q_is2 : rIs true x .non h Q = Q (.bl (!isN x)) h := rfl
theorem q_is3 : rIs false x (.bl c) h Q = (∃ a, x = .bl a ∧ Q (.bl (decide (a = c))) h) := rfl
theorem q_is4 : rIs true x (.bl c) h Q = (∃ a, x = .bl a ∧ Q (.bl (!decide (a = c))) h) := rfl
theorem q_in1 : rIn false x (.tup ys) h Q = (flatD x = true ∧ ys.all flatD = true ∧ Q (.bl (inF x ys)) h) := rfl
theorem q_in2 : rIn false x (.rl ys) h Q = (flatD x = true ∧ ys.all flatD = true ∧ Q (.bl (inF x ys)) h) := rfl
theorem q_in3 : rIn false x (.ref a) h Q = (∃ ds, h a = some (.lst ds) ∧ flatD x = true ∧ ds.all flatD = true ∧ Q (.bl (inF x ds)) h) := rfl
theorem q_nin1 : rIn true x (.tup ys) h Q = (flatD x = true ∧ ys.all flatD = true ∧ Q (.bl (!inF x ys)) h) := rfl
theorem q_nin2 : rIn true x (.rl ys) h Q = (flatD x = true ∧ ys.all flatD = true ∧ Q (.bl (!inF x ys)) h) := rfl
theorem q_nin3 : rIn true x (.ref a) h Q = (∃ ds, h a = some (.lst ds) ∧ flatD x = true ∧ ds.all flatD = true ∧ Q (.bl (!inF x ds)) h) := rfl
theorem q_setL {q : MH → Prop} : rSetL (.ref a) (.int i) y h q = (∃ ds, h a = some (.lst ds) ∧ ∃ j, ixN ds.length i = some j ∧ q (up h a (.lst (ds.set j y)))) := rfl
theorem q_app : rAppend (.ref a) [y] h Q = (∃ ds, h a = some (.lst ds) ∧ ds.length < sizeLine ∧ Q .non (up h a (.lst (ds ++ [y])))) := rfl
theorem q_ext : rExtend (.ref a) [.ref b] h Q = (∃ ds es, h a = some (.lst ds) ∧ h b = some (.lst es) ∧ ds.length + es.length ≤ sizeLine ∧ Q .non (up h a (.lst (ds ++ es)))) := rfl
theorem q_popAt : rPopAt (.ref a) [.int i] h Q = (∃ ds, h a = some (.lst ds) ∧ 0 ≤ i ∧ i < ds.length ∧ ds.length < 2 ^ 62 ∧ ∃ y, ds[i.toNat]? = some y ∧ Q y (up h a (.lst (ds.eraseIdx i.toNat)))) := rfl
theorem q_pop : rPop (.ref a) [] h Q = (∃ ds, h a = some (.lst ds) ∧ ∃ y, ds[ds.length - 1]? = some y ∧ Q y (up h a (.lst ds.dropLast))) := rfl
theorem q_ty1 : tyD h (.int i) = "int" := rfl
theorem q_ty2 : tyD h (.bl c) = "bool" := rfl
theorem q_ty3 : tyD h .non = "NoneType" := rfl
theorem q_ty4 : tyD h (.str s) = "str" := rfl
theorem q_ty5 : tyD h (.tup xs) = "tuple" := rfl
theorem q_ty6 : tyD h (.rl xs) = "list" := rfl
theorem q_ty7 (e : h a = some (.lst xs)) : tyD h (.ref a) = "list" := by show (match h a with | some (.lst _) => "list" | some (.dK _) => "dict" | some (.dT _) => "dict" | _ => "?") = "list"; rw [e]
theorem q_tym1 : tyM "list" (.ref a) h = ∃ ds, h a = some (.lst ds) := propext ⟨fun ⟨_, b⟩ => b, fun b => ⟨rfl, b⟩⟩
theorem q_isN1 : isN .non = true := rfl
theorem q_isN2 : isN (.int i) = false := rfl
theorem q_isN3 : isN (.tup xs) = false := rfl
theorem q_isN4 : isN (.ref a) = false := rfl
theorem q_isN5 : isN (.bl c) = false := rfl
theorem q_isN6 : isN (.str s) = false := rfl
end
end M

/-! t[::-1] -/
namespace HT
open PySem PySem.Spec PyProof PyProof.Rows
section
variable {prog : Program} {w : World} {A : Around} {E : Value → Shared → Prop} {s : Shared}
theorem places_rev (n : Nat) : Builtin.Slice.slicePlaces ((n : Int) - 1) (-1) (-1) = n := by
  unfold Builtin.Slice.slicePlaces
  have h1 : ¬ ((-1 : Int) > 0) := by omega
  simp only [h1, if_false]
  by_cases h : (n : Int) - 1 > -1
  · rw [if_pos h, show (- -1 : Int) = 1 by decide, Int.ediv_one]; omega
  · rw [if_neg h]; omega
theorem sliceApplied_rev {sl : Addr} {vs : Value} {n : Nat} {Q : Int × Int × Nat → Shared → Prop} (hs : s.heap.IsSliceOf sl .none .none vs) (ps : IsPart vs (some (-1)))
    (h : Q ((n : Int) - 1, -1, n) s) : wpAny (model prog w) A (Builtin.Slice.sliceApplied (.ref sl) (pure (n : Int))) Q E s := by
  obtain ⟨os, hos, hcs, hds⟩ := id hs
  unfold Builtin.Slice.sliceApplied Builtin.Slice.sliceFields
  refine wpAny_bind (wpAny_bind (wpAny_field hos hds (x := .none) rfl (wpAny_bind (wpAny_field hos hds (x := .none) rfl (wpAny_bind (wpAny_field hos hds (x := vs) rfl (wpAny_pure ?_)))))))
  refine wpAny_bind (slicePart_ ps ?_)
  show wpAny _ _ (if ((-1 : Int) == 0) = true then _ else _) _ _ s
  rw [if_neg (by decide)]
  refine wpAny_bind (slicePart_ .none (wpAny_bind (slicePart_ .none (wpAny_bind (wpAny_pure ?_)))))
  show wpAny _ _ (pure (((n : Int) - 1), (-1 : Int), Builtin.Slice.slicePlaces ((n : Int) - 1) (-1) (-1))) _ _ s
  rw [places_rev]
  exact wpAny_pure h
theorem fm_congr {α β : Type} {f g : α → Option β} : ∀ {l : List α}, (∀ x ∈ l, f x = g x) → l.filterMap f = l.filterMap g
  | [], _ => rfl
  | x :: l, h => by rw [List.filterMap_cons, List.filterMap_cons, h x (List.mem_cons_self ..), fm_congr fun y hy => h y (List.mem_cons_of_mem _ hy)]
theorem pick_rev (xs : Array Value) : ((List.range xs.size).filterMap fun (m : Nat) => xs[(((xs.size : Int) - 1) + (m : Int) * (-1)).toNat]?).toArray = xs.toList.reverse.toArray := by
  have e : (List.range xs.size).filterMap (fun (m : Nat) => xs[(((xs.size : Int) - 1) + (m : Int) * (-1)).toNat]?) = (List.range xs.size).filterMap ((fun k => xs[k]?) ∘ fun k => xs.size - 1 - k) := by
    refine fm_congr fun m hm => ?_
    have := List.mem_range.mp hm
    show xs[_]? = xs[xs.size - 1 - m]?
    rw [show (((xs.size : Int) - 1) + (m : Int) * (-1)).toNat = xs.size - 1 - m from by omega]
  rw [e, ← List.filterMap_map, PySem.W.krv_range, List.filterMap_reverse, PySem.W.krv_all]
theorem getItem_tuple_rev {t sl : Addr} {items : Array Value} {vs : Value} {Q : Value → Shared → Prop} (ht : IsTup s.heap t items) (hs : s.heap.IsSliceOf sl .none .none vs) (ps : IsPart vs (some (-1)))
    (h : Q (.ref s.heap.objs.size) { s with heap := s.heap.push { cls := .type "tuple", data := .seq items.toList.reverse.toArray } })
    (hsz : items.size ≤ sizeLine) : wpAny (model prog w) A (getItem (.ref t) (.ref sl)) Q E s := by
  have htake : sizeOk (.seq items.toList.reverse.toArray) := by
    show items.toList.reverse.toArray.size ≤ sizeLine
    rw [List.size_toArray, List.length_reverse, Array.length_toList]
    omega
  obtain ⟨os, hos, hcs, hds⟩ := id hs
  have hTs : s.TypeIs (.ref sl) "slice" := ⟨os, hos, hcs⟩
  unfold getItem
  try with_reducible refine wpAny_holding ?_
  first | refine wpAny_bind (wpAny_pure ?_) | skip
  refine wpAny_bind (wpAny_sequenceKey ht.typeIs (by decide) ?_)
  refine wpAny_bind (wpAny_callSpecial?_slot (name := Str.ofString "__getitem__") ht.typeIs PyProof.Rows.slot_tuple_getitem
    (wpAny_call_entry PyProof.Rows.slot_tuple_getitem ht.typeIs entry_tuple_getitem ?_ (args_tuple_getitem _ _)))
  show wpAny _ _ (Builtin.Tuple.tupleItemsOf (.ref t) >>= _) _ _ s
  refine wpAny_bind (tupleItemsOf_ ht ?_)
  refine wpAny_bind (wpAny_typeOf hTs ?_)
  rw [if_pos (by decide)]
  refine wpAny_bind (sliceApplied_rev hs ps ?_)
  have hno : ¬ ((((items.size : Int) - 1) == 0 && (-1 : Int) == 1 && items.size == items.size) = true) := by
    intro q
    rw [Bool.and_eq_true, Bool.and_eq_true] at q
    exact absurd (eq_of_beq q.1.2) (by decide)
  show wpAny _ _ (if (((items.size : Int) - 1) == 0 && (-1 : Int) == 1 && items.size == items.size) = true then _ else _) _ _ s
  rw [if_neg hno, pick_rev]
  first
    | exact wpAny_bind (m := Builtin.Tuple.tupleExact _) (wpAny_newObj_type (wpAny_pure ⟨_, rfl, wpAny_pure h⟩) htake)
    | exact wpAny_bind (m := Builtin.Tuple.tupleExact _) (wpAny_newObj_type (wpAny_bind (wpAny_pure (wpAny_pure ⟨_, rfl, wpAny_pure h⟩))) htake)
    | exact wpAny_bind (wpAny_bind (m := Builtin.Tuple.tupleExact _) (wpAny_newObj_type (wpAny_pure (wpAny_pure ⟨_, rfl, wpAny_pure h⟩)) htake))
    | exact wpAny_bind (wpAny_bind (m := Builtin.Tuple.tupleExact _) (wpAny_newObj_type (wpAny_pure ⟨_, rfl, wpAny_pure h⟩) htake))
end
end HT

namespace L2
open PySem PySem.Spec PyProof PyProof.Rows
/-- xs[::e], e being 1 or -1: a list, or with -1 a tuple -/
def rStepL (K : PySem.W.Frag) (x : V) (o : Option Int) (H2 : Hp) (Q : VK) : Prop :=
  (∃ a xs, x = .ref a ∧ SqL K H2 a xs ∧ ((o = some (-1) ∧ ∀ p, H2 p = none → Q (.ref p) (upd H2 p (.lst xs.reverse))) ∨ (o = some 1 ∧ ∀ p, H2 p = none → Q (.ref p) (upd H2 p (.lst xs))))) ∨
  (∃ a xs, x = .ref a ∧ SqT K H2 a xs ∧ o = some (-1) ∧ ∀ p od, H2 p = none → od.dict = none → Q (.ref p) (upd H2 p (.frz od (.tup xs.reverse))))
def tStep (K : PySem.W.Frag) (te ts : TE) : TE := fun σ H Q => te σ H fun x H1 => tPart ts σ H1 fun o H2 => rStepL K x o H2 Q
theorem pick_one (items : Array Value) : slicePick items none none (some 1) = items := by
  have e : slicePick items none none (some 1) = ((List.range items.size).filterMap (items[·]?)).toArray := by
    unfold slicePick
    have hb : sliceBounds none none (some 1) items.size = (0, (items.size : Int), 1) := by first | rfl | simp [sliceBounds]
    rw [hb]
    have hr : sliceRange 0 (items.size : Int) 1 = List.range items.size := by
      unfold sliceRange
      have h1 : ((1 : Int) > 0) := by decide
      simp only [h1, if_true]
      have e : (if (0 : Int) < items.size then ((items.size : Int) - 0 + 1 - 1) / 1 else 0).toNat = items.size := by
        split
        · rw [Int.ediv_one]; omega
        · omega
      simp [e]
      congr 1
      split <;> omega
    rw [hr]
  rw [e, PySem.W.krv_all]
theorem pe_step {X : Cx} {e se : Expr} {te ts : TE} {p3 pos : Pos} (he : PE X e te) (hse : PE X se ts) : PE X (.Subscript e (.Slice none none (some se) p3) pos) (tStep X.K te ts) := by
  refine ⟨fun pins s σ H Q I h => ?_⟩
  refine Subscript_ (thn (he.run pins s σ H _ I h) fun v s1 ⟨x, H1, I1, r1, q1⟩ => ?_)
  have hst : PO X (some se) (tPart ts) := po_some hse
  refine wpAny_Slice (thn (po_none.run pins s1 σ H1 (fun o H2 => o = none ∧ H2 = H1) I1 ⟨rfl, rfl⟩) fun vl s2 ⟨l, H2, I2, pl, el, e2⟩ => ?_)
  subst el e2
  refine thn (po_none.run pins s2 σ H2 (fun o H3 => o = none ∧ H3 = H2) I2 ⟨rfl, rfl⟩) fun vu s3 ⟨u, H3, I3, pu, eu, e3⟩ => ?_
  subst eu e3
  refine thn (hst.run pins s3 σ H3 _ I3 q1) fun vs s4 ⟨o, H4, I4, ps, hq⟩ => ?_
  have I5 : Inv X pins σ H4 { s4 with heap := s4.heap.push { cls := .type "slice", data := .fields #[vl, vu, vs] } } := I4.kept (t' := s4.toks) fun b ob q => Heap.get?_push_of_some _ q
  rcases hq with ⟨a, xs, rfl, hx, hq⟩ | ⟨a, xs, rfl, hx, rfl, q⟩
  · cases r1
    obtain ⟨its, r, ht, hz⟩ := I5.list hx
    have hlen := r.length
    refine tail_any (ops := [.ref a, .ref s4.heap.objs.size]) ht.isList.typeIs (PySem.slot_list_getitem.lookup) ?_ (by with_unfolding_all rfl)
    rcases hq with ⟨rfl, q⟩ | ⟨rfl, q⟩
    · refine wpAny_getItem_list_slice ht.isList (Heap.IsSliceOf.new _ vl vu vs) pl pu ps (by decide) ?_ (by rw [List.size_toArray]; omega)
      rw [PySem.W.krv_pick]
      refine ⟨.ref _, _, I5.laid (t' := s4.toks) (o := .lst xs.reverse) (fun b ob q => Heap.get?_push_of_some _ q) (Nat.le_refl _) ?_, rfl, q _ (I5.hok.fresh (Nat.le_refl _))⟩
      exact ⟨by rw [List.length_reverse]; exact hz, _, 0, r.reverse, Heap.get?_push_size _ rfl⟩
    · refine wpAny_getItem_list_slice ht.isList (Heap.IsSliceOf.new _ vl vu vs) pl pu ps (by decide) ?_ (by rw [List.size_toArray]; omega)
      rw [pick_one]
      refine ⟨.ref _, _, I5.laid (t' := s4.toks) (o := .lst xs) (fun b ob q => Heap.get?_push_of_some _ q) (Nat.le_refl _) ?_, rfl, q _ (I5.hok.fresh (Nat.le_refl _))⟩
      exact ⟨hz, _, 0, r, Heap.get?_push_size _ rfl⟩
  · cases r1
    obtain ⟨its, r, ht, hz⟩ := I5.tuple hx
    have hlen := r.length
    refine tail_any (ops := [.ref a, .ref s4.heap.objs.size]) ht.typeIs PyProof.Rows.slot_tuple_getitem.lookup ?_ (by with_unfolding_all rfl)
    cases pl
    cases pu
    refine HT.getItem_tuple_rev ht (Heap.IsSliceOf.new _ _ _ vs) ps ?_ (by rw [List.size_toArray]; omega)
    exact ⟨.ref _, _, I5.laid (t' := s4.toks) (fun b ob q => Heap.get?_push_of_some _ q) (Nat.le_refl _) (M.okN (by rw [List.length_reverse]; exact hz) r.reverse), rfl, q _ _ (I5.hok.fresh (Nat.le_refl _)) rfl⟩
end L2
namespace M
open PySem L2
def rStep : MR2 := fun x y h2 Q => match x, y with
  | .rl ds, .int i => (i = -1 ∨ i = 1) ∧ ∀ p, h2 p = none → Q (.ref p) (up h2 p (.lst (if i = -1 then ds.reverse else ds)))
  | .ref a, .int i => (i = -1 ∨ i = 1) ∧ ∃ ds, h2 a = some (.lst ds) ∧ ∀ p, h2 p = none → Q (.ref p) (up h2 p (.lst (if i = -1 then ds.reverse else ds)))
  | .tup ds, .int i => i = -1 ∧ Q (.tup ds.reverse) h2
  | _, _ => False
theorem q_step1 {xs : List D} {h : MH} {Q : MQ} : rStep (.tup xs) (.int (-1)) h Q = Q (.tup xs.reverse) h := propext ⟨fun q => q.2, fun q => ⟨rfl, q⟩⟩
theorem q_step2 {a : Addr} {h : MH} {Q : MQ} : rStep (.ref a) (.int (-1)) h Q = (∃ ds, h a = some (.lst ds) ∧ ∀ p, h p = none → Q (.ref p) (up h p (.lst ds.reverse))) := propext ⟨fun q => q.2, fun q => ⟨.inl rfl, q⟩⟩
section
variable {X : Cx} {Hb : Hp} {e se : Expr} {me ms : MTE} {pos p3 : Pos}
theorem ie_step (he : IE X Hb e me) (hs : IE X Hb se ms) : IE X Hb (.Subscript e (.Slice none none (some se) p3) pos) (mOp rStep me ms) := by
  refine pe_w (pe_step he hs) fun σ H Q ⟨env, h, Q0, re, rh, m, f⟩ => ?_
  refine ⟨env, h, _, re, rh, m, fun x h1 q1 vx H1 t1 r1 rx => ?_⟩
  refine ⟨env, h1, _, re.mono t1, r1, q1, fun y h2 q vy H2 t2 r2 ry => ?_⟩
  have f1 := Fin.mono (t1.trans t2) f
  have rx2 := rx.mono t2
  cases x <;> cases y <;> first | exact q.elim | skip
  · obtain ⟨rfl, q⟩ := q
    obtain ⟨a, vs, rfl, ta, rs⟩ := rx2.tup
    rw [ry.int]
    exact ⟨_, rfl, .inr ⟨a, vs, rfl, ta, rfl, fun p od np nd => f1 _ _ q _ _ (.new np) (r2.skip np) (rv_tup (.of upd_same nd) (rs.reverse.mono (.new np)))⟩⟩
  · obtain ⟨hi, q⟩ := q
    obtain ⟨a, vs, rfl, ta, rs⟩ := rx2.rl
    rw [ry.int]
    refine ⟨_, rfl, .inl ⟨a, vs, rfl, ta.l, ?_⟩⟩
    rcases hi with rfl | rfl
    · exact .inl ⟨rfl, fun p np => f1 _ _ (q p (r2.free np)) _ _ (.new np) (r2.new np (ro_lst rs.reverse)) rv_ref⟩
    · exact .inr ⟨rfl, fun p np => f1 _ _ (q p (r2.free np)) _ _ (.new np) (r2.new np (ro_lst rs)) rv_ref⟩
  · obtain ⟨hi, ds, e, q⟩ := q
    rw [rx2.ref, ry.int]
    obtain ⟨vs, E, rs⟩ := r2.lst e
    refine ⟨_, rfl, .inl ⟨_, vs, rfl, .of E, ?_⟩⟩
    rcases hi with rfl | rfl
    · exact .inl ⟨rfl, fun p np => f1 _ _ (q p (r2.free np)) _ _ (.new np) (r2.new np (ro_lst rs.reverse)) rv_ref⟩
    · exact .inr ⟨rfl, fun p np => f1 _ _ (q p (r2.free np)) _ _ (.new np) (r2.new np (ro_lst rs)) rv_ref⟩
end
end M

namespace M
open PySem L2
/-! ### lists and tuples of ints compared -/
theorem dps_ints {h : MH} : ∀ xs : List Int, DPs h (xs.map .int) (xs.map PyData.int)
  | [] => .nil
  | x :: xs => .cons (.int x) (dps_ints xs)
theorem canLay_ints : ∀ xs : List Int, PyData.canLayAll0 (xs.map PyData.int) = true
  | [] => rfl
  | x :: xs => by
    rw [List.map_cons, PyData.canLayAll0, canLay_ints xs]
    rfl
theorem depth_ints : ∀ xs : List Int, PyData.depthAll (xs.map PyData.int) = 0
  | [] => rfl
  | x :: xs => by
    rw [List.map_cons, PyData.depthAll, depth_ints xs]
    rfl
theorem shaped_list (xs : List Int) : SeqAt.shaped (.list (xs.map PyData.int)) = true := by
  unfold SeqAt.shaped
  rw [Bool.and_eq_true, decide_eq_true_eq]
  refine ⟨by rw [PyData.canLay0]; exact canLay_ints xs, ?_⟩
  rw [PyData.depth, depth_ints]; decide
theorem shaped_tup (xs : List Int) : SeqAt.shaped (.tuple (xs.map PyData.int)) = true := by
  unfold SeqAt.shaped
  rw [Bool.and_eq_true, decide_eq_true_eq]
  refine ⟨by rw [PyData.canLay0]; exact canLay_ints xs, ?_⟩
  rw [PyData.depth, depth_ints]; decide
theorem eqvAll_ints : ∀ xs ys : List Int, PyData.eqvAll (xs.map PyData.int) (ys.map PyData.int) = decide (xs = ys)
  | [], [] => by simp [PyData.eqvAll]
  | [], _ :: _ => by simp [PyData.eqvAll]
  | _ :: _, [] => by simp [PyData.eqvAll]
  | x :: xs, y :: ys => by
    rw [List.map_cons, List.map_cons, PyData.eqvAll, eqvAll_ints xs ys, PyData.eqv, show (x == y) = decide (x = y) from rfl, ← Bool.decide_and]
    exact decide_eq_decide.mpr (by rw [List.cons.injEq])
theorem eqv_list (xs ys : List Int) : PyData.eqv (.list (xs.map PyData.int)) (.list (ys.map PyData.int)) = decide (xs = ys) := by rw [PyData.eqv, eqvAll_ints]
theorem eqv_tup (xs ys : List Int) : PyData.eqv (.tuple (xs.map PyData.int)) (.tuple (ys.map PyData.int)) = decide (xs = ys) := by rw [PyData.eqv, eqvAll_ints]
section
variable {h : MH} {Q : MQ} {a b : Addr} {xs ys : List Int}
theorem eqD_tt (q : Q (.bl (decide (xs = ys))) h) : rEqD (.tup (xs.map .int)) (.tup (ys.map .int)) h Q := ⟨_, _, .tup (dps_ints xs), .tup (dps_ints ys), shaped_tup xs, shaped_tup ys, by rw [eqv_tup]; exact q⟩
theorem neD_tt (q : Q (.bl (!decide (xs = ys))) h) : rNeD (.tup (xs.map .int)) (.tup (ys.map .int)) h Q := ⟨_, _, .tup (dps_ints xs), .tup (dps_ints ys), shaped_tup xs, shaped_tup ys, by rw [eqv_tup]; exact q⟩
theorem eqD_ll (ea : h a = some (.lst (xs.map .int))) (eb : h b = some (.lst (ys.map .int))) (q : Q (.bl (decide (xs = ys))) h) : rEqD (.ref a) (.ref b) h Q := ⟨_, _, .lst ea (dps_ints xs), .lst eb (dps_ints ys), shaped_list xs, shaped_list ys, by rw [eqv_list]; exact q⟩
theorem neD_ll (ea : h a = some (.lst (xs.map .int))) (eb : h b = some (.lst (ys.map .int))) (q : Q (.bl (!decide (xs = ys))) h) : rNeD (.ref a) (.ref b) h Q := ⟨_, _, .lst ea (dps_ints xs), .lst eb (dps_ints ys), shaped_list xs, shaped_list ys, by rw [eqv_list]; exact q⟩
end
/-! ### as many unlike ones among fewer -/
theorem nodup_le {α : Type} [DecidableEq α] : ∀ {xs ys : List α}, xs.Nodup → (∀ x ∈ xs, x ∈ ys) → xs.length ≤ ys.length
  | [], _, _, _ => Nat.zero_le _
  | x :: xs, ys, hn, hs => by
    have hx := hs x (List.mem_cons_self ..)
    have h2 := nodup_le (ys := ys.erase x) (List.nodup_cons.mp hn).2 fun y hy => (List.mem_erase_of_ne (fun e : y = x => (List.nodup_cons.mp hn).1 (by rw [← e]; exact hy))).mpr (hs y (List.mem_cons_of_mem _ hy))
    rw [List.length_erase_of_mem hx] at h2
    have := List.length_pos_of_mem hx
    rw [List.length_cons]; omega
/-- from c on, one of the first length + 1 steps round m comes to what is not there -/
theorem free_step {ys : List Int} {m c : Int} (hm : (ys.length : Int) < m) : ∃ j : Nat, j ≤ ys.length ∧ (c + j) % m ∉ ys := by
  apply Classical.byContradiction
  intro hno
  have h1 : ∀ j : Nat, j ≤ ys.length → (c + j) % m ∈ ys := fun j hj => Classical.byContradiction fun h => hno ⟨j, hj, h⟩
  have h2 : ((List.range (ys.length + 1)).map fun j : Nat => (c + j) % m).Nodup := by
    rw [List.nodup_iff_pairwise_ne, List.pairwise_map]
    refine List.Pairwise.imp_of_mem ?_ (List.nodup_range (n := ys.length + 1))
    intro a b ha hb hne e
    have ha := List.mem_range.mp ha
    have hb := List.mem_range.mp hb
    have e2 : ((c + a) - (c + b)) % m = 0 := Int.emod_eq_emod_iff_emod_sub_eq_zero.mp e
    have e3 : m ∣ ((a : Int) - b) := by
      have := Int.dvd_of_emod_eq_zero e2
      rwa [show (c + (a : Int)) - (c + b) = (a : Int) - b from by omega] at this
    obtain ⟨q, hq⟩ := e3
    have : q = 0 := by
      apply Classical.byContradiction
      intro hq0
      have : m ≤ (m * q).natAbs := by
        rw [Int.natAbs_mul]
        have h3 : 1 ≤ q.natAbs := by omega
        have h4 : m.natAbs * 1 ≤ m.natAbs * q.natAbs := Nat.mul_le_mul_left _ h3
        omega
      omega
    subst this
    rw [Int.mul_zero] at hq
    exact hne (by omega)
  have h3 := nodup_le h2 (ys := ys) fun x hx => by
    obtain ⟨j, hj, rfl⟩ := List.mem_map.mp hx
    exact h1 j (by have := List.mem_range.mp hj; omega)
  rw [List.length_map, List.length_range] at h3
  omega
end M

/-! max, min of a tuple of ints -/
namespace L2
open PySem PySem.Spec PyProof PyProof.Rows
section
variable {prog : Program} {w : World} {A : Around} {E : Value → Shared → Prop} {s : Shared} {l : Addr} {its : List Value} {ns : List Int} {Q : Value → Shared → Prop}
theorem iter_intTup {xs : Array (Int × Tok)} {Q : Value → Shared → Prop} (hl : s.heap.IsTuple l (intItems xs))
    (h : ∀ s₂ : Shared, s₂ = { s with heap := s.heap.push { cls := .type "tuple_iterator", data := .fields #[.ref l, .int 0 0] } } →
      (s₂.heap.IsTupleIter s.heap.objs.size l 0 ∧ s₂.heap.IsTuple l (intItems xs)) → (∀ b ∈ [s.heap.objs.size, l], b < s₂.heap.objs.size) → l ≠ s.heap.objs.size → Q (.ref s.heap.objs.size) s₂) :
    wpAny (model prog w) A (pyIter (.ref l)) Q E s := by
  have hlt : l < s.heap.objs.size := by obtain ⟨_, e, _⟩ := hl; exact Heap.lt_size e
  refine wpAny_pyIter_tuple hl (h _ rfl ⟨⟨_, Heap.get?_push_size _ rfl, rfl, rfl⟩, ?_⟩ (fun b hb => ?_) (Nat.ne_of_lt hlt))
  · obtain ⟨o, e, r⟩ := hl
    exact ⟨o, Heap.get?_push_of_some _ e, r⟩
  · show b < (s.heap.push _).objs.size
    rw [Heap.size_push]
    simp only [List.mem_cons, List.not_mem_nil, or_false] at hb
    rcases hb with e | e
    · rw [e]; exact Nat.lt_succ_self _
    · rw [e]; exact Nat.lt_succ_of_lt hlt
theorem maxT_raw (hh : A.handled = none) (hl : s.heap.IsTuple l its.toArray) (hi : IntsAre its ns) (hne : 0 < ns.length)
    (h : ∀ h' tk M t', (∀ b o, s.heap.get? b = some o → h'.get? b = some o) → M ∈ ns → (∀ a, a ∈ ns → a ≤ M) → Q (.int M t') { s with heap := h', toks := tk }) : wpAny (model prog w) A (call (.builtin "max") [.ref l]) Q E s := by
  obtain ⟨xs, e⟩ := hi.allInts.items
  have hn : numsOf (intItems xs).toList = ns := by rw [← e]; exact hi.numsOf
  rw [nums_intItems] at hn
  subst hn
  rw [e] at hl
  have hsz : 0 < xs.size := by simpa using hne
  refine call_max_walk (iter_intTup hl fun s₂ e st hfp hlI => ?_)
  subst e
  refine ⟨_, _, _, _, _, _, _, rfl, Walks.tuple (A := A.in1) hh _ l hlI (intItems xs), st, hfp, by simpa [intItems] using hsz, CmpOf.ints_gt (numAt xs) (fun _ _ => intItems_at), fun v h' tk hP hk => ?_⟩
  have hv : (intItems xs)[argBest (fun i j => decide (numAt xs i > numAt xs j)) (xs.size - 1)]? = some v := by simpa [intItems] using hP
  obtain ⟨t, rfl⟩ := intItems_at hv
  obtain ⟨h1, h2⟩ := argBest_gt (numAt xs) (xs.size - 1)
  refine h h' tk _ t (fun b o e => hk b o (fun z => Nat.lt_irrefl _ (by have := Heap.lt_size e; rw [List.mem_singleton.mp z] at this; exact this)) (Heap.get?_push_of_some _ e)) ?_ fun a ha => ?_
  · rw [numAt_eq]; exact PySem.getD_mem (by rw [List.length_map, Array.length_toList]; omega)
  · obtain ⟨j, hj, rfl⟩ := mem_getD ha
    rw [List.length_map, Array.length_toList] at hj
    rw [← numAt_eq]; exact h2 j (by omega)
theorem minT_raw (hh : A.handled = none) (hl : s.heap.IsTuple l its.toArray) (hi : IntsAre its ns) (hne : 0 < ns.length)
    (h : ∀ h' tk M t', (∀ b o, s.heap.get? b = some o → h'.get? b = some o) → M ∈ ns → (∀ a, a ∈ ns → M ≤ a) → Q (.int M t') { s with heap := h', toks := tk }) : wpAny (model prog w) A (call (.builtin "min") [.ref l]) Q E s := by
  obtain ⟨xs, e⟩ := hi.allInts.items
  have hn : numsOf (intItems xs).toList = ns := by rw [← e]; exact hi.numsOf
  rw [nums_intItems] at hn
  subst hn
  rw [e] at hl
  have hsz : 0 < xs.size := by simpa using hne
  refine call_min_walk (iter_intTup hl fun s₂ e st hfp hlI => ?_)
  subst e
  refine ⟨_, _, _, _, _, _, _, rfl, Walks.tuple (A := A.in1) hh _ l hlI (intItems xs), st, hfp, by simpa [intItems] using hsz, CmpOf.ints_lt (numAt xs) (fun _ _ => intItems_at), fun v h' tk hP hk => ?_⟩
  have hv : (intItems xs)[argBest (fun i j => decide (numAt xs i < numAt xs j)) (xs.size - 1)]? = some v := by simpa [intItems] using hP
  obtain ⟨t, rfl⟩ := intItems_at hv
  obtain ⟨h1, h2⟩ := argBest_lt (numAt xs) (xs.size - 1)
  refine h h' tk _ t (fun b o e => hk b o (fun z => Nat.lt_irrefl _ (by have := Heap.lt_size e; rw [List.mem_singleton.mp z] at this; exact this)) (Heap.get?_push_of_some _ e)) ?_ fun a ha => ?_
  · rw [numAt_eq]; exact PySem.getD_mem (by rw [List.length_map, Array.length_toList]; omega)
  · obtain ⟨j, hj, rfl⟩ := mem_getD ha
    rw [List.length_map, Array.length_toList] at hj
    rw [← numAt_eq]; exact h2 j (by omega)
end
section
variable {X : Cx}
def rMaxT (K : PySem.W.Frag) : List V → Hp → VK → Prop := fun vs H Q => ∃ (a : Addr) (ns : List Int), vs = [V.ref a] ∧ SqT K H a (ns.map V.int) ∧ 0 < ns.length ∧ ∀ m, m ∈ ns → (∀ y, y ∈ ns → y ≤ m) → Q (.int m) H
def rMinT (K : PySem.W.Frag) : List V → Hp → VK → Prop := fun vs H Q => ∃ (a : Addr) (ns : List Int), vs = [V.ref a] ∧ SqT K H a (ns.map V.int) ∧ 0 < ns.length ∧ ∀ m, m ∈ ns → (∀ y, y ∈ ns → m ≤ y) → Q (.int m) H
theorem cr_maxT (hc : X.calm = true) : CallR X (.builtin "max") (rMaxT X.K) := by
  intro pins s σ H vs us Q I r h
  obtain ⟨a, ns, rfl, hs, hne, q⟩ := h
  obtain ⟨its, rv, hl, _⟩ := I.tuple hs
  rw [Vals.ref1 r]
  exact maxT_raw (I.ok.hd hc) (show s.heap.IsTuple a its.toArray from hl) rv.ints hne fun h' tk m t' hk h1 h2 => ⟨.int _, H, I.kept hk, ⟨_, rfl⟩, q m h1 h2⟩
theorem cr_minT (hc : X.calm = true) : CallR X (.builtin "min") (rMinT X.K) := by
  intro pins s σ H vs us Q I r h
  obtain ⟨a, ns, rfl, hs, hne, q⟩ := h
  obtain ⟨its, rv, hl, _⟩ := I.tuple hs
  rw [Vals.ref1 r]
  exact minT_raw (I.ok.hd hc) (show s.heap.IsTuple a its.toArray from hl) rv.ints hne fun h' tk m t' hk h1 h2 => ⟨.int _, H, I.kept hk, ⟨_, rfl⟩, q m h1 h2⟩
end
end L2
namespace M
open PySem L2
/-- max(xs), min(xs) of ints: a list or a tuple -/
def rMaxA : MRA := fun xs h Q => match xs with
  | [.ref a] => ∃ ns : List Int, h a = some (.lst (ns.map .int)) ∧ 0 < ns.length ∧ ∀ m, m ∈ ns → (∀ y, y ∈ ns → y ≤ m) → Q (.int m) h
  | [.tup ds] => ∃ ns : List Int, ds = ns.map .int ∧ 0 < ns.length ∧ ∀ m, m ∈ ns → (∀ y, y ∈ ns → y ≤ m) → Q (.int m) h
  | _ => False
def rMinA : MRA := fun xs h Q => match xs with
  | [.ref a] => ∃ ns : List Int, h a = some (.lst (ns.map .int)) ∧ 0 < ns.length ∧ ∀ m, m ∈ ns → (∀ y, y ∈ ns → m ≤ y) → Q (.int m) h
  | [.tup ds] => ∃ ns : List Int, ds = ns.map .int ∧ 0 < ns.length ∧ ∀ m, m ∈ ns → (∀ y, y ∈ ns → m ≤ y) → Q (.int m) h
  | _ => False
section
variable {X : Cx}
theorem cm_maxA (hc : X.calm = true) : CaM X (.builtin "max") rMaxA := by
  refine ⟨_, (cr_max hc).or (cr_maxT hc), fun xs h Q0 vs H Q q rh rs f => ?_⟩
  unfold rMaxA at q
  split at q
  · obtain ⟨v, rfl, rx⟩ := rs.one
    rw [rx.ref]
    obtain ⟨ns, e, l, q⟩ := q
    obtain ⟨vs, E, rs⟩ := rh.lst e
    rw [rs.ints] at E
    exact .inl ⟨_, ns, rfl, .of E, l, fun m h1 h2 => fin_at f (q m h1 h2) rh rv_int⟩
  · obtain ⟨v, rfl, rx⟩ := rs.one
    obtain ⟨ns, rfl, l, q⟩ := q
    obtain ⟨a, vs, rfl, ta, rs⟩ := rx.tup
    rw [rs.ints] at ta
    exact .inr ⟨a, ns, rfl, ta, l, fun m h1 h2 => fin_at f (q m h1 h2) rh rv_int⟩
  · exact q.elim
theorem cm_minA (hc : X.calm = true) : CaM X (.builtin "min") rMinA := by
  refine ⟨_, (cr_min hc).or (cr_minT hc), fun xs h Q0 vs H Q q rh rs f => ?_⟩
  unfold rMinA at q
  split at q
  · obtain ⟨v, rfl, rx⟩ := rs.one
    rw [rx.ref]
    obtain ⟨ns, e, l, q⟩ := q
    obtain ⟨vs, E, rs⟩ := rh.lst e
    rw [rs.ints] at E
    exact .inl ⟨_, ns, rfl, .of E, l, fun m h1 h2 => fin_at f (q m h1 h2) rh rv_int⟩
  · obtain ⟨v, rfl, rx⟩ := rs.one
    obtain ⟨ns, rfl, l, q⟩ := q
    obtain ⟨a, vs, rfl, ta, rs⟩ := rx.tup
    rw [rs.ints] at ta
    exact .inr ⟨a, ns, rfl, ta, l, fun m h1 h2 => fin_at f (q m h1 h2) rh rv_int⟩
  · exact q.elim
section
variable {i j : Int} {h : MH} {Q : MQ} {a : Addr} {xs : List D}
theorem q_maxA1 : rMaxA [.ref a] h Q = (∃ ns : List Int, h a = some (.lst (ns.map .int)) ∧ 0 < ns.length ∧ ∀ m, m ∈ ns → (∀ y, y ∈ ns → y ≤ m) → Q (.int m) h) := rfl
theorem q_maxA2 : rMaxA [.tup xs] h Q = (∃ ns : List Int, xs = ns.map .int ∧ 0 < ns.length ∧ ∀ m, m ∈ ns → (∀ y, y ∈ ns → y ≤ m) → Q (.int m) h) := rfl
theorem q_minA1 : rMinA [.ref a] h Q = (∃ ns : List Int, h a = some (.lst (ns.map .int)) ∧ 0 < ns.length ∧ ∀ m, m ∈ ns → (∀ y, y ∈ ns → m ≤ y) → Q (.int m) h) := rfl
theorem q_minA2 : rMinA [.tup xs] h Q = (∃ ns : List Int, xs = ns.map .int ∧ 0 < ns.length ∧ ∀ m, m ∈ ns → (∀ y, y ∈ ns → m ≤ y) → Q (.int m) h) := rfl
end
end
end M

namespace M
open PySem L2
/-! ### dicts made -/
def mDisp0 : MTE := fun _ h Q => ∀ p, h p = none → Q (.ref p) (up h p (.dK []))
def mDisp1 (k : Key) (d : D) : MTE := fun _ h Q => ∀ p, h p = none → Q (.ref p) (up h p (.dK [(k, d)]))
section
variable {X : Cx} {Hb : Hp} {pos : Pos}
theorem ie_disp0 : IE X Hb (.Dict [] [] pos) mDisp0 := by
  refine pe_w pe_dnewK fun σ H Q ⟨env, h, Q0, re, rh, m, f⟩ => fun p np => ?_
  exact f _ _ (m p (rh.free np)) _ _ (.new np) (rh.new np ⟨[], rfl, rfl, .nil⟩) rv_ref
theorem ie_disp1 {i : Int} {j : Nat} {kp : Pos} {v : Expr} {t : V} {d : D} (hv : PE X v (tC t)) (r : ∀ H, RV X.K H d t) : IE X Hb (.Dict [some (.Constant (.int i) j kp)] [v] pos) (mDisp1 (.inl i) d) := by
  refine pe_w (pe_disp (pps_cons pe_int hv pps_nil) rfl rfl (by simp) (by simp)) fun σ H Q ⟨env, h, Q0, re, rh, m, f⟩ => fun p np => ?_
  refine ⟨upd_same, [(.inl i, t)], rfl, Nat.le_of_ble_eq_true rfl, ?_⟩
  have e : upd (upd H p (.dK [])) p (.dK (mergeK [] [(Sum.inl i, t)])) = upd H p (.dK [(Sum.inl i, t)]) := by
    funext b
    unfold upd
    split <;> rfl
  rw [e]
  exact f _ _ (m p (rh.free np)) _ _ (.new np) (rh.new np ⟨[(.inl i, t)], rfl, rfl, .cons (r H) .nil⟩) rv_ref
theorem ie_disp1b {i : Int} {j j2 : Nat} {kp vp : Pos} {b : Bool} : IE X Hb (.Dict [some (.Constant (.int i) j kp)] [.Constant (.bool b) j2 vp] pos) (mDisp1 (.inl i) (.bl b)) := ie_disp1 pe_bl fun _ => rv_bl
theorem ie_disp1i {i v : Int} {j j2 : Nat} {kp vp : Pos} : IE X Hb (.Dict [some (.Constant (.int i) j kp)] [.Constant (.int v) j2 vp] pos) (mDisp1 (.inl i) (.int v)) := ie_disp1 pe_int fun _ => rv_int
theorem q_ty8 {h : MH} {a : Addr} {kv : List (Key × D)} (e : h a = some (.dK kv)) : tyD h (.ref a) = "dict" := by show (match h a with | some (.lst _) => "list" | some (.dK _) => "dict" | some (.dT _) => "dict" | _ => "?") = "dict"; rw [e]
end
end M

/-! max of a list of tuples of ints -/
namespace L2
open PySem PySem.Spec PyProof PyProof.Rows PySem.SeqAt PySem.W
theorem argBest_all {lt : Nat → Nat → Prop} (bt : Nat → Nat → Bool) (hb : ∀ i j, bt i j = true ↔ lt j i) (irr : ∀ i, ¬ lt i i) (tr : ∀ i j k, lt i j → lt j k → lt i k) : ∀ k, argBest bt k ≤ k ∧ ∀ j, j ≤ k → ¬ lt (argBest bt k) j
  | 0 => ⟨Nat.le_refl _, fun j hj => by
    have : j = 0 := by omega
    subst this; exact irr _⟩
  | k + 1 => by
    obtain ⟨h1, h2⟩ := argBest_all bt hb irr tr k
    unfold argBest
    by_cases c : bt (k + 1) (argBest bt k) = true
    · rw [if_pos c]
      refine ⟨Nat.le_refl _, fun j hj => ?_⟩
      by_cases e : j = k + 1
      · subst e; exact irr _
      · exact fun z => h2 j (by omega) (tr _ _ _ ((hb _ _).mp c) z)
    · rw [if_neg c]
      refine ⟨by omega, fun j hj => ?_⟩
      by_cases e : j = k + 1
      · subst e; exact fun z => c ((hb _ _).mpr z)
      · exact h2 j (by omega)

theorem alike_ints : ∀ xs ys : List Int, alikeAll (xs.map PyData.int) (ys.map PyData.int) = true
  | [], _ => by rw [List.map_nil, alikeAll]
  | _ :: _, [] => by rw [List.map_nil, List.map_cons, alikeAll]
  | x :: xs, y :: ys => by rw [List.map_cons, List.map_cons, alikeAll, alike_ints xs ys]; rfl
abbrev tuD (xs : List Int) : PyData := .tuple (xs.map .int)
theorem dlt_tup (xs ys : List Int) : dataLt (tuD xs) (tuD ys) = decide (xs < ys) := by
  rw [dataLt_tuple]
  exact dataLt_ints xs ys
theorem depth_tup (xs : List Int) : (tuD xs).depth ≤ 1 := by
  rw [PyData.depth, M.depth_ints]; decide
section
variable {X : Cx}
theorem dpAll_get {K : PySem.W.Frag} {H : Hp} : ∀ {ws : List V} {ds : List PyData} {i : Nat} {w : V}, DpAll K H ws ds → ws[i]? = some w → ∃ d, ds[i]? = some d ∧ Dp K H w d
  | _, _, _, _, .nil, e => by simp at e
  | _, _, 0, _, .cons a b, e => ⟨_, rfl, by simp at e; subst e; exact a⟩
  | _, _, i + 1, _, .cons a b, e => by
    obtain ⟨d, e1, q⟩ := dpAll_get b (i := i) (by simpa using e)
    exact ⟨d, by simpa using e1, q⟩
def rMaxTT (K : PySem.W.Frag) : List V → Hp → VK → Prop := fun vs H Q => ∃ (a : Addr) (ws : List V) (xss : List (List Int)), vs = [V.ref a] ∧ SqL K H a ws ∧ DpAll K H ws (xss.map tuD) ∧ 0 < xss.length ∧ xss.length = ws.length ∧
  ∀ k w, ws[k]? = some w → (∀ j, j < xss.length → ¬ (xss.getD k [] < xss.getD j [])) → Q w H
theorem cr_maxTT (hc : X.calm = true) (hu : X.A.in1.units + 1 < cLine) : CallR X (.builtin "max") (rMaxTT X.K) := by
  intro pins s σ H vs us Q I r h
  obtain ⟨a, ws, xss, rfl, hs, hd, hne, hll, q⟩ := h
  obtain ⟨its, rv, hl, _⟩ := I.list hs
  have hlen := rv.length
  rw [Vals.ref1 r]
  have hlt : a < s.heap.objs.size := by obtain ⟨_, _, e, _⟩ := hl; exact Heap.lt_size e
  refine call_max_walkH (wpAny_pyIter_list hl.isList ?_)
  have it : ∀ i v, its.toArray[i]? = some v → ∃ w, ws[i]? = some w ∧ RelV w v ∧ ∃ as, Reads s.heap v (tuD (xss.getD i [])) as := fun i v e => by
    have e' : its[i]? = some v := by simpa using e
    have hi : i < its.length := (List.getElem?_eq_some_iff.mp e').1
    have ew : ws[i]? = some ws[i] := List.getElem?_eq_getElem (by omega)
    obtain ⟨u, eu, ru⟩ := rv.get ew
    rw [eu] at e'
    cases e'
    obtain ⟨d, ed, dp⟩ := dpAll_get hd ew
    rw [List.getElem?_map, List.getElem?_eq_getElem (show i < xss.length by omega)] at ed
    cases ed
    obtain ⟨as, ra⟩ := Dp.reads I _ _ _ dp ru
    refine ⟨_, ew, ru, as, ?_⟩
    rw [List.getD_eq_getElem?_getD, List.getElem?_eq_getElem (show i < xss.length by omega)]
    exact ra
  refine ⟨_, _, _, _, _, _, _, s.heap, fun i j => decide (xss.getD j [] < xss.getD i []), rfl, (Walks.list (A := X.A.in1) (I.ok.hd hc) s.heap.objs.size a (Nat.ne_of_lt hlt) its.toArray).toS, ⟨⟨_, Heap.get?_push_size _ rfl, rfl, rfl⟩, hl.isList.push _⟩, fun b hb => ?_, by rw [List.size_toArray]; omega, fun b o e z => ?_, fun b o e => Heap.get?_push_of_some _ e, ?_, ?_⟩
  · show b < (s.heap.push _).objs.size
    rw [Heap.size_push]
    simp only [List.mem_cons, List.not_mem_nil, or_false] at hb
    rcases hb with e | e
    · rw [e]; exact Nat.lt_succ_self _
    · rw [e]; exact Nat.lt_succ_of_lt hlt
  · have := Heap.lt_size e
    rw [List.mem_singleton.mp z] at this
    exact Nat.lt_irrefl _ this
  · intro i j vi vj s' Q' E' hk hi hj hq
    obtain ⟨_, _, _, as, ra⟩ := it i vi hi
    obtain ⟨_, _, _, bs, rb⟩ := it j vj hj
    refine rcGt_alike (tuD (xss.getD i [])) (tuD (xss.getD j [])) X.A.in1 s' vi vj as bs (PyProof.Rows.Reads.keeps hk ra) (PyProof.Rows.Reads.keeps hk rb) (by rw [alike]; exact alike_ints _ _) (fun z => by cases z) ?_ _ _ _ _ ?_
    · have := depth_tup (xss.getD i [])
      omega
    · rw [dlt_tup]; exact hq
  · intro v s' hP hm
    obtain ⟨w, ew, rw', _⟩ := it _ v hP
    have best := (argBest_all (lt := fun i j => xss.getD i [] < xss.getD j []) (fun i j => decide (xss.getD j [] < xss.getD i [])) (fun i j => decide_eq_true_iff) (fun i => List.lt_irrefl _) (fun i j k => List.lt_trans) (its.toArray.size - 1)).2
    obtain ⟨m1, m2, m3, m4, m5⟩ := hm
    obtain ⟨hp, g, d, tk, os⟩ := s'
    simp only at m1 m2 m3 m4
    subst m2 m3 m4
    refine ⟨w, H, I.kept (t' := tk) (h' := hp) fun b o e => m1 b o ?_ (Heap.get?_push_of_some _ e), rw', q _ w ew fun j hj => best j (by rw [List.size_toArray]; omega)⟩
    intro z
    have := Heap.lt_size e
    rw [List.mem_singleton.mp z] at this
    exact Nat.lt_irrefl _ this
end
end L2

namespace L2
open PySem PySem.Spec PyProof PyProof.Rows
open AutoSeq1 (wpAny_loadPart')
/-! t * 1 is t -/
theorem tuple_mul1 (l : Addr) (items : Array Value) (n : Nat) (dd : Option Addr) (sl : Array (Option Value)) (u : Tok) (c1 : (items.isEmpty || (1 : Int) == 1) = true) :
    Meets (Builtin.«tuple.__mul__» ⟨[.ref l, .int 1 u], []⟩) (fun _ R s => s.heap.get? l = some { cls := .type "tuple", dict := dd, data := .seq items n, slots := sl } ∧
      R (.ok (.ret (Value.ref l))) s) :=
  .of_wp fun prog w A R s h => by
    obtain ⟨hp, g, d, tk, os⟩ := s
    obtain ⟨hl, h⟩ := h
    have f1 := AutoSeq1.idx_int
    have c0 : (decide ((1 : Int) < -(2 ^ 63)) || decide ((1 : Int) ≥ 2 ^ 63)) = false := by decide
    wp_walk using wpAny_loadPart' hl
    repeat (first
      | (refine wpAny_ite_false (decide_eq_false (by rw [c0]; exact Bool.false_ne_true)) ?_; wp_walk using wpAny_loadPart' hl)
      | (refine wpAny_ite_true (decide_eq_true c1) ?_; wp_walk using wpAny_loadPart' hl))
    exact ⟨_, rfl, h⟩

def rRepN (K : PySem.W.Frag) : R2 := fun x y H Q => ∃ l k xs, x = .ref l ∧ y = .int k ∧ SqT K H l xs ∧ xs ≠ [] ∧ 2 ≤ k ∧ k ≤ 1000 ∧ xs.length ≤ 1000 ∧ ∀ p od, H p = none → od.dict = none → Q (.ref p) (upd H p (.frz od (.tup (List.replicate k.toNat xs).flatten)))
theorem op_repN {X : Cx} : OpR X (binaryOp .Mult) (rRepN X.K) := by
  intro pins s σ H x y v u Q I rx ry h
  obtain ⟨l, k, xs, rfl, rfl, hT, hne, h1, h2, hz, q⟩ := h
  cases rx
  obtain ⟨t, rfl⟩ := ry
  obtain ⟨its, r, ⟨⟨cls, dd, data, sl⟩, ho, hc, n, hd⟩, hs⟩ := I.tuple hT
  simp only at hc hd
  subst hc hd
  have hle : its.length = xs.length := r.length.symm
  have hn : its ≠ [] := fun e => hne (by
    rw [e] at hle
    exact List.eq_nil_of_length_eq_zero hle.symm)
  have hi : its.toArray.isEmpty = false := by
    cases its with
    | nil => exact absurd rfl hn
    | cons a b => rfl
  have hsz0 : its.toArray.size = xs.length := by rw [List.size_toArray, hle]
  have hm : ((its.toArray.size : Nat) : Int) * k ≤ 1000000 := by
    rw [hsz0]
    have a1 : ((xs.length : Nat) : Int) * k ≤ 1000 * k := Int.mul_le_mul_of_nonneg_right (by omega) (by omega)
    omega
  have flen : (List.replicate k.toNat its).flatten.length ≤ sizeLine := by
    rw [PyProof.Rows.lm_len_rep_flat, hle, sizeLine_eq]
    have a1 : k.toNat * xs.length ≤ 1000 * 1000 := Nat.mul_le_mul (by omega) hz
    omega
  have c0 : (decide (k < -(2 ^ 63)) || decide (k ≥ 2 ^ 63)) = false := by
    rw [decide_eq_false (by omega), decide_eq_false (by omega)] <;> rfl
  have c1 : (its.toArray.isEmpty || k == 1) = false := by
    rw [hi, Bool.false_or]
    exact beq_eq_false_iff_ne.mpr (by omega)
  have c2 : (decide (k ≤ 0) || its.toArray.isEmpty) = false := by
    rw [hi, Bool.or_false]
    exact decide_eq_false (by omega)
  have c4 : Builtin.Tuple.tupleTooMany (((its.toArray.size : Nat) : Int) * k) = false := by
    unfold Builtin.Tuple.tupleTooMany
    rw [sizeLine_eq]
    exact decide_eq_false (by omega)
  refine wpAny_binaryOp_repeat_ref (T := "tuple") (U := "int") (by decide) ⟨_, ho, rfl⟩ (fun s' => typeIs_int s' k t) noFill_tuple_mul F.fills_int_mul F.slot_int_rmul repeat_tuple F.slot_int_index.lookup
    (call_meets F.slot_int_rmul (typeIs_int s k t) F.entry_int_rmul (F.args_int_rmul_2 _ _) (int_rmul_tuple k t l its.toArray n dd sl)
      ⟨ho, rfl, ⟨_, ho, rfl⟩, call_meets F.slot_tuple_mul ⟨_, ho, rfl⟩ F.entry_tuple_mul (F.args_tuple_mul_2 _ _) (tuple_mulW l its.toArray n dd sl k t c0 c1 c2 (by omega) c4 (by rw [size_rep, List.size_toArray]; exact flen)) ⟨ho, ?_⟩⟩)
  rw [size_rep]
  exact ⟨.ref s.heap.objs.size, _, I.laid (t' := s.toks) (fun b ob q => Heap.get?_push_of_some _ q) (Nat.le_refl _) (M.okN (by rw [PyProof.Rows.lm_len_rep_flat, sizeLine_eq]; have a1 : k.toNat * xs.length ≤ 1000 * 1000 := Nat.mul_le_mul (by omega) hz; omega) (r.rep k.toNat)), rfl, q _ _ (I.hok.fresh (Nat.le_refl _)) rfl⟩
def rRepT1 (K : PySem.W.Frag) : R2 := fun x y H Q => ∃ l xs, x = .ref l ∧ y = .int 1 ∧ SqT K H l xs ∧ Q (.ref l) H
theorem op_repT1 {X : Cx} : OpR X (binaryOp .Mult) (rRepT1 X.K) := by
  intro pins s σ H x y v u Q I rx ry h
  obtain ⟨l, xs, rfl, rfl, hT, q⟩ := h
  cases rx
  obtain ⟨t, rfl⟩ := ry
  obtain ⟨its, r, ⟨⟨cls, dd, data, sl⟩, ho, hc, n, hd⟩, hs⟩ := I.tuple hT
  simp only at hc hd
  subst hc hd
  exact wpAny_binaryOp_repeat_ref (T := "tuple") (U := "int") (by decide) ⟨_, ho, rfl⟩ (fun s' => typeIs_int s' 1 t) noFill_tuple_mul F.fills_int_mul F.slot_int_rmul repeat_tuple F.slot_int_index.lookup
    (call_meets F.slot_int_rmul (typeIs_int s 1 t) F.entry_int_rmul (F.args_int_rmul_2 _ _) (int_rmul_tuple 1 t l its.toArray n dd sl)
      ⟨ho, rfl, ⟨_, ho, rfl⟩, call_meets F.slot_tuple_mul ⟨_, ho, rfl⟩ F.entry_tuple_mul (F.args_tuple_mul_2 _ _) (tuple_mul1 l its.toArray n dd sl t (by simp)) ⟨ho, ⟨.ref l, H, I, rfl, q⟩⟩⟩)
end L2
namespace M
open PySem L2
def rMulT : MR2 := fun x y h Q => match x, y with
  | .tup ds, .int k => ds ≠ [] ∧ 1 ≤ k ∧ k ≤ 1000 ∧ ds.length ≤ 1000 ∧ Q (.tup (List.replicate k.toNat ds).flatten) h
  | _, _ => False
section
variable {X : Cx}
theorem om_mulT : OpM X (binaryOp .Mult) rMulT := by
  refine ⟨_, op_repN.or op_repT1, fun x y h Q0 vx vy H Q q rh rx ry f => ?_⟩
  cases x <;> cases y <;> first | exact q.elim | skip
  rename_i ds k
  obtain ⟨n0, k1, k2, l1, q⟩ := q
  obtain ⟨a, vs, rfl, ta, rs⟩ := rx.tupN
  rw [ry.int]
  by_cases e : k = 1
  · subst e
    refine .inr ⟨a, vs, rfl, rfl, ta.t, ?_⟩
    have e2 : (List.replicate (1 : Int).toNat ds).flatten = ds := by
      show (ds ++ []) = ds
      exact List.append_nil _
    rw [e2] at q
    exact fin_at f q rh (rv_tup ta rs)
  · refine .inl ⟨a, k, vs, rfl, rfl, ta.t, ?_, by omega, k2, by rw [← rs.length]; exact l1, fun p od np nd => ?_⟩
    · intro z
      subst z
      exact n0 (List.eq_nil_of_length_eq_zero rs.length)
    · exact f _ h q _ _ (.new np) (rh.skip np) (rv_tup (.of upd_same nd) ((rs.rep _).mono (.new np)))
/-- max of a list of tuples of ints -/
def rMaxTup : MRA := fun xs h Q => match xs with
  | [.ref a] => ∃ xss : List (List Int), h a = some (.lst (xss.map fun xs => .tup (xs.map .int))) ∧ 0 < xss.length ∧ ∀ m, m ∈ xss → (∀ y, y ∈ xss → ¬ m < y) → Q (.tup (m.map .int)) h
  | _ => False
theorem dpAll_tups {K : PySem.W.Frag} {h : MH} {H : Hp} (rh : HR K h H) : ∀ {xss : List (List Int)} {ws : List V}, RVs K H (xss.map fun xs => D.tup (xs.map .int)) ws → DpAll K H ws (xss.map tuD)
  | [], _, r => by rw [r.inv0]; exact .nil
  | xs :: xss, _, r => by
    obtain ⟨v, ws, rfl, q, t⟩ := r.inv
    exact .cons (DP.dp rh (.tup (dps_ints xs)) q) (dpAll_tups rh t)
theorem units1 {a : Nat} {c : Nat} (h : a + 64 < c) : a + 1 + 1 < c := by omega
theorem cm_maxTup (hc : X.calm = true) (hu : X.A.units + 64 < cLine) : CaM X (.builtin "max") rMaxTup := by
  refine ⟨_, cr_maxTT hc (units1 hu), fun xs h Q0 vs H Q q rh rs f => ?_⟩
  unfold rMaxTup at q
  split at q
  · obtain ⟨v, rfl, rx⟩ := rs.one
    rw [rx.ref]
    obtain ⟨xss, e, l, q⟩ := q
    obtain ⟨ws, E, rw'⟩ := rh.lst e
    have hl : xss.length = ws.length := by have := rw'.length; rwa [List.length_map] at this
    refine ⟨_, ws, xss, rfl, .of E, dpAll_tups rh rw', l, hl, fun k w ew hk => ?_⟩
    have hki : k < xss.length := by rw [hl]; exact (List.getElem?_eq_some_iff.mp ew).1
    obtain ⟨d, ed, rd⟩ := rw'.get' ew
    rw [List.getElem?_map, List.getElem?_eq_getElem hki] at ed
    cases ed
    refine fin_at f (q xss[k] (List.getElem_mem hki) fun y hy => ?_) rh rd
    obtain ⟨j, hj, rfl⟩ := List.mem_iff_getElem.mp hy
    have := hk j hj
    rw [List.getD_eq_getElem?_getD, List.getD_eq_getElem?_getD, List.getElem?_eq_getElem hki, List.getElem?_eq_getElem hj] at this
    exact this
  · exact q.elim
section
variable {k : Int} {h : MH} {Q : MQ} {a : Addr} {xs : List D}
theorem q_mulT : rMulT (.tup xs) (.int k) h Q = (xs ≠ [] ∧ 1 ≤ k ∧ k ≤ 1000 ∧ xs.length ≤ 1000 ∧ Q (.tup (List.replicate k.toNat xs).flatten) h) := rfl
theorem q_maxTup : rMaxTup [.ref a] h Q = (∃ xss : List (List Int), h a = some (.lst (xss.map fun xs => .tup (xs.map .int))) ∧ 0 < xss.length ∧ ∀ m, m ∈ xss → (∀ y, y ∈ xss → ¬ m < y) → Q (.tup (m.map .int)) h) := rfl
end
end
end M

namespace M
open PySem L2
/-! ### dicts with keys ints and texts -/
def keyD : Key → D
  | .inl i => .int i
  | .inr x => .str x
def dV (kvs : List (Key × D)) (k : Key) : Option D := (kvs.find? fun kv => decide (kv.1 = k)).map (·.2)
def dPutK (kvs : List (Key × D)) (k : Key) (v : D) : List (Key × D) :=
  if (kvs.any fun kv => decide (kv.1 = k)) = true then kvs.map (fun kv => if kv.1 = k then (kv.1, v) else kv) else kvs ++ [(k, v)]
section
variable {K : PySem.W.Frag} {H : Hp}
theorem rkv_inv {p : Key × D} {kvs : List (Key × D)} {ws : List (Key × V)} (h : RKV K H (p :: kvs) ws) : ∃ v rs, ws = (p.1, v) :: rs ∧ RV K H p.2 v ∧ RKV K H kvs rs := by
  obtain ⟨h1, h2⟩ := h
  cases ws with
  | nil => cases h1
  | cons w rs =>
    rw [List.map_cons, List.map_cons] at h1
    injection h1 with a b
    rw [List.map_cons] at h2
    obtain ⟨v, r, e, q, t⟩ := h2.inv
    rw [List.map_cons] at e
    injection e with e1 e2
    subst e1 e2
    refine ⟨w.2, rs, ?_, q, b, t⟩
    rw [a]
theorem rkv_get {k : Key} {d : D} : ∀ {kvs : List (Key × D)} {ws : List (Key × V)}, RKV K H kvs ws → dV kvs k = some d → ∃ v, valV ws k = some v ∧ RV K H d v
  | [], _, _, e => by cases e
  | p :: kvs, _, h, e => by
    obtain ⟨v, rs, rfl, q, t⟩ := rkv_inv h
    by_cases c : p.1 = k
    · have e' : dV (p :: kvs) k = some p.2 := by simp [dV, List.find?_cons, c]
      rw [e'] at e
      cases e
      exact ⟨v, by rw [valV_pos (p := (p.1, v)) c], q⟩
    · have e' : dV (p :: kvs) k = dV kvs k := by simp [dV, List.find?_cons, c]
      rw [e'] at e
      obtain ⟨u, eu, ru⟩ := rkv_get t e
      exact ⟨u, by rw [valV_neg (p := (p.1, v)) c]; exact eu, ru⟩
theorem keyD_rv {k : Key} {v : V} (h : RV K H (keyD k) v) : v = kV k := by
  cases k with
  | inl i => exact h.int
  | inr x => exact h.str
end
def mDGet (o i : MTE) : MTE := fun env h Q => o env h fun x h1 => i env h1 fun y h2 => ∃ a kvs k d, x = .ref a ∧ h2 a = some (.dK kvs) ∧ y = keyD k ∧ dV kvs k = some d ∧ Q d h2
section
variable {X : Cx} {Hb : Hp} {o i : Expr} {mo mi : MTE} {pos : Pos}
theorem ie_dget (hu : X.A.units + 64 < cLine) (ho : IE X Hb o mo) (hi : IE X Hb i mi) (hs : NoSl i) : IE X Hb (.Subscript o i pos) (mDGet mo mi) := by
  refine pe_w (pe_dget (by omega) ho hi hs) fun σ H Q ⟨env, h, Q0, re, rh, m, f⟩ => ?_
  refine ⟨env, h, _, re, rh, m, fun x h1 q1 vx H1 t1 r1 rx => ?_⟩
  refine ⟨env, h1, _, re.mono t1, r1, q1, fun y h2 q vy H2 t2 r2 ry => ?_⟩
  obtain ⟨a, kvs, k, d, rfl, e, rfl, ed, q⟩ := q
  obtain ⟨ws, E, rk⟩ := r2.dK e
  obtain ⟨v, ev, rv⟩ := rkv_get rk ed
  refine ⟨a, v, (rx.mono t2).ref, ?_, f d h2 q v H2 (t1.trans t2) r2 rv⟩
  rw [keyD_rv ry, ← ev]
  exact DGet.k E
end
section
variable {K : PySem.W.Frag} {H : Hp}
theorem rkv_any {k : Key} : ∀ {kvs : List (Key × D)} {ws : List (Key × V)}, RKV K H kvs ws → (kvs.any fun kv => decide (kv.1 = k)) = (ws.any fun kv => decide (kv.1 = k))
  | [], ws, h => by
    have : ws = [] := by
      cases ws with
      | nil => rfl
      | cons _ _ => cases h.1
    rw [this]; rfl
  | p :: kvs, _, h => by
    obtain ⟨v, rs, rfl, q, t⟩ := rkv_inv h
    rw [List.any_cons, List.any_cons, rkv_any t]
theorem rkv_map {k : Key} {d : D} {v : V} (r : RV K H d v) : ∀ {kvs : List (Key × D)} {ws : List (Key × V)}, RKV K H kvs ws → RKV K H (kvs.map fun kv => if kv.1 = k then (kv.1, d) else kv) (ws.map fun kv => if kv.1 = k then (kv.1, v) else kv)
  | [], ws, h => by
    have : ws = [] := by
      cases ws with
      | nil => rfl
      | cons _ _ => cases h.1
    rw [this]; exact ⟨rfl, .nil⟩
  | p :: kvs, _, h => by
    obtain ⟨u, rs, rfl, q, t⟩ := rkv_inv h
    have ih := rkv_map (k := k) r t
    rw [List.map_cons, List.map_cons]
    by_cases c : p.1 = k
    · rw [if_pos c, if_pos (show (p.1, u).1 = k from c)]
      exact ⟨by rw [List.map_cons, List.map_cons, ih.1], by rw [List.map_cons, List.map_cons]; exact .cons r ih.2⟩
    · rw [if_neg c, if_neg (show ¬ (p.1, u).1 = k from c)]
      exact ⟨by rw [List.map_cons, List.map_cons, ih.1], by rw [List.map_cons, List.map_cons]; exact .cons q ih.2⟩
theorem rkv_put {k : Key} {d : D} {v : V} {kvs : List (Key × D)} {ws : List (Key × V)} (h : RKV K H kvs ws) (r : RV K H d v) : RKV K H (dPutK kvs k d) (putK ws k v) := by
  unfold dPutK putK
  rw [rkv_any h]
  split
  · exact rkv_map r h
  · exact ⟨by rw [List.map_append, List.map_append, h.1]; rfl, by rw [List.map_append, List.map_append]; exact h.2.append (.cons r .nil)⟩
theorem rkv_len {kvs : List (Key × D)} {ws : List (Key × V)} (h : RKV K H kvs ws) : kvs.length = ws.length := by
  have := congrArg List.length h.1
  rwa [List.length_map, List.length_map] at this
end
def mPutD (e o i : MTE) : MTS := fun D' env h => e env h fun d h1 => o env h1 fun x h2 => i env h2 fun y h3 => ∃ a kvs k, x = .ref a ∧ h3 a = some (.dK kvs) ∧ y = keyD k ∧ kvs.length < sizeLine ∧ D'.nx env (up h3 a (.dK (dPutK kvs k d)))
section
variable {X : Cx} {Hb : Hp} {e o i : Expr} {me mo mi : MTE} {pos pos' : Pos}
theorem is_dput (hu : X.A.units + 64 < cLine) (he : IE X Hb e me) (ho : IE X Hb o mo) (hi : IE X Hb i mi) (hs : swapsWith e (some (.Subscript o i pos')) pos.line X.env = pure false := by rfl) : IS X Hb (.Assign [.Subscript o i pos'] e pos) (mPutD me mo mi) := by
  refine is_of (ps_dput (by omega) ho hi he hs) fun D' σ H env h D0 re rh m f => ?_
  refine ⟨env, h, _, re, rh, m, fun d h1 q1 v H1 t1 r1 rv => ?_⟩
  refine ⟨env, h1, _, re.mono t1, r1, q1, fun x h2 q2 vx H2 t2 r2 rx => ?_⟩
  refine ⟨env, h2, _, (re.mono t1).mono t2, r2, q2, fun y h3 q3 vy H3 t3 r3 ry => ?_⟩
  obtain ⟨a, kvs, k, rfl, ea, rfl, lk, q⟩ := q3
  obtain ⟨ws, E, rk⟩ := r3.dK ea
  have rv3 := rv.mono (t2.trans t3)
  have t : TL H3 (upd H3 a (.dK (putK ws k v))) := .put E (fun _ z => by cases z) (fun _ _ z => by cases z)
  have tt := t1.trans (t2.trans (t3.trans t))
  refine ⟨a, _, (rx.mono t3).ref, ?_, f.nx env _ q σ _ tt (re.mono tt) (r3.put t ⟨_, rfl, (rkv_put rk rv3).mono t⟩)⟩
  rw [keyD_rv ry]
  exact DPut.k E (by rw [← rkv_len rk]; exact lk)
end
end M

namespace M
open PySem L2
/-! ### a dict of some pairs, its keys constants -/
def mPairs : List (Key × MTE) → ME → MH → (List (Key × D) → MH → Prop) → Prop
  | [], _, h, Q => Q [] h
  | (k, m) :: r, env, h, Q => m env h fun d h1 => mPairs r env h1 fun ps h2 => Q ((k, d) :: ps) h2
def mDispN (kes : List (Key × MTE)) : MTE := fun env h Q => ∀ p, h p = none → mPairs kes env (up h p (.dK [])) fun ps h2 => h2 p = some (.dK []) ∧ Q (.ref p) (up h2 p (.dK ps))
theorem put_new {k : Key} {v : V} : ∀ {kvs : List (Key × V)}, (∀ p ∈ kvs, p.1 ≠ k) → putK kvs k v = kvs ++ [(k, v)] := fun {kvs} h => by
  unfold putK
  rw [if_neg]
  intro z
  obtain ⟨p, hp, e⟩ := List.any_eq_true.mp z
  exact h p hp (of_decide_eq_true e)
theorem merge_new : ∀ (more kvs : List (Key × V)), (more.map (·.1)).Nodup → (∀ p ∈ kvs, ∀ q ∈ more, p.1 ≠ q.1) → mergeK kvs more = kvs ++ more
  | [], kvs, _, _ => by rw [List.append_nil]; rfl
  | p :: r, kvs, hn, hd => by
    rw [List.map_cons, List.nodup_cons] at hn
    show mergeK (putK kvs p.1 p.2) r = _
    rw [put_new fun q hq => hd q hq p (List.mem_cons_self ..), merge_new r _ hn.2, List.append_assoc]; · rfl
    intro a ha b hb e
    rcases List.mem_append.mp ha with z | z
    · exact hd a z b (List.mem_cons_of_mem _ hb) e
    · rw [List.mem_singleton.mp z] at e
      exact hn.1 (List.mem_map.mpr ⟨b, hb, e.symm⟩)
theorem pairs_lift {K : PySem.W.Frag} {Hb : Hp} : ∀ {kes : List (Key × MTE)} {env : ME} {h : MH} {Q0 : List (Key × D) → MH → Prop} {σ : L2.St} {H : Hp} {Q : List (V × V) → Hp → Prop}, REnv K Hb H env σ → HR K h H → mPairs kes env h Q0 →
    (∀ ps h', Q0 ps h' → ps.map (·.1) = kes.map (·.1) → ∀ ws H', TL H H' → HR K h' H' → RKV K H' ps ws → Q (ws.map fun w => (kV w.1, w.2)) H') → tPairs (kes.map fun p => (tC (kV p.1), lift K Hb p.2)) σ H Q
  | [], env, h, Q0, σ, H, Q, re, rh, m, f => f [] h m rfl [] H (.refl H) rh ⟨rfl, .nil⟩
  | (k, m1) :: r, env, h, Q0, σ, H, Q, re, rh, m, f => by
    show tC (kV k) σ H fun x H1 => lift K Hb m1 σ H1 fun y H2 => tPairs (r.map fun p => (tC (kV p.1), lift K Hb p.2)) σ H2 fun ps H3 => Q ((x, y) :: ps) H3
    refine ⟨env, h, _, re, rh, m, fun d h1 q v H1 t1 r1 rv => ?_⟩
    refine pairs_lift (re.mono t1) r1 q fun ps h2 q2 ek ws H2 t2 r2 rk => ?_
    exact f _ h2 q2 (by rw [List.map_cons, List.map_cons, ek]) ((k, v) :: ws) H2 (t1.trans t2) r2 ⟨by rw [List.map_cons, List.map_cons, rk.1], by rw [List.map_cons, List.map_cons]; exact .cons (rv.mono t2) rk.2⟩
section
variable {X : Cx} {Hb : Hp} {pos : Pos} {keys : List (Option Expr)} {values : List Expr} {kes : List (Key × MTE)}
theorem ie_dispN (h : PPs X pos keys values (kes.map fun p => (tC (kV p.1), lift X.K Hb p.2))) (hn : (kes.map (·.1)).Nodup) (h15 : kes.length ≤ 15) (hall : keys.all (·.isSome) = true) (hl : keys.length = values.length) (h0 : keys ≠ []) (hk : keys.length ≤ 15) : IE X Hb (.Dict keys values pos) (mDispN kes) := by
  refine pe_w (pe_disp h hall hl h0 hk) fun σ H Q ⟨env, h, Q0, re, rh, m, f⟩ => fun p np => ?_
  have t0 : TL H (upd H p (.dK [])) := .new np
  refine pairs_lift (re.mono t0) (rh.new (m := .dK []) np ⟨[], rfl, rfl, .nil⟩) (m p (rh.free np)) fun ps h2 ⟨e, q⟩ ek ws H2 t2 r2 rk => ?_
  obtain ⟨ws0, E, r0⟩ := r2.dK e
  have e0 : ws0 = [] := by
    cases ws0 with
    | nil => rfl
    | cons _ _ => cases r0.1
  subst e0
  refine ⟨E, ws, rfl, ?_, ?_⟩
  · rw [← rkv_len rk]
    have := congrArg List.length ek
    rw [List.length_map, List.length_map] at this
    omega
  · rw [merge_new ws [] (by rw [← rk.1, ek]; exact hn) (by simp), List.nil_append]
    have t3 : TL H2 (upd H2 p (.dK ws)) := .put E (fun _ z => by cases z) (fun _ _ z => by cases z)
    exact f _ _ q _ _ (t0.trans (t2.trans t3)) (r2.put t3 ⟨_, rfl, rk.mono t3⟩) rv_ref
end
end M

namespace L2
open PySem PySem.Spec PyProof PyProof.Rows PySem.SeqAt PySem.W
/-! tuples of ints compared -/
def rGtD (K : PySem.W.Frag) : R2 := fun x y H Q => ∃ ns ms : List Int, Dp K H x (tuD ns) ∧ Dp K H y (tuD ms) ∧ Q (.bl (decide (ms < ns))) H
def rLtD (K : PySem.W.Frag) : R2 := fun x y H Q => ∃ ns ms : List Int, Dp K H x (tuD ns) ∧ Dp K H y (tuD ms) ∧ Q (.bl (decide (ns < ms))) H
section
variable {X : Cx}
theorem op_gtD (hu : X.A.units + 64 < cLine) : OpR X (compareOp .Gt) (rGtD X.K) := by
  intro pins s σ H x y v u Q I rx ry h
  obtain ⟨ns, ms, hd, he, q⟩ := h
  obtain ⟨as, r1⟩ := Dp.reads I _ x v hd rx
  obtain ⟨bs, r2⟩ := Dp.reads I _ y u he ry
  refine gt_data r1 r2 (by rw [alike]; exact alike_ints _ _) (fun z => by cases z) (by have := depth_tup ns; omega) ?_
  rw [dlt_tup]
  exact ⟨.bl _, H, I, rfl, q⟩
theorem op_ltD (hu : X.A.units + 64 < cLine) : OpR X (compareOp .Lt) (rLtD X.K) := by
  intro pins s σ H x y v u Q I rx ry h
  obtain ⟨ns, ms, hd, he, q⟩ := h
  obtain ⟨as, r1⟩ := Dp.reads I _ x v hd rx
  obtain ⟨bs, r2⟩ := Dp.reads I _ y u he ry
  refine lt_data r1 r2 (by rw [alike]; exact alike_ints _ _) (fun z => by cases z) (by have := depth_tup ns; omega) ?_
  rw [dlt_tup]
  exact ⟨.bl _, H, I, rfl, q⟩
end
end L2
namespace M
open PySem L2
def rGtT : MR2 := fun x y h Q => match x, y with
  | .int i, .int j => Q (.bl (decide (j < i))) h
  | .tup xs, .tup ys => ∃ ns ms : List Int, xs = ns.map .int ∧ ys = ms.map .int ∧ Q (.bl (decide (ms < ns))) h
  | _, _ => False
def rLtT : MR2 := fun x y h Q => match x, y with
  | .int i, .int j => Q (.bl (decide (i < j))) h
  | .tup xs, .tup ys => ∃ ns ms : List Int, xs = ns.map .int ∧ ys = ms.map .int ∧ Q (.bl (decide (ns < ms))) h
  | _, _ => False
section
variable {X : Cx}
theorem om_gtT (hu : X.A.units + 64 < cLine) : OpM X (compareOp .Gt) rGtT := by
  refine ⟨_, op_gt.or (op_gtD hu), fun x y h Q0 vx vy H Q q rh rx ry f => ?_⟩
  cases x <;> cases y <;> first | exact q.elim | skip
  · rw [rx.int, ry.int]
    exact .inl ⟨_, _, rfl, rfl, fin_at f q rh rv_bl⟩
  · obtain ⟨ns, ms, rfl, rfl, q⟩ := q
    exact .inr ⟨ns, ms, DP.dp rh (.tup (dps_ints ns)) rx, DP.dp rh (.tup (dps_ints ms)) ry, fin_at f q rh rv_bl⟩
theorem om_ltT (hu : X.A.units + 64 < cLine) : OpM X (compareOp .Lt) rLtT := by
  refine ⟨_, op_lt.or (op_ltD hu), fun x y h Q0 vx vy H Q q rh rx ry f => ?_⟩
  cases x <;> cases y <;> first | exact q.elim | skip
  · rw [rx.int, ry.int]
    exact .inl ⟨_, _, rfl, rfl, fin_at f q rh rv_bl⟩
  · obtain ⟨ns, ms, rfl, rfl, q⟩ := q
    exact .inr ⟨ns, ms, DP.dp rh (.tup (dps_ints ns)) rx, DP.dp rh (.tup (dps_ints ms)) ry, fin_at f q rh rv_bl⟩
section
variable {i j : Int} {h : MH} {Q : MQ} {xs ys : List D}
theorem q_gtT1 : rGtT (.int i) (.int j) h Q = Q (.bl (decide (j < i))) h := rfl
theorem q_gtT2 : rGtT (.tup xs) (.tup ys) h Q = (∃ ns ms : List Int, xs = ns.map .int ∧ ys = ms.map .int ∧ Q (.bl (decide (ms < ns))) h) := rfl
theorem q_ltT1 : rLtT (.int i) (.int j) h Q = Q (.bl (decide (i < j))) h := rfl
theorem q_ltT2 : rLtT (.tup xs) (.tup ys) h Q = (∃ ns ms : List Int, xs = ns.map .int ∧ ys = ms.map .int ∧ Q (.bl (decide (ns < ms))) h) := rfl
end
end
/-- a list, and the empty one -/
theorem eqD_nil {h : MH} {Q : MQ} {a b : Addr} {ds : List D} {ps : List PyData} (ea : h a = some (.lst ds)) (hp : DPs h ds ps) (sp : SeqAt.shaped (.list ps) = true) (eb : h b = some (.lst [])) (q : Q (.bl ds.isEmpty) h) : rEqD (.ref a) (.ref b) h Q := by
  refine ⟨_, _, .lst ea hp, .lst eb .nil, sp, rfl, ?_⟩
  have e : PyData.eqv (.list ps) (.list []) = ds.isEmpty := by
    cases hp with
    | nil => rw [PyData.eqv, PyData.eqvAll]; rfl
    | cons _ _ => rw [PyData.eqv, PyData.eqvAll]; rfl
  rw [e]; exact q
end M

namespace M
open PySem L2
/-! ### dicts: equations for the walk -/
section
variable {a : Addr} {s s2 : Str} {i : Int} {d v : D} {h : MH} {Q : D → MH → Prop} {kvs r : List (Key × D)} {k k2 : Key}
def fDGet (x y : D) (h : MH) (Q : D → MH → Prop) : Prop := ∃ a kvs k d, x = .ref a ∧ h a = some (.dK kvs) ∧ y = keyD k ∧ dV kvs k = some d ∧ Q d h
theorem q_dget {o i : MTE} {env : ME} : mDGet o i env h Q = o env h fun x h1 => i env h1 fun y h2 => fDGet x y h2 Q := rfl
theorem key_str (e : D.str s = keyD k) : k = .inr s := by
  cases k with
  | inl j => cases e
  | inr x => cases e; rfl
theorem key_int (e : D.int i = keyD k) : k = .inl i := by
  cases k with
  | inl j => cases e; rfl
  | inr x => cases e
theorem q_dgetS : fDGet (.ref a) (.str s) h Q = ∃ kvs, h a = some (.dK kvs) ∧ ∃ d, dV kvs (.inr s) = some d ∧ Q d h := by
  refine propext ⟨fun ⟨b, kvs, k, d, e1, e2, e3, e4, q⟩ => ?_, fun ⟨kvs, e, d, e2, q⟩ => ⟨a, kvs, .inr s, d, rfl, e, rfl, e2, q⟩⟩
  cases e1
  rw [key_str e3] at e4
  exact ⟨kvs, e2, d, e4, q⟩
theorem q_dgetI : fDGet (.ref a) (.int i) h Q = ∃ kvs, h a = some (.dK kvs) ∧ ∃ d, dV kvs (.inl i) = some d ∧ Q d h := by
  refine propext ⟨fun ⟨b, kvs, k, d, e1, e2, e3, e4, q⟩ => ?_, fun ⟨kvs, e, d, e2, q⟩ => ⟨a, kvs, .inl i, d, rfl, e, rfl, e2, q⟩⟩
  cases e1
  rw [key_int e3] at e4
  exact ⟨kvs, e2, d, e4, q⟩
theorem dV_cons : dV ((k, v) :: r) k2 = if k = k2 then some v else dV r k2 := by
  unfold dV
  rw [List.find?_cons]
  by_cases c : k = k2
  · rw [if_pos c]; simp [c]
  · rw [if_neg c]; simp [c]
/-- a value put under a key that is there -/
def dSet (kvs : List (Key × D)) (k : Key) (d : D) : List (Key × D) := match kvs with
  | [] => []
  | (k2, v) :: r => (k2, if k2 = k then d else v) :: dSet r k d
theorem dSet_map : ∀ kvs : List (Key × D), (kvs.map fun kv => if kv.1 = k then (kv.1, d) else kv) = dSet kvs k d
  | [] => rfl
  | (k2, v) :: r => by
    rw [List.map_cons, dSet_map r]
    show _ = (k2, if k2 = k then d else v) :: dSet r k d
    by_cases c : k2 = k
    · rw [if_pos c, if_pos (show (k2, v).1 = k from c)]
    · rw [if_neg c, if_neg (show ¬ (k2, v).1 = k from c)]
theorem dPut_in (e : (dV kvs k).isSome = true) : dPutK kvs k d = dSet kvs k d := by
  unfold dPutK
  rw [if_pos, dSet_map]
  obtain ⟨x, hx⟩ := Option.isSome_iff_exists.mp e
  unfold dV at hx
  obtain ⟨p, hp, _⟩ := Option.map_eq_some_iff.mp hx
  exact List.any_eq_true.mpr ⟨p, List.mem_of_find?_eq_some hp, List.find?_some (p := fun kv : Key × D => decide (kv.1 = k)) hp⟩
theorem dSet_nil : dSet [] k d = [] := rfl
theorem dSet_cons : dSet ((k2, v) :: r) k d = (k2, if k2 = k then d else v) :: dSet r k d := rfl
def fPutD (x y d : D) (h : MH) (Q : MH → Prop) : Prop := ∃ a kvs k, x = .ref a ∧ h a = some (.dK kvs) ∧ y = keyD k ∧ kvs.length < sizeLine ∧ Q (up h a (.dK (dPutK kvs k d)))
theorem putD_ {e o i : MTE} {D' : MEnds} {env : ME} (q : e env h fun d h1 => o env h1 fun x h2 => i env h2 fun y h3 => fPutD x y d h3 fun h4 => D'.nx env h4) : mPutD e o i D' env h := q
/-- a text key that is there -/
theorem q_putS {Q : MH → Prop} : fPutD (.ref a) (.str s) d h Q = ∃ kvs, h a = some (.dK kvs) ∧ kvs.length < sizeLine ∧ Q (up h a (.dK (dPutK kvs (.inr s) d))) := by
  refine propext ⟨fun ⟨b, kvs, k, e1, e2, e3, e4, q⟩ => ?_, fun ⟨kvs, e, l, q⟩ => ⟨a, kvs, .inr s, rfl, e, rfl, l, q⟩⟩
  cases e1
  rw [key_str e3] at q
  exact ⟨kvs, e2, e4, q⟩
theorem q_putI {Q : MH → Prop} : fPutD (.ref a) (.int i) d h Q = ∃ kvs, h a = some (.dK kvs) ∧ kvs.length < sizeLine ∧ Q (up h a (.dK (dPutK kvs (.inl i) d))) := by
  refine propext ⟨fun ⟨b, kvs, k, e1, e2, e3, e4, q⟩ => ?_, fun ⟨kvs, e, l, q⟩ => ⟨a, kvs, .inl i, rfl, e, rfl, l, q⟩⟩
  cases e1
  rw [key_int e3] at q
  exact ⟨kvs, e2, e4, q⟩
end
/-! texts as keys: unlike -/
theorem kn_cells_at : (Str.ofString "cells" = Str.ofString "at") = False := eq_false (by decide +kernel)
theorem kn_cells_digits : (Str.ofString "cells" = Str.ofString "digits") = False := eq_false (by decide +kernel)
theorem kn_cells_turn : (Str.ofString "cells" = Str.ofString "turn") = False := eq_false (by decide +kernel)
theorem kn_at_cells : (Str.ofString "at" = Str.ofString "cells") = False := eq_false (by decide +kernel)
theorem kn_at_digits : (Str.ofString "at" = Str.ofString "digits") = False := eq_false (by decide +kernel)
theorem kn_at_turn : (Str.ofString "at" = Str.ofString "turn") = False := eq_false (by decide +kernel)
theorem kn_digits_cells : (Str.ofString "digits" = Str.ofString "cells") = False := eq_false (by decide +kernel)
theorem kn_digits_at : (Str.ofString "digits" = Str.ofString "at") = False := eq_false (by decide +kernel)
theorem kn_digits_turn : (Str.ofString "digits" = Str.ofString "turn") = False := eq_false (by decide +kernel)
theorem kn_turn_cells : (Str.ofString "turn" = Str.ofString "cells") = False := eq_false (by decide +kernel)
theorem kn_turn_at : (Str.ofString "turn" = Str.ofString "at") = False := eq_false (by decide +kernel)
theorem kn_turn_digits : (Str.ofString "turn" = Str.ofString "digits") = False := eq_false (by decide +kernel)
end M

namespace M
open PySem L2
/-! ### plain data (None, ints, tuples of these) compared -/
def Pu : Nat → D → Prop
  | 0, _ => False
  | n + 1, d => match d with
    | .non => True
    | .int _ => True
    | .tup ds => ∀ x ∈ ds, Pu n x
    | _ => False
/-- what holds of plain data d: it is p -/
structure Pd (h : MH) (n : Nat) (d : D) (p : PyData) : Prop where
  dp : DP h d p
  lay : p.canLay0 = true
  dep : p.depth ≤ n
theorem pu_dps {h : MH} {n : Nat} (ih : ∀ d, Pu n d → ∃ p, DP h d p ∧ p.canLay0 = true ∧ p.depth ≤ n) : ∀ ds : List D, (∀ x ∈ ds, Pu n x) → ∃ ps, DPs h ds ps ∧ PyData.canLayAll0 ps = true ∧ PyData.depthAll ps ≤ n
  | [], _ => ⟨[], .nil, rfl, by rw [PyData.depthAll]; omega⟩
  | d :: ds, q => by
    obtain ⟨p, a1, a2, a3⟩ := ih d (q d (List.mem_cons_self ..))
    obtain ⟨ps, b1, b2, b3⟩ := pu_dps ih ds fun x hx => q x (List.mem_cons_of_mem _ hx)
    exact ⟨p :: ps, .cons a1 b1, by rw [PyData.canLayAll0, a2, b2]; rfl, by rw [PyData.depthAll]; omega⟩
theorem pu_dp {h : MH} : ∀ (n : Nat) (d : D), Pu n d → ∃ p, DP h d p ∧ p.canLay0 = true ∧ p.depth ≤ n
  | 0, _, q => q.elim
  | n + 1, d, q => by
    cases d with
    | non => exact ⟨_, .non, rfl, by rw [PyData.depth]; omega⟩
    | int i => exact ⟨_, .int i, rfl, by rw [PyData.depth]; omega⟩
    | tup ds =>
      obtain ⟨ps, b1, b2, b3⟩ := pu_dps (pu_dp n) ds q
      exact ⟨_, .tup b1, by rw [PyData.canLay0]; exact b2, by rw [PyData.depth]; omega⟩
    | bl _ => exact q.elim
    | str _ => exact q.elim
    | rl _ => exact q.elim
    | tw _ => exact q.elim
    | ref _ => exact q.elim
theorem pu_eqvs {h : MH} {n : Nat} (ih : ∀ d e p q, Pu n d → Pu n e → DP h d p → DP h e q → (PyData.eqv p q = true ↔ d = e)) : ∀ (ds es : List D) (ps qs : List PyData), (∀ x ∈ ds, Pu n x) → (∀ x ∈ es, Pu n x) → DPs h ds ps → DPs h es qs → (PyData.eqvAll ps qs = true ↔ ds = es)
  | [], [], _, _, _, _, .nil, .nil => by simp [PyData.eqvAll]
  | [], _ :: _, _, _, _, _, .nil, .cons _ _ => by simp [PyData.eqvAll]
  | _ :: _, [], _, _, _, _, .cons _ _, .nil => by simp [PyData.eqvAll]
  | d :: ds, e :: es, _, _, p1, p2, .cons a1 a2, .cons b1 b2 => by
    rw [PyData.eqvAll, Bool.and_eq_true, ih d e _ _ (p1 d (List.mem_cons_self ..)) (p2 e (List.mem_cons_self ..)) a1 b1, pu_eqvs ih ds es _ _ (fun x hx => p1 x (List.mem_cons_of_mem _ hx)) (fun x hx => p2 x (List.mem_cons_of_mem _ hx)) a2 b2, List.cons.injEq]
theorem pu_eqv {h : MH} : ∀ (n : Nat) (d e : D) (p q : PyData), Pu n d → Pu n e → DP h d p → DP h e q → (PyData.eqv p q = true ↔ d = e)
  | 0, _, _, _, _, q, _, _, _ => q.elim
  | n + 1, d, e, p, q, pd, pe, a, b => by
    cases d with
    | non =>
      cases a
      cases e with
      | non => cases b; simp [PyData.eqv]
      | int _ => cases b; simp [PyData.eqv]
      | tup _ => cases b; simp [PyData.eqv]
      | bl _ => exact pe.elim
      | str _ => exact pe.elim
      | rl _ => exact pe.elim
      | tw _ => exact pe.elim
      | ref _ => exact pe.elim
    | int i =>
      cases a
      cases e with
      | non => cases b; simp [PyData.eqv]
      | int _ => cases b; simp [PyData.eqv]
      | tup _ => cases b; simp [PyData.eqv]
      | bl _ => exact pe.elim
      | str _ => exact pe.elim
      | rl _ => exact pe.elim
      | tw _ => exact pe.elim
      | ref _ => exact pe.elim
    | tup ds =>
      cases a with | tup a =>
      cases e with
      | non => cases b; simp [PyData.eqv]
      | int _ => cases b; simp [PyData.eqv]
      | tup es =>
        cases b with | tup b =>
        rw [PyData.eqv, pu_eqvs (pu_eqv n) ds es _ _ pd pe a b, D.tup.injEq]
      | bl _ => exact pe.elim
      | str _ => exact pe.elim
      | rl _ => exact pe.elim
      | tw _ => exact pe.elim
      | ref _ => exact pe.elim
    | bl _ => exact pd.elim
    | str _ => exact pd.elim
    | rl _ => exact pd.elim
    | tw _ => exact pd.elim
    | ref _ => exact pd.elim
theorem shaped_of {p : PyData} {n : Nat} (l : p.canLay0 = true) (d : p.depth ≤ n) (hn : n ≤ 64) : SeqAt.shaped p = true := by
  unfold SeqAt.shaped
  rw [Bool.and_eq_true, decide_eq_true_eq]
  exact ⟨l, by omega⟩
section
variable {h : MH} {Q : MQ} {a b : Addr} {x y : D} {xs ys : List D}
theorem eqD_pu (px : Pu 9 x) (py : Pu 9 y) (q : ∀ b, (b = true ↔ x = y) → Q (.bl b) h) : rEqD x y h Q := by
  obtain ⟨p1, a1, a2, a3⟩ := pu_dp (h := h) 9 x px
  obtain ⟨p2, b1, b2, b3⟩ := pu_dp (h := h) 9 y py
  exact ⟨_, _, a1, b1, shaped_of a2 a3 (by decide), shaped_of b2 b3 (by decide), q _ (pu_eqv 9 x y _ _ px py a1 b1)⟩
theorem neD_pu (px : Pu 9 x) (py : Pu 9 y) (q : ∀ b, (b = true ↔ x ≠ y) → Q (.bl b) h) : rNeD x y h Q := by
  obtain ⟨p1, a1, a2, a3⟩ := pu_dp (h := h) 9 x px
  obtain ⟨p2, b1, b2, b3⟩ := pu_dp (h := h) 9 y py
  refine ⟨_, _, a1, b1, shaped_of a2 a3 (by decide), shaped_of b2 b3 (by decide), q _ ?_⟩
  rw [Bool.not_eq_true', ← Bool.not_eq_true, pu_eqv 9 x y _ _ px py a1 b1]
theorem dps_pu (px : ∀ x ∈ xs, Pu 9 x) : ∃ ps, DPs h xs ps ∧ SeqAt.shaped (.list ps) = true ∧ SeqAt.shaped (.tuple ps) = true := by
  obtain ⟨ps, b1, b2, b3⟩ := pu_dps (pu_dp (h := h) 9) xs px
  exact ⟨ps, b1, shaped_of (n := 10) (by rw [PyData.canLay0]; exact b2) (by rw [PyData.depth]; omega) (by decide), shaped_of (n := 10) (by rw [PyData.canLay0]; exact b2) (by rw [PyData.depth]; omega) (by decide)⟩
theorem eqD_pl (ea : h a = some (.lst xs)) (eb : h b = some (.lst ys)) (px : ∀ x ∈ xs, Pu 9 x) (py : ∀ x ∈ ys, Pu 9 x) (q : ∀ b, (b = true ↔ xs = ys) → Q (.bl b) h) : rEqD (.ref a) (.ref b) h Q := by
  obtain ⟨p1, a1, a2, _⟩ := dps_pu (h := h) px
  obtain ⟨p2, b1, b2, _⟩ := dps_pu (h := h) py
  refine ⟨_, _, .lst ea a1, .lst eb b1, a2, b2, q _ ?_⟩
  rw [PyData.eqv]
  exact pu_eqvs (pu_eqv 9) xs ys _ _ px py a1 b1
end
end M

namespace M
open PySem L2
/-! ### a constant tuple of the text -/
def gcTup {K : PySem.W.Frag} {mg : Str → Option Value} {x : Str} {T : Addr} {o : Obj} {its : Array Value} {n : Nat} {ds : List D} {vs : List V} (e : mg x = some (.ref T)) (lk : K.lookup T = some o) (hc : o.cls = .type "tuple") (hn : o.dict = none) (hd : o.data = .seq its n) (hz : its.size ≤ sizeLine) (r : Vals vs its.toList) (rv : ∀ H, RVs K H ds vs) : Gc K mg x (.tup ds) :=
  ⟨.ref T, .ref T, e, rfl, fun H => rv_tup (.inr ⟨o, its, n, lk, hc, hn, hd, hz, r⟩) (rv H)⟩
theorem rvs_nil {K : PySem.W.Frag} {H : Hp} : RVs K H [] [] := by simp only [RVs]
/-- a comprehension whose elements are new things -/
theorem lcR {env : ME} {e : MTE} {t : Tg} {S : MSrc} {h1 : MH} {Q : MQ} {vs : List Nat} (obj : Nat → MO) (ok : ∀ h', Fr [] h1 h' → S.ok h') (hz : S.n ≤ 100000)
    (turn : ∀ k h', k < S.n → Fr [] h1 h' → ∃ env2, asg t (S.item k) (mwipe env vs) = some env2 ∧ ∀ R : MQ, (∀ b h4, Fr [] h' h4 → h' b = none → h4 b = some (obj k) → R (.ref b) h4) → e env2 h' R)
    (fin : ∀ p h' (as : List Addr), Fr [] h1 h' → h1 p = none → h' p = some (.lst (as.map .ref)) → as.length = S.n → (∀ (n : Nat) (b : Addr), as[n]? = some b → h' b = some (obj n)) → Q (.ref p) h') : LcW S t mYes e vs env h1 Q := by
  intro p np
  refine ⟨fun k h' => Fr [] h1 h' ∧ ∃ as : List Addr, h' p = some (.lst (as.map .ref)) ∧ as.length = k ∧ ∀ (n : Nat) (b : Addr), as[n]? = some b → h' b = some (obj n) ∧ b ≠ p, ⟨.new np, [], up_same, rfl, by simp⟩, ?_⟩
  rintro k h' hk ⟨fr, as, ep, la, ha⟩
  refine ⟨ok h' fr, fun hl => ?_, fun e => fin p h' as fr np ep (la.trans e) fun n b hb => (ha n b hb).1⟩
  obtain ⟨env2, ea, ht⟩ := turn k h' hl fr
  refine ⟨env2, ea, ?_⟩
  show e env2 h' _
  refine ht _ fun b h4 f4 nb eb => ?_
  have e4 := f4.at0 ep
  have bp : b ≠ p := fun z => by rw [z, ep] at nb; cases nb
  refine ⟨_, e4, by rw [List.length_map, la, sizeLine_eq]; omega, ?_, as ++ [b], by rw [up_same, List.map_append]; rfl, by rw [List.length_append, la]; rfl, fun n c hc => ?_⟩
  · intro c o nc ec
    rw [up_ne (ne_of ec np)]
    exact f4.at0 (fr.at0 ec)
  · by_cases cn : n < k
    · rw [List.getElem?_append_left (by omega)] at hc
      obtain ⟨x1, x2⟩ := ha n c hc
      exact ⟨by rw [up_ne x2]; exact f4.at0 x1, x2⟩
    · rw [List.getElem?_append_right (by omega), la] at hc
      have e0 : n - k = 0 := by
        cases hz : n - k with
        | zero => rfl
        | succ m => rw [hz] at hc; simp at hc
      rw [e0] at hc
      simp at hc
      subst hc
      have : n = k := by omega
      subst this
      exact ⟨by rw [up_ne bp]; exact eb, bp⟩
theorem Fr.over {S : List Addr} {h h2 : MH} {p : Addr} {o : MO} (n : h p = none) (f : Fr S h h2) : Fr S h (up h2 p o) := fun b u nb e => by rw [up_ne (ne_of e n)]; exact f b u nb e
/-- displays of constants are constants -/
theorem tup2_C {a b : D} : mTup (mCons (mC a) (mCons (mC b) mNil)) = mC (.tup [a, b]) := by
  funext env h Q
  simp [mTup, mCons, mC, mNil, sizeLine_eq]
theorem tup3_C {a b c : D} : mTup (mCons (mC a) (mCons (mC b) (mCons (mC c) mNil))) = mC (.tup [a, b, c]) := by
  funext env h Q
  simp [mTup, mCons, mC, mNil, sizeLine_eq]
/-- a display of constants: the list -/
def mLC (ds : List D) : MTE := fun _ h Q => ∀ p, h p = none → Q (.ref p) (up h p (.lst ds))
theorem lst6_C {a b c d e f : D} : mLst (mCons (mC a) (mCons (mC b) (mCons (mC c) (mCons (mC d) (mCons (mC e) (mCons (mC f) mNil)))))) = mLC [a, b, c, d, e, f] := by
  funext env h Q
  simp [mLst, mCons, mC, mNil, sizeLine_eq, mLC]
theorem lstN_C : ∀ {ds : List D}, ds.length ≤ 100 → mLst (ds.foldr (fun d m => mCons (mC d) m) mNil) = mLC ds := by
  intro ds hl
  have key : ∀ (ds : List D) (env : ME) (h : MH) (Q : List D → MH → Prop), (ds.foldr (fun d m => mCons (mC d) m) mNil) env h Q = Q ds h := fun ds => by
    induction ds with
    | nil => intro env h Q; rfl
    | cons d ds ih =>
      intro env h Q
      show (ds.foldr (fun d m => mCons (mC d) m) mNil) env h (fun xs h2 => Q (d :: xs) h2) = _
      rw [ih]
  funext env h Q
  show (ds.foldr (fun d m => mCons (mC d) m) mNil) env h (fun xs h1 => xs.length ≤ sizeLine ∧ ∀ p, h1 p = none → Q (.ref p) (up h1 p (.lst xs))) = _
  rw [key]
  have : ds.length ≤ sizeLine := by rw [sizeLine_eq]; omega
  simp only [this, true_and]
  rfl
end M

namespace L2
open PySem PySem.Spec PyProof PyProof.Rows PySem.SeqAt PySem.W
/-! ### {(a, b): v}: a dict of one pair, its key a tuple -/
def tDisp1T (ta : TA) (tv : TE) : TE := fun σ H Q => ∀ p, H p = none → tTup ta σ (upd H p (.dT [])) fun x H1 => tv σ H1 fun y H2 =>
  ∃ (k : List Key) (q : Addr), x = .ref q ∧ H2 p = some (.dT []) ∧ H2 q = some (.tup (k.map kV)) ∧ Q (.ref p) (upd H2 p (.dT [(k, y)]))
theorem pe_disp1T {X : Cx} {pos p2 : Pos} {es : List Expr} {x1} {v : Expr} {ta : TA} {tv : TE} (hu : X.A.units + 64 < cLine) (ha : PA X es ta) (hv : PE X v tv) : PE X (.Dict [some (.Tuple es x1 p2)] [v] pos) (tDisp1T ta tv) := by
  refine ⟨fun pins s σ H Q I q => ?_⟩
  have hn := I.hok.fresh (Nat.le_refl s.heap.objs.size)
  have I1 := I.laid (a := s.heap.objs.size) (o := .dT []) (h' := s.heap.push { cls := .type "dict", data := .dict #[] }) (t' := s.toks) (fun _ _ q => Heap.get?_push_of_some _ q) (Nat.le_refl _) (dt_empty s.heap I.big)
  refine wpAny_Dict_any rfl rfl (by simp) (by simp) (thn ((pps_cons (pe_tup ha) hv pps_nil).run pins _ σ _ (fun ps H' => match ps with
    | [(x, y)] => ∃ (k : List Key) (q : Addr), x = .ref q ∧ H' s.heap.objs.size = some (.dT []) ∧ H' q = some (.tup (k.map kV)) ∧ Q (.ref s.heap.objs.size) (upd H' s.heap.objs.size (.dT [(k, y)]))
    | _ => False) I1 (q _ hn)) fun ws s2 ⟨ps, H2, I2, rel, q2⟩ => ?_)
  rcases ps with _ | ⟨⟨x, y⟩, _ | ⟨_, _⟩⟩
  · exact q2.elim
  · cases rel with
    | @cons _ b as bs h t =>
      cases t
      obtain ⟨k, c, ex, e, eb, q3⟩ := q2
      obtain ⟨u, w'⟩ := b
      obtain ⟨ru, rw'⟩ := h
      subst ex
      cases (show u = Value.ref c from ru)
      obtain ⟨z, hd, xs, rel, dd⟩ := dt_of I2.hok e
      cases rel
      unfold PySem.storeAll
      rw [List.forIn_cons]
      refine wpAny_bind (wpAny_bind (wpAny_dictSet_heap (hsz := Nat.zero_le _) (show X.A.units < cLine by omega) (key_of I2.hok eb) dd fun h' dd' hs => wpAny_pure ?_))
      show wpAny _ _ (forIn [] PUnit.unit _) _ _ _
      rw [List.forIn_nil]
      refine wpAny_pure ⟨.ref s.heap.objs.size, _, ?_, rfl, q3⟩
      obtain ⟨o, es', ep, hq, h2, h3, h4, _, h5⟩ := dd'
      refine d_write I2 (by rw [e]; exact True.intro) hs ⟨o, hq⟩ ⟨by show 1 ≤ sizeLine; decide, hd, _, (KT.put (kvs := []) (xs := []) .nil k eb rw').keeps fun c ys ec => ?_, o, es', ep, hq, h2, h3, h4, h5⟩
      rw [upd_ne (ne_of ec e (fun z => nomatch z))]
      exact ec
  · exact q2.elim
end L2
namespace M
open PySem L2
/-! ### dicts with keys of tuples -/
section
variable {κ : Type} [DecidableEq κ]
def dG (kvs : List (κ × D)) (k : κ) : Option D := (kvs.find? fun kv => decide (kv.1 = k)).map (·.2)
def dPutG (kvs : List (κ × D)) (k : κ) (v : D) : List (κ × D) :=
  if (kvs.any fun kv => decide (kv.1 = k)) = true then kvs.map (fun kv => if kv.1 = k then (kv.1, v) else kv) else kvs ++ [(k, v)]
variable {K : PySem.W.Frag} {H : Hp}
theorem rkvG_inv {p : κ × D} {kvs : List (κ × D)} {ws : List (κ × V)} (h : RKV K H (p :: kvs) ws) : ∃ v rs, ws = (p.1, v) :: rs ∧ RV K H p.2 v ∧ RKV K H kvs rs := by
  obtain ⟨h1, h2⟩ := h
  cases ws with
  | nil => cases h1
  | cons w rs =>
    rw [List.map_cons, List.map_cons] at h1
    injection h1 with a b
    rw [List.map_cons] at h2
    obtain ⟨v, r, e, q, t⟩ := h2.inv
    rw [List.map_cons] at e
    injection e with e1 e2
    subst e1 e2
    refine ⟨w.2, rs, ?_, q, b, t⟩
    rw [a]
theorem rkvG_nil {ws : List (κ × V)} (h : RKV K H ([] : List (κ × D)) ws) : ws = [] := by
  cases ws with
  | nil => rfl
  | cons _ _ => cases h.1
theorem rkvG_get {k : κ} : ∀ {kvs : List (κ × D)} {ws : List (κ × V)}, RKV K H kvs ws → (dG kvs k = none ∧ valV ws k = none) ∨ ∃ d v, dG kvs k = some d ∧ valV ws k = some v ∧ RV K H d v
  | [], ws, h => by rw [rkvG_nil h]; exact .inl ⟨rfl, rfl⟩
  | p :: kvs, _, h => by
    obtain ⟨v, rs, rfl, q, t⟩ := rkvG_inv h
    by_cases c : p.1 = k
    · exact .inr ⟨p.2, v, by simp [dG, List.find?_cons, c], by rw [valV_pos (p := (p.1, v)) c], q⟩
    · have e' : dG (p :: kvs) k = dG kvs k := by simp [dG, List.find?_cons, c]
      rw [e', valV_neg (p := (p.1, v)) c]
      exact rkvG_get t
theorem rkvG_any {k : κ} : ∀ {kvs : List (κ × D)} {ws : List (κ × V)}, RKV K H kvs ws → (kvs.any fun kv => decide (kv.1 = k)) = (ws.any fun kv => decide (kv.1 = k))
  | [], ws, h => by rw [rkvG_nil h]; rfl
  | p :: kvs, _, h => by
    obtain ⟨v, rs, rfl, q, t⟩ := rkvG_inv h
    rw [List.any_cons, List.any_cons, rkvG_any t]
theorem rkvG_map {k : κ} {d : D} {v : V} (r : RV K H d v) : ∀ {kvs : List (κ × D)} {ws : List (κ × V)}, RKV K H kvs ws → RKV K H (kvs.map fun kv => if kv.1 = k then (kv.1, d) else kv) (ws.map fun kv => if kv.1 = k then (kv.1, v) else kv)
  | [], ws, h => by rw [rkvG_nil h]; exact ⟨rfl, .nil⟩
  | p :: kvs, _, h => by
    obtain ⟨u, rs, rfl, q, t⟩ := rkvG_inv h
    have ih := rkvG_map (k := k) r t
    rw [List.map_cons, List.map_cons]
    by_cases c : p.1 = k
    · rw [if_pos c, if_pos (show (p.1, u).1 = k from c)]
      exact ⟨by rw [List.map_cons, List.map_cons, ih.1], by rw [List.map_cons, List.map_cons]; exact .cons r ih.2⟩
    · rw [if_neg c, if_neg (show ¬ (p.1, u).1 = k from c)]
      exact ⟨by rw [List.map_cons, List.map_cons, ih.1], by rw [List.map_cons, List.map_cons]; exact .cons q ih.2⟩
theorem rkvG_put {k : κ} {d : D} {v : V} {kvs : List (κ × D)} {ws : List (κ × V)} (h : RKV K H kvs ws) (r : RV K H d v) : RKV K H (dPutG kvs k d) (putK ws k v) := by
  unfold dPutG putK
  rw [rkvG_any h]
  split
  · exact rkvG_map r h
  · exact ⟨by rw [List.map_append, List.map_append, h.1]; rfl, by rw [List.map_append, List.map_append]; exact h.2.append (.cons r .nil)⟩
theorem rkvG_len {kvs : List (κ × D)} {ws : List (κ × V)} (h : RKV K H kvs ws) : kvs.length = ws.length := by
  have := congrArg List.length h.1
  rwa [List.length_map, List.length_map] at this
end
def keyT (k : List Key) : D := .tup (k.map keyD)
section
variable {K : PySem.W.Frag} {H : Hp}
theorem rvs_keys : ∀ {ks : List Key} {vs : List V}, RVs K H (ks.map keyD) vs → vs = ks.map kV
  | [], vs, h => by simpa only [List.map_nil, RVs] using h
  | k :: ks, vs, h => by
    rw [List.map_cons] at h
    obtain ⟨v, r, rfl, q, t⟩ := h.inv
    rw [keyD_rv q, rvs_keys t]; rfl
theorem rv_key {k : Key} : RV K H (keyD k) (kV k) := by
  cases k with
  | inl i => exact rv_int
  | inr x => exact rv_str
theorem rvs_keys' : ∀ {ks : List Key}, RVs K H (ks.map keyD) (ks.map kV)
  | [] => .nil
  | k :: ks => .cons rv_key rvs_keys'
end
/-- the dict at a, locked or not -/
def isT (h : MH) (a : Addr) (kvs : List (List Key × D)) : Prop := h a = some (.dT kvs) ∨ ∃ ws od, h a = some (.fT kvs ws od)
theorem HR.rdT {K : PySem.W.Frag} {h : MH} {H : Hp} (r : HR K h H) {a : Addr} {kvs : List (List Key × D)} (e : isT h a kvs) : ∃ ws, Rd H a (.dT ws) ∧ RKV K H kvs ws := by
  rcases e with e | ⟨ws, od, e⟩
  · obtain ⟨ws, E, q⟩ := r.dT e; exact ⟨ws, .inl E, q⟩
  · obtain ⟨E, q⟩ := r.fT e; exact ⟨ws, .inr ⟨od, E⟩, q⟩
theorem rd_upd {H : Hp} {a p : Addr} {u : HO} {o : HO} (r : Rd H a u) (n : H p = none) : Rd (upd H p o) a u := by
  rcases r with e | ⟨od, e⟩
  · exact .inl (by rw [upd_ne (L2.ne_of_none e n)]; exact e)
  · exact .inr ⟨od, by rw [upd_ne (L2.ne_of_none e n)]; exact e⟩
/-- d[(e1, ..)] -/
def mDGetT (o : MTE) (ts : MTA) : MTE := fun env h Q => o env h fun x h1 => ts env h1 fun ds h2 => ds.length ≤ 16 ∧ ∃ a kvs k d, x = .ref a ∧ isT h2 a kvs ∧ ds = List.map keyD k ∧ dG kvs k = some d ∧ Q d h2
/-- d.get((e1, ..), f) -/
def mDGet2T (o : MTE) (ts : MTA) (f : MTE) : MTE := fun env h Q => o env h fun x h1 => ∃ a, x = .ref a ∧ (∃ kvs, isT h1 a kvs) ∧ ts env h1 fun ds h2 => ds.length ≤ 16 ∧ f env h2 fun z h3 => ∃ kvs k, isT h3 a kvs ∧ ds = List.map keyD k ∧ Q ((dG kvs k).getD z) h3
/-- d[(e1, ..)] = e -/
def mPutDT (e o : MTE) (ts : MTA) : MTS := fun D' env h => e env h fun d h1 => o env h1 fun x h2 => ts env h2 fun ds h3 => ds.length ≤ 16 ∧ ∃ a kvs k, x = .ref a ∧ h3 a = some (.dT kvs) ∧ ds = List.map keyD k ∧ kvs.length < sizeLine ∧ D'.nx env (up h3 a (.dT (dPutG kvs k d)))
/-- {}, {(e1, ..): f} -/
def mDisp0T : MTE := fun _ h Q => ∀ p, h p = none → Q (.ref p) (up h p (.dT []))
def mDisp1T (ts : MTA) (f : MTE) : MTE := fun env h Q => ∀ p, h p = none → ts env (up h p (.dT [])) fun ds h1 => ds.length ≤ 16 ∧ f env h1 fun d h2 => ∃ k, ds = List.map keyD k ∧ h2 p = some (.dT []) ∧ Q (.ref p) (up h2 p (.dT [(k, d)]))
section
variable {X : Cx} {Hb : Hp} {o e f : Expr} {es : List Expr} {mo me mf : MTE} {ms : MTA} {pos pos' p2 apos cpos : Pos} {x1 : Nat}
theorem le16 {n : Nat} (h : n ≤ 16) : n ≤ sizeLine := by rw [sizeLine_eq]; omega
theorem ie_dgetT {y1} (hu : X.A.units + 64 < cLine) (ho : IE X Hb o mo) (hi : IA X Hb es ms) (hs : NoSl (.Tuple es y1 p2)) : IE X Hb (.Subscript o (.Tuple es y1 p2) pos) (mDGetT mo ms) := by
  refine pe_w (pe_dget (by omega) ho (pe_tup hi) hs) fun σ H Q ⟨env, h, Q0, re, rh, m, f⟩ => ?_
  refine ⟨env, h, _, re, rh, m, fun x h1 q1 vx H1 t1 r1 rx => ?_⟩
  refine ⟨env, h1, _, re.mono t1, r1, q1, fun ds h2 q vs H2 t2 r2 rs => ?_⟩
  obtain ⟨l16, a, kvs, k, d, rfl, e, rfl, ed, q⟩ := q
  have ev := rvs_keys rs
  subst ev
  refine ⟨by rw [List.length_map] at *; exact le16 l16, fun p np => ?_⟩
  obtain ⟨ws, E, rk⟩ := r2.rdT e
  rcases rkvG_get (k := k) rk with ⟨c, _⟩ | ⟨d', v, c, ev, rv⟩
  · rw [c] at ed; cases ed
  · rw [c] at ed; cases ed
    have t3 : TL H2 (upd H2 p (.tup (k.map kV))) := .new np
    refine ⟨a, v, (rx.mono t2).ref, .inr ⟨ws, k, p, rd_upd E np, rfl, upd_same, ev.symm⟩, f _ h2 q v _ (t1.trans (t2.trans t3)) (r2.skip np) (rv.mono t3)⟩
theorem ie_dget2T {y1} (hu : X.A.units + 64 < cLine) (ho : IE X Hb o mo) (hi : IA X Hb es ms) (hf : IE X Hb f mf) (m2 : M2 X o "get" apos (.Tuple es y1 p2) f cpos) : IE X Hb (.Call (.Attribute o "get" apos) [.Tuple es y1 p2, f] [] cpos) (mDGet2T mo ms mf) := by
  refine pe_w (pe_dget2 (by omega) ho (pe_tup hi) hf m2) fun σ H Q ⟨env, h, Q0, re, rh, m, f⟩ => ?_
  refine ⟨env, h, _, re, rh, m, fun x h1 q1 vx H1 t1 r1 rx => ?_⟩
  obtain ⟨a, rfl, ⟨kvs0, e0⟩, q1⟩ := q1
  obtain ⟨ws0, E0, _⟩ := r1.rdT e0
  refine ⟨a, rx.ref, .inr ⟨ws0, E0⟩, env, h1, _, re.mono t1, r1, q1, fun ds h2 q vs H2 t2 r2 rs => ?_⟩
  obtain ⟨l16, q⟩ := q
  refine ⟨by rw [← rs.length]; exact le16 l16, fun p np => ?_⟩
  have t3 : TL H2 (upd H2 p (.tup vs)) := .new np
  refine ⟨env, h2, _, (re.mono t1).mono (t2.trans t3), r2.skip np, q, fun z h3 q3 vz H3 t4 r4 rz => ?_⟩
  obtain ⟨kvs, k, e, rfl, q9⟩ := q3
  have ev := rvs_keys rs
  subst ev
  obtain ⟨ws, E, rk⟩ := r4.rdT e
  have eb : H3 p = some (.tup (k.map kV)) := t4.1 _ _ upd_same
  have tt := t1.trans (t2.trans (t3.trans t4))
  rcases rkvG_get (k := k) rk with ⟨c, ev⟩ | ⟨d', v, c, ev, rv⟩
  · refine ⟨none, .inr ⟨ws, k, p, E, rfl, eb, ev.symm⟩, f _ h3 q9 _ H3 tt r4 ?_⟩
    rw [c]; exact rz
  · refine ⟨some v, .inr ⟨ws, k, p, E, rfl, eb, ev.symm⟩, f _ h3 q9 _ H3 tt r4 ?_⟩
    rw [c]; exact rv
theorem is_dputT {y1} (hu : X.A.units + 64 < cLine) (he : IE X Hb e me) (ho : IE X Hb o mo) (hi : IA X Hb es ms) (hs : swapsWith e (some (.Subscript o (.Tuple es y1 p2) pos')) pos.line X.env = pure false := by rfl) : IS X Hb (.Assign [.Subscript o (.Tuple es y1 p2) pos'] e pos) (mPutDT me mo ms) := by
  refine is_of (ps_dput (by omega) ho (pe_tup hi) he hs) fun D' σ H env h D0 re rh m f => ?_
  refine ⟨env, h, _, re, rh, m, fun d h1 q1 v H1 t1 r1 rv => ?_⟩
  refine ⟨env, h1, _, re.mono t1, r1, q1, fun x h2 q2 vx H2 t2 r2 rx => ?_⟩
  refine ⟨env, h2, _, (re.mono t1).mono t2, r2, q2, fun ds h3 q3 vs H3 t3 r3 rs => ?_⟩
  obtain ⟨l16, a, kvs, k, rfl, ea, rfl, lk, q⟩ := q3
  have ev := rvs_keys rs
  subst ev
  refine ⟨by rw [List.length_map] at *; exact le16 l16, fun p np => ?_⟩
  obtain ⟨ws, E, rk⟩ := r3.dT ea
  have t4 : TL H3 (upd H3 p (.tup (k.map kV))) := .new np
  have E4 : (upd H3 p (.tup (k.map kV))) a = some (.dT ws) := by rw [upd_ne (L2.ne_of_none E np)]; exact E
  have rv4 := rv.mono (t2.trans (t3.trans t4))
  have t5 : TL (upd H3 p (.tup (k.map kV))) (upd (upd H3 p (.tup (k.map kV))) a (.dT (putK ws k v))) := .put E4 (fun _ z => by cases z) (fun _ _ z => by cases z)
  have tt := t1.trans (t2.trans (t3.trans (t4.trans t5)))
  exact ⟨a, _, (rx.mono t3).ref, DPut.t E4 upd_same (by rw [← rkvG_len rk]; exact lk), f.nx env _ q σ _ tt (re.mono tt) ((r3.skip np).put t5 ⟨_, rfl, (rkvG_put (rk.mono t4) rv4).mono t5⟩)⟩
theorem ie_disp0T : IE X Hb (.Dict [] [] pos) mDisp0T := by
  refine pe_w pe_dnewT fun σ H Q ⟨env, h, Q0, re, rh, m, f⟩ => fun p np => ?_
  exact f _ _ (m p (rh.free np)) _ _ (.new np) (rh.new np ⟨[], rfl, rfl, .nil⟩) rv_ref
theorem ie_disp1T {y1} (hu : X.A.units + 64 < cLine) (hi : IA X Hb es ms) (hf : IE X Hb f mf) : IE X Hb (.Dict [some (.Tuple es y1 p2)] [f] pos) (mDisp1T ms mf) := by
  refine pe_w (pe_disp1T hu hi hf) fun σ H Q ⟨env, h, Q0, re, rh, m, f⟩ => fun p np => ?_
  have t0 : TL H (upd H p (.dT [])) := .new np
  refine ⟨env, _, _, re.mono t0, rh.new (m := .dT []) np ⟨[], rfl, rfl, .nil⟩, m p (rh.free np), fun ds h1 q vs H1 t1 r1 rs => ?_⟩
  obtain ⟨l16, q⟩ := q
  refine ⟨by rw [← rs.length]; exact le16 l16, fun b nb => ?_⟩
  have t2 : TL H1 (upd H1 b (.tup vs)) := .new nb
  refine ⟨env, h1, _, re.mono (t0.trans (t1.trans t2)), r1.skip nb, q, fun d h2 q2 v H2 t3 r3 rv => ?_⟩
  obtain ⟨k, rfl, ep, q⟩ := q2
  have ev := rvs_keys rs
  subst ev
  obtain ⟨ws, E, rk⟩ := r3.dT ep
  have := rkvG_nil rk
  subst this
  have eb : H2 b = some (.tup (k.map kV)) := t3.1 _ _ upd_same
  have t4 : TL H2 (upd H2 p (.dT [(k, v)])) := .put E (fun _ z => by cases z) (fun _ _ z => by cases z)
  refine ⟨k, b, rfl, E, eb, f _ _ q _ _ (t0.trans (t1.trans (t2.trans (t3.trans t4)))) (r3.put t4 ⟨[(k, v)], rfl, rfl, ?_⟩) rv_ref⟩
  exact .cons (rv.mono t4) .nil
end
/-! ### for .. in d, d locked meanwhile -/
def srcT (d : Addr) (kvs : List (List Key × D)) (ws : List (List Key × V)) (od : Obj) : MSrc := ⟨kvs.length, fun i => match kvs[i]? with
  | some kv => .tw (kv.1.map keyD)
  | none => .non, fun h' => h' d = some (.fT kvs ws od)⟩
def mKeysF (n : Nat) : MTI := fun env h R => ∃ d kvs ws od, env[n]? = some (some (.ref d)) ∧ h d = some (.fT kvs ws od) ∧ R (srcT d kvs ws od) h
def mLockT (n : Nat) (m : MTS) : MTS := fun D' env h => ∃ d kvs, env[n]? = some (some (.ref d)) ∧ h d = some (.dT kvs) ∧ ∀ ws od,
  m ⟨fun env' h' => h' d = some (.fT kvs ws od) ∧ D'.nx env' (up h' d (.dT kvs)), fun v h' => h' d = some (.fT kvs ws od) ∧ D'.rt v (up h' d (.dT kvs)), fun env' h' => h' d = some (.fT kvs ws od) ∧ D'.bk env' (up h' d (.dT kvs)), fun env' h' => h' d = some (.fT kvs ws od) ∧ D'.ct env' (up h' d (.dT kvs))⟩ env (up h d (.fT kvs ws od))
section
variable {X : Cx} {Hb : Hp} {tg e : Expr} {n : Nat} {st : Stmt} {m : MTS}
theorem so_T {K : PySem.W.Frag} {H : Hp} {d : Addr} {kvs : List (List Key × D)} {ws : List (List Key × V)} {od : Obj} (rk : RKV K H kvs ws) : SrcOk K H (srcT d kvs ws od) (Itkt d od ws) where
  go := fun i h H' t r ok hi => ⟨(r.fT ok).1, by rw [← rkvG_len (r.fT ok).2]; exact hi⟩
  stop := fun h H' t r ok => ⟨(r.fT ok).1, by rw [← rkvG_len (r.fT ok).2]; exact Nat.le_refl _⟩
  yld := fun i h H' t r ok hi x H2 y => by
    obtain ⟨rfl, k, v, q, e1, rfl, e2⟩ := y
    refine ⟨.refl _, r, ?_⟩
    have hk : (kvs.map (·.1))[i]? = some k := by rw [rk.1, List.getElem?_map, e1]; rfl
    rw [List.getElem?_map] at hk
    obtain ⟨kv, e3, e4⟩ := Option.map_eq_some_iff.mp hk
    show RV K _ (match kvs[i]? with
      | some kv => .tw (kv.1.map keyD)
      | none => .non) _
    rw [e3]
    show RV K _ (.tw (kv.1.map keyD)) _
    rw [e4]
    exact rv_tw (.of e2) rvs_keys'
theorem ii_keysF (he : IE X Hb e (mVar n)) : II X Hb tg e (mKeysF n) := by
  refine pi_w (pi_keys he) fun σ H R ⟨env, h, Q0, re, rh, ⟨d, kvs, ws, od, en, ed, m⟩, f⟩ => ?_
  refine ⟨env, h, fun x h' => x = .ref d ∧ h' = h, re, rh, ⟨_, en, rfl, rfl⟩, ?_⟩
  rintro _ _ ⟨rfl, rfl⟩ v H1 t1 r1 rx
  obtain ⟨E, rk⟩ := r1.fT ed
  exact ⟨d, od, rx.ref, .inr ⟨ws, E, f _ _ m _ H1 t1 r1 (so_T rk)⟩⟩
theorem is_lockT (hs : IS X Hb st m) : IS X Hb st (mLockT n m) := by
  refine is_of (ps_lock hs) fun D' σ H env h D0 re rh ⟨d, kvs, en, ed, mm⟩ f => ?_
  obtain ⟨ws, E, rk⟩ := rh.dT ed
  refine ⟨d, .dT ws, E, True.intro, fun od => ?_⟩
  have t1 : TL H (upd H d (.frz od (.dT ws))) := .lock E
  refine liftS_iff.mpr ⟨env, _, _, re.mono t1, rh.put (m := .fT kvs ws od) t1 ⟨rfl, rk.mono t1⟩, mm ws od, ?_, ?_, ?_, ?_⟩
  · rintro env' h' ⟨e', q⟩ σ' H' t re' rh'
    obtain ⟨E', rk'⟩ := rh'.fT e'
    have t2 : TL H' (upd H' d (.dT ws)) := .unlock E'
    exact ⟨E', f.nx env' _ q σ' _ (t1.trans (t.trans t2)) (re'.mono t2) (rh'.put t2 ⟨ws, rfl, rk'.mono t2⟩)⟩
  · rintro v h' ⟨e', q⟩ v' H' t rv' rh'
    obtain ⟨E', rk'⟩ := rh'.fT e'
    have t2 : TL H' (upd H' d (.dT ws)) := .unlock E'
    exact ⟨E', f.rt v _ q v' _ (t1.trans (t.trans t2)) (rv'.mono t2) (rh'.put t2 ⟨ws, rfl, rk'.mono t2⟩)⟩
  · rintro env' h' ⟨e', q⟩ σ' H' t re' rh'
    obtain ⟨E', rk'⟩ := rh'.fT e'
    have t2 : TL H' (upd H' d (.dT ws)) := .unlock E'
    exact ⟨E', f.bk env' _ q σ' _ (t1.trans (t.trans t2)) (re'.mono t2) (rh'.put t2 ⟨ws, rfl, rk'.mono t2⟩)⟩
  · rintro env' h' ⟨e', q⟩ σ' H' t re' rh'
    obtain ⟨E', rk'⟩ := rh'.fT e'
    have t2 : TL H' (upd H' d (.dT ws)) := .unlock E'
    exact ⟨E', f.ct env' _ q σ' _ (t1.trans (t.trans t2)) (re'.mono t2) (rh'.put t2 ⟨ws, rfl, rk'.mono t2⟩)⟩
end
section
variable {D' : MEnds} {env : ME} {h : MH} {e o : MTE} {ts : MTA} {n : Nat} {m : MTS}
theorem putDT_ (q : e env h fun d h1 => o env h1 fun x h2 => ts env h2 fun ds h3 => ds.length ≤ 16 ∧ ∃ a kvs k, x = .ref a ∧ h3 a = some (.dT kvs) ∧ ds = List.map keyD k ∧ kvs.length < sizeLine ∧ D'.nx env (up h3 a (.dT (dPutG kvs k d)))) : mPutDT e o ts D' env h := q
theorem lockT_ (q : ∃ d kvs, env[n]? = some (some (.ref d)) ∧ h d = some (.dT kvs) ∧ ∀ ws od,
  m ⟨fun env' h' => h' d = some (.fT kvs ws od) ∧ D'.nx env' (up h' d (.dT kvs)), fun v h' => h' d = some (.fT kvs ws od) ∧ D'.rt v (up h' d (.dT kvs)), fun env' h' => h' d = some (.fT kvs ws od) ∧ D'.bk env' (up h' d (.dT kvs)), fun env' h' => h' d = some (.fT kvs ws od) ∧ D'.ct env' (up h' d (.dT kvs))⟩ env (up h d (.fT kvs ws od))) : mLockT n m D' env h := q
end
end M

namespace M
open PySem PySem.Spec PyProof.Rows L2
/-! ### list(zip(a, b)) of two lists -/
abbrev ZipO (h : Heap) (z TI TO : Addr) (f0 : Value) (f : Bool) : Prop :=
  h.get? z = some { cls := .type "zip", dict := none, data := .fields #[f0, .bool f, .bool false, .ref TI, .ref TO], slots := #[] }
section
variable {prog : Program} {w : World} {A : Around} {E : Value → Shared → Prop} {s : Shared}
theorem wp_setflag {z TI TO : Addr} {f0 : Value} {f : Bool} {Q : Bool → Shared → Prop} (hz : ZipO s.heap z TI TO f0 f) (h : ∀ h₃, ZipO h₃ z TI TO f0 true → Heap.SameBut z s.heap h₃ → Q false { s with heap := h₃ }) :
    wpAny (model prog w) A (if (Value.bool f != Value.bool true) = true then do
      setField (Value.ref z) 1 (Value.bool true)
      pure false
    else pure false) Q E s := by
  cases f with
  | true =>
    rw [if_neg (show ¬ ((Value.bool true != Value.bool true) = true) from Bool.false_ne_true)]
    exact wpAny_pure (h s.heap hz (Heap.SameBut.refl _ _))
  | false =>
    rw [if_pos (show (Value.bool false != Value.bool true) = true from rfl)]
    exact wpAny_bind (wpAny_setField_rec hz (by simp) fun h₃ he₃ hs₃ => wpAny_pure (h h₃ he₃ hs₃))
theorem zip_own_item {z TI TO i1 i2 l1 l2 a : Addr} {f : Bool} {oa : Obj} {k1 k2 : Nat} {xs ys : Array Value} {x y : Value} {Q : Value → Shared → Prop} (D : ZipApart z TI TO i1 i2 l1 l2)
    (hz : ZipO s.heap z TI TO (rawInt a) f) (ha : s.heap.get? a = some oa) (hTI : IsPair s.heap TI (.ref i1) (.ref i2))
    (h1 : s.heap.IsListIter i1 l1 k1) (h2 : s.heap.IsListIter i2 l2 k2) (hl1 : s.heap.IsList l1 xs) (hl2 : s.heap.IsList l2 ys) (hx : xs[k1]? = some x) (hy : ys[k2]? = some y)
    (hQ : ∀ h', ZipO h' z TI TO (rawInt a) true → h'.IsListIter i1 l1 (k1 + 1) → h'.IsListIter i2 l2 (k2 + 1) → IsPair h' s.heap.objs.size x y → h'.objs.size = s.heap.objs.size + 1 →
      (∀ c o, c ≠ z → c ≠ i1 → c ≠ i2 → s.heap.get? c = some o → h'.get? c = some o) → Q (.ref s.heap.objs.size) { s with heap := h' }) :
    wpAny (model prog w) A (Builtin.«zip.__next__» ⟨[.ref z], []⟩) (fun fin s' => ∃ v, fin = .done (.ret v) ∧ Q v s') E s := by
  show wpAny _ _ (field (.ref z) 2 >>= _) _ _ _
  refine wpAny_bind (wpAny_field hz rfl (x := .bool false) rfl ?_)
  show wpAny _ _ (field (.ref z) 3 >>= _) _ _ _
  refine wpAny_bind (wpAny_field hz rfl (x := .ref TI) rfl ?_)
  refine wpAny_bind (wpAny_seqItems hTI rfl ?_)
  show wpAny _ _ (Builtin.SmallTypes.ownedTupleIsFree (.ref z) >>= _) _ _ _
  refine wpAny_bind ?_
  unfold Builtin.SmallTypes.ownedTupleIsFree
  refine wpAny_bind (wpAny_field hz rfl (x := rawInt a) rfl ?_)
  show wpAny _ _ (loadIfAlive ((a : Int).toNat) >>= _) _ _ _
  rw [Int.toNat_natCast]
  refine wpAny_bind (PySem.W.kdx_alive ha ?_)
  simp only [Option.isNone_some, Bool.false_eq_true, if_false]
  refine wpAny_bind (wpAny_field hz rfl (x := .bool f) rfl ?_)
  refine wp_setflag hz fun h₃ hz₃ hs₃ => ?_
  simp only [Bool.false_eq_true, if_false]
  refine wpAny_bind ?_
  first
  | rw [List.forIn_toArray]
  | (rw [← Array.forIn_toList]; simp only [List.toList_toArray])
  | rw [← Array.forIn_toList]
  simp only [List.forIn_cons, List.forIn_nil]
  refine wpAny_bind (wpAny_bind (wpAny_holding ?_))
  show wpAny _ _ (do let x ← Builtin.SmallTypes.nextOf (.ref i1); pure (some x)) _ _ _
  refine wpAny_bind (wpAny_nextOf_list_item (h1.extBut hs₃.extBut D.i1z) (hl1.extBut hs₃.extBut D.l1z) hx fun h₄ h1₄ hs₄ => wpAny_pure ?_)
  dsimp only
  refine wpAny_pure ?_
  dsimp only
  refine wpAny_bind (wpAny_bind (wpAny_holding ?_))
  show wpAny _ _ (do let x ← Builtin.SmallTypes.nextOf (.ref i2); pure (some x)) _ _ _
  refine wpAny_bind (wpAny_nextOf_list_item ((h2.extBut hs₃.extBut D.i2z).extBut hs₄.extBut D.i12.symm) ((hl2.extBut hs₃.extBut D.l2z).extBut hs₄.extBut D.l2i1) hy fun h₅ h2₅ hs₅ => wpAny_pure ?_)
  dsimp only
  refine wpAny_pure ?_
  dsimp only
  refine wpAny_pure ?_
  dsimp only
  refine wpAny_bind (wpAny_newTuple ?_ (by show 2 ≤ sizeLine; decide))
  have hsz : h₅.objs.size = s.heap.objs.size := by rw [hs₅.1, hs₄.1, hs₃.1]
  have kp : ∀ c o, c ≠ z → c ≠ i1 → c ≠ i2 → s.heap.get? c = some o → (h₅.push { cls := .type "tuple", data := .seq #[x, y] }).get? c = some o := fun c o c1 c2 c3 e =>
    Heap.get?_push_of_some _ (hs₅.extBut _ _ c3 (hs₄.extBut _ _ c2 (hs₃.extBut _ _ c1 e)))
  refine wpAny_pure ⟨_, rfl, ?_⟩
  show Q (.ref h₅.objs.size) _
  have hq := hQ (h₅.push { cls := .type "tuple", data := .seq #[x, y] }) (Heap.get?_push_of_some _ (hs₅.extBut _ _ D.i2z.symm (hs₄.extBut _ _ D.i1z.symm hz₃)))
    ((h1₄.extBut hs₅.extBut D.i12).at fun o e => Heap.get?_push_of_some _ e) (h2₅.at fun o e => Heap.get?_push_of_some _ e) (by rw [← hsz]; exact Heap.get?_push_size _ rfl) (by rw [Heap.size_push, hsz]) kp
  rw [hsz]
  exact hq
theorem zip_own_end {z TI TO i1 i2 l1 l2 a : Addr} {f : Bool} {oa : Obj} {k1 k2 : Nat} {xs ys : Array Value} {Q : PySem.Fin → Shared → Prop} (hh : A.handled = none) (D : ZipApart z TI TO i1 i2 l1 l2)
    (hz : ZipO s.heap z TI TO (rawInt a) f) (ha : s.heap.get? a = some oa) (hTI : IsPair s.heap TI (.ref i1) (.ref i2))
    (h1 : s.heap.IsListIter i1 l1 k1) (h2 : s.heap.IsListIter i2 l2 k2) (hl1 : s.heap.IsList l1 xs) (hl2 : s.heap.IsList l2 ys) (hend : xs[k1]? = none ∨ ys[k2]? = none)
    (hE : ∀ h' e, (∀ c o, c ≠ z → c ≠ i1 → c ≠ i2 → s.heap.get? c = some o → h'.get? c = some o) → (∃ o, h'.get? e = some o ∧ o.cls = .type "StopIteration") → E (.ref e) { s with heap := h' }) :
    wpAny (model prog w) A (Builtin.«zip.__next__» ⟨[.ref z], []⟩) Q E s := by
  show wpAny _ _ (field (.ref z) 2 >>= _) _ _ _
  refine wpAny_bind (wpAny_field hz rfl (x := .bool false) rfl ?_)
  show wpAny _ _ (field (.ref z) 3 >>= _) _ _ _
  refine wpAny_bind (wpAny_field hz rfl (x := .ref TI) rfl ?_)
  refine wpAny_bind (wpAny_seqItems hTI rfl ?_)
  show wpAny _ _ (Builtin.SmallTypes.ownedTupleIsFree (.ref z) >>= _) _ _ _
  refine wpAny_bind ?_
  unfold Builtin.SmallTypes.ownedTupleIsFree
  refine wpAny_bind (wpAny_field hz rfl (x := rawInt a) rfl ?_)
  show wpAny _ _ (loadIfAlive ((a : Int).toNat) >>= _) _ _ _
  rw [Int.toNat_natCast]
  refine wpAny_bind (PySem.W.kdx_alive ha ?_)
  simp only [Option.isNone_some, Bool.false_eq_true, if_false]
  refine wpAny_bind (wpAny_field hz rfl (x := .bool f) rfl ?_)
  refine wp_setflag hz fun h₃ hz₃ hs₃ => ?_
  simp only [Bool.false_eq_true, if_false]
  refine wpAny_bind ?_
  first
  | rw [List.forIn_toArray]
  | (rw [← Array.forIn_toList]; simp only [List.toList_toArray])
  | rw [← Array.forIn_toList]
  simp only [List.forIn_cons, List.forIn_nil]
  refine wpAny_bind (wpAny_bind (wpAny_holding ?_))
  show wpAny _ _ (do let x ← Builtin.SmallTypes.nextOf (.ref i1); pure (some x)) _ _ _
  cases hx : xs[k1]? with
  | none =>
    refine wpAny_bind (wpAny_nextOf_list_end hh (h1.extBut hs₃.extBut D.i1z) (hl1.extBut hs₃.extBut D.l1z) hx fun h₄ e hs₄ he => ?_)
    exact hE h₄ e (fun c o c1 c2 _ x => hs₄ _ _ c2 (hs₃.extBut _ _ c1 x)) he
  | some x =>
    have hy : ys[k2]? = none := by rcases hend with h | h; rw [hx] at h; cases h; exact h
    refine wpAny_bind (wpAny_nextOf_list_item (h1.extBut hs₃.extBut D.i1z) (hl1.extBut hs₃.extBut D.l1z) hx fun h₄ h1₄ hs₄ => wpAny_pure ?_)
    dsimp only
    refine wpAny_pure ?_
    dsimp only
    refine wpAny_bind (wpAny_bind (wpAny_holding ?_))
    show wpAny _ _ (do let x ← Builtin.SmallTypes.nextOf (.ref i2); pure (some x)) _ _ _
    refine wpAny_bind (wpAny_nextOf_list_end hh ((h2.extBut hs₃.extBut D.i2z).extBut hs₄.extBut D.i12.symm) ((hl2.extBut hs₃.extBut D.l2z).extBut hs₄.extBut D.l2i1) hy fun h₅ e hs₅ he => ?_)
    exact hE h₅ e (fun c o c1 c2 c3 x => hs₅ _ _ c3 (hs₄.extBut _ _ c2 (hs₃.extBut _ _ c1 x))) he
/-- zip's state as it is gone through: nothing handed out yet, or a pair that still stands -/
def ZipSt (h : Heap) (z TI TO i1 i2 l1 l2 S : Addr) (i : Nat) : Prop :=
  ((i = 0 ∧ IsZip h z TI TO .none ∧ ∃ p q, IsPair h TO p q) ∨ ∃ (a : Addr) (f : Bool) (oa : Obj), ZipO h z TI TO (rawInt a) f ∧ h.get? a = some oa ∧ a ≠ z ∧ a ≠ TO ∧ a ≠ i1 ∧ a ≠ i2 ∧ a ≠ S) ∧
  IsPair h TI (.ref i1) (.ref i2) ∧ h.IsListIter i1 l1 i ∧ h.IsListIter i2 l2 i
theorem zip_item {z TI TO i1 i2 l1 l2 S : Addr} {i : Nat} {xs ys : Array Value} {x y : Value} {Q : Option Value → Shared → Prop} (D : ZipApart z TI TO i1 i2 l1 l2)
    (hst : ZipSt s.heap z TI TO i1 i2 l1 l2 S i) (hS : S < s.heap.objs.size) (hl1 : s.heap.IsList l1 xs) (hl2 : s.heap.IsList l2 ys) (hx : xs[i]? = some x) (hy : ys[i]? = some y)
    (hQ : ∀ h', ZipSt h' z TI TO i1 i2 l1 l2 S (i + 1) → IsPair h' s.heap.objs.size x y → h'.objs.size = s.heap.objs.size + 1 →
      (∀ c o, c ≠ z → c ≠ TO → c ≠ i1 → c ≠ i2 → s.heap.get? c = some o → h'.get? c = some o) → Q (some (.ref s.heap.objs.size)) { s with heap := h' }) :
    wpAny (model prog w) A (pyNext (.ref z)) Q E s := by
  obtain ⟨hd, hTI, h1, h2⟩ := hst
  have l1' : i1 < s.heap.objs.size := by obtain ⟨_, e, _⟩ := h1; exact Heap.lt_size e
  have l2' : i2 < s.heap.objs.size := by obtain ⟨_, e, _⟩ := h2; exact Heap.lt_size e
  rcases hd with ⟨rfl, hz, p, q, hTO⟩ | ⟨a, f, oa, hz, ha, a1, a2, a3, a4, a5⟩
  · refine wpAny_pyNext_zip_item D hz hTI hTO h1 h2 hl1 hl2 hx hy fun h' z' TO' h1' h2' hT hsz hk => hQ h' ⟨.inr ⟨s.heap.objs.size, false, { cls := .type "tuple", data := .seq #[x, y] }, z', hT, ?_, ?_, ?_, ?_, ?_⟩, ?_, h1', h2'⟩ hT hsz hk
    · exact Nat.ne_of_gt (Heap.lt_size hz)
    · exact Nat.ne_of_gt (Heap.lt_size hTO)
    · exact Nat.ne_of_gt l1'
    · exact Nat.ne_of_gt l2'
    · exact Nat.ne_of_gt hS
    · exact hk _ _ D.TIz D.TITO D.TIi1 D.TIi2 hTI
  · have hT : s.TypeIs (.ref z) "zip" := ⟨_, hz, rfl⟩
    unfold pyNext
    refine wpAny_bind (wpAny_attempt (wpAny_callSpecial?_slot (name := Str.ofString "__next__") hT F.slot_zip_next
      (wpAny_call_entry F.slot_zip_next hT F.entry_zip_next
        (zip_own_item D hz ha hTI h1 h2 hl1 hl2 hx hy fun h' z' h1' h2' hT hsz hk => wpAny_pure (hQ h' ⟨.inr ⟨a, true, oa, z', ?_, a1, a2, a3, a4, a5⟩, ?_, h1', h2'⟩ hT hsz fun c o c1 _ c3 c4 e => hk c o c1 c3 c4 e)) (F.args_zip_next_1 _))))
    · exact hk _ _ a1 a3 a4 ha
    · exact hk _ _ D.TIz D.TIi1 D.TIi2 hTI
theorem zip_end {z TI TO i1 i2 l1 l2 S : Addr} {i : Nat} {xs ys : Array Value} {Q : Option Value → Shared → Prop} (hh : A.handled = none) (D : ZipApart z TI TO i1 i2 l1 l2)
    (hst : ZipSt s.heap z TI TO i1 i2 l1 l2 S i) (hl1 : s.heap.IsList l1 xs) (hl2 : s.heap.IsList l2 ys) (hend : xs[i]? = none ∨ ys[i]? = none)
    (hQ : ∀ h', (∀ c o, c ≠ z → c ≠ TO → c ≠ i1 → c ≠ i2 → s.heap.get? c = some o → h'.get? c = some o) → Q none { s with heap := h' }) : wpAny (model prog w) A (pyNext (.ref z)) Q E s := by
  obtain ⟨hd, hTI, h1, h2⟩ := hst
  rcases hd with ⟨rfl, hz, p, q, hTO⟩ | ⟨a, f, oa, hz, ha, a1, a2, a3, a4, a5⟩
  · exact wpAny_pyNext_zip_end hh D hz hTI hTO h1 h2 hl1 hl2 hend hQ
  · have hT : s.TypeIs (.ref z) "zip" := ⟨_, hz, rfl⟩
    unfold pyNext
    refine wpAny_bind (wpAny_attempt (wpAny_callSpecial?_slot (name := Str.ofString "__next__") hT F.slot_zip_next
      (wpAny_call_entry F.slot_zip_next hT F.entry_zip_next (zip_own_end hh D hz ha hTI h1 h2 hl1 hl2 hend fun h' e hk he => ?_) (F.args_zip_next_1 _))))
    obtain ⟨o, ho, hc⟩ := he
    refine wpAny_bind (wpAny_isInstance (T := "StopIteration") (b := true) ⟨o, ho, hc⟩ isSubtype_stop ?_)
    exact wpAny_pure (hQ _ fun c o c1 _ c3 c4 e => hk c o c1 c3 c4 e)
theorem ZipSt.keep {h h' : Heap} {z TI TO i1 i2 l1 l2 S i : Nat} (st : ZipSt h z TI TO i1 i2 l1 l2 S i) (k : ∀ b o, b ≠ S → h.get? b = some o → h'.get? b = some o) (nz : z ≠ S) (nI : TI ≠ S) (nO : TO ≠ S) (n1 : i1 ≠ S) (n2 : i2 ≠ S) : ZipSt h' z TI TO i1 i2 l1 l2 S i := by
  obtain ⟨hd, hTI, h1, h2⟩ := st
  refine ⟨?_, k _ _ nI hTI, h1.at fun o e => k _ o n1 e, h2.at fun o e => k _ o n2 e⟩
  rcases hd with ⟨rfl, hz, p, q, hTO⟩ | ⟨a, f, oa, hz, ha, a1, a2, a3, a4, a5⟩
  · exact .inl ⟨rfl, k _ _ nz hz, p, q, k _ _ nO hTO⟩
  · exact .inr ⟨a, f, oa, k _ _ nz hz, k _ _ a5 ha, a1, a2, a3, a4, a5⟩
end
theorem ngt {a b c : Addr} (h : a < c) (q : c ≤ b) : b ≠ a := fun e => by rw [e] at q; exact absurd (Nat.lt_of_lt_of_le h q) (Nat.lt_irrefl _)
/-- the pairs that were made -/
structure PairsM (xs ys : Array Value) (lo : Addr) (h : Heap) (as : List Addr) : Prop where
  rise : as.Pairwise (· < ·)
  above : ∀ a ∈ as, lo ≤ a
  pairs : ∀ (j : Nat) (a : Addr), as[j]? = some a → ∃ x y, xs[j]? = some x ∧ ys[j]? = some y ∧ IsPair h a x y
theorem PairsM.there {xs ys : Array Value} {lo : Addr} {h : Heap} {as : List Addr} (g : PairsM xs ys lo h as) {a : Addr} (ha : a ∈ as) : a < h.objs.size := by
  obtain ⟨j, hj⟩ := List.mem_iff_getElem?.mp ha
  obtain ⟨_, _, _, _, e⟩ := g.pairs j a hj
  exact Heap.lt_size e
section
variable {prog : Program} {w : World} {A : Around} {s : Shared} {R : Result → Shared → Prop}
theorem zip_loop {S z TI TO i1 i2 l1 l2 lo : Addr} {xs ys : Array Value} {n : Nat} (hh : A.handled = none) (D : ZipApart z TI TO i1 i2 l1 l2) (hn : n = min xs.size ys.size) (hsz : n ≤ sizeLine)
    (nz : z ≠ S) (nI : TI ≠ S) (nO : TO ≠ S) (n1 : i1 ≠ S) (n2 : i2 ≠ S) (m1 : l1 ≠ S) (m2 : l2 ≠ S) (bS : S < lo) (bz : z < lo) (bO : TO < lo) (b1 : i1 < lo) (b2 : i2 < lo) (res : Value) {h₁ : Heap}
    (hR : ∀ h' tk acc c as, (∀ b o, b ≠ S → b ≠ z → b ≠ TO → b ≠ i1 → b ≠ i2 → h₁.get? b = some o → h'.get? b = some o) → h'.get? S = some { cls := .type "list", dict := none, data := .seq acc c, slots := #[] } →
      as.length = n → PairsM xs ys lo h' as → acc.toList = as.map Value.ref → R (.ok (.ret res)) { s with heap := h', toks := tk }) :
    ∀ (k i : Nat) (h : Heap) (tk c : Nat) (acc : Array Value) (as : List Addr), n - i = k → i ≤ n → ZipSt h z TI TO i1 i2 l1 l2 S i → h.IsList l1 xs → h.IsList l2 ys →
      (∀ b o, b ≠ S → b ≠ z → b ≠ TO → b ≠ i1 → b ≠ i2 → h₁.get? b = some o → h.get? b = some o) →
      h.get? S = some { cls := .type "list", dict := none, data := .seq acc c, slots := #[] } → acc.toList = as.map Value.ref → as.length = i → PairsM xs ys lo h as → lo ≤ h.objs.size →
      codeAny (model prog w) A (.builtin "list.extend.loop" ⟨[.ref S, .ref z, res], []⟩) R { s with heap := h, toks := tk } := by
  intro k
  induction k with
  | zero =>
    intro i h tk c acc as hk hi hst hl1 hl2 hkeep hS hacc hal hG hlo
    refine codeAny_builtin PySem.F.entry_extend_loop ?_
    rw [Around.under_plainId PySem.F.plain_extend_loop _]
    show wpAny _ A.in1 (pyNext (.ref z) >>= _) _ _ _
    have hend : xs[i]? = none ∨ ys[i]? = none := by
      rcases Nat.le_total xs.size ys.size with q | q
      · exact .inl (Array.getElem?_eq_none (by omega))
      · exact .inr (Array.getElem?_eq_none (by omega))
    refine wpAny_bind (zip_end (s := { s with heap := h, toks := tk }) (A := A.in1) hh D hst hl1 hl2 hend fun h' he => ?_)
    refine wpAny_pure (hR h' tk acc c as (fun b o h1 h2 h3 h4 h5 e => he b o h2 h3 h4 h5 (hkeep b o h1 h2 h3 h4 h5 e)) (he S _ nz.symm nO.symm n1.symm n2.symm hS) (by omega) ⟨hG.rise, hG.above, fun j a hj => ?_⟩ hacc)
    obtain ⟨x, y, e1, e2, e3⟩ := hG.pairs j a hj
    have hb := hG.above a (List.mem_of_getElem? hj)
    exact ⟨x, y, e1, e2, he a _ (ngt bz hb) (ngt bO hb) (ngt b1 hb) (ngt b2 hb) e3⟩
  | succ k ih =>
    intro i h tk c acc as hk hi hst hl1 hl2 hkeep hS hacc hal hG hlo
    have hx1 : i < xs.size := by omega
    have hx2 : i < ys.size := by omega
    have hsz2 : acc.size = i := by rw [← Array.length_toList, hacc, List.length_map, hal]
    refine codeAny_builtin PySem.F.entry_extend_loop ?_
    rw [Around.under_plainId PySem.F.plain_extend_loop _]
    show wpAny _ A.in1 (pyNext (.ref z) >>= _) _ _ _
    refine wpAny_bind (zip_item (s := { s with heap := h, toks := tk }) (S := S) D hst (Heap.lt_size hS) hl1 hl2 (Array.getElem?_eq_getElem hx1) (Array.getElem?_eq_getElem hx2) fun h' hst' ht hz hkp => ?_)
    dsimp only at ht hz hkp ⊢
    have hS' := hkp S _ nz.symm nO.symm n1.symm n2.symm hS
    have up : ∀ b o, b ≠ S → h'.get? b = some o → (h'.update S (Obj.mapSeq (·.push (Value.ref h.objs.size)))).get? b = some o := fun b o hb e => (Heap.get?_update_other _ _ (Ne.symm hb)).trans e
    have hSl : S < h.objs.size := Heap.lt_size hS
    show wpAny _ A.in1 (updateSeq S (·.push (Value.ref h.objs.size)) >>= _) _ _ _
    refine wpAny_bind ?_
    refine wpAny_updateSeq hS' rfl (wpAny_pure ⟨plainId_quiet PySem.F.plain_extend_loop _, ih (i + 1) _ tk _ (acc.push (Value.ref h.objs.size)) (as ++ [h.objs.size]) (by omega) (by omega) (hst'.keep up nz nI nO n1 n2)
      (hl1.at fun o e => up _ o m1 (hkp _ o D.l1z D.l1TO D.l1i1 D.l1i2 e)) (hl2.at fun o e => up _ o m2 (hkp _ o D.l2z D.l2TO D.l2i1 D.l2i2 e))
      (fun b o h1 h2 h3 h4 h5 e => up b o h1 (hkp b o h2 h3 h4 h5 (hkeep b o h1 h2 h3 h4 h5 e))) (Heap.get?_update_self _ hS' rfl) (by rw [Array.toList_push, hacc, List.map_append]; rfl) (by rw [List.length_append, hal]; rfl) ⟨?_, ?_, ?_⟩ ?_⟩)
      (by rw [hsz2]; omega) (by show (acc.push (Value.ref h.objs.size)).size ≤ sizeLine + 1; rw [Array.size_push, hsz2]; omega)
    · refine List.pairwise_append.mpr ⟨hG.rise, List.pairwise_singleton _ _, fun a ha b hb => ?_⟩
      rw [List.mem_singleton.mp hb]
      exact hG.there ha
    · intro a ha
      rcases List.mem_append.mp ha with ha | ha
      · exact hG.above a ha
      · rw [List.mem_singleton.mp ha]; exact hlo
    · intro j b hj
      rcases Nat.lt_trichotomy j as.length with h1 | h1 | h1
      · rw [List.getElem?_append_left h1] at hj
        obtain ⟨x, y, e1, e2, e3⟩ := hG.pairs j b hj
        have hb := hG.above b (List.mem_of_getElem? hj)
        exact ⟨x, y, e1, e2, up b _ (ngt bS hb) (hkp b _ (ngt bz hb) (ngt bO hb) (ngt b1 hb) (ngt b2 hb) e3)⟩
      · subst h1
        have hb : h.objs.size = b := by simpa using hj
        subst hb
        exact ⟨xs[as.length]'(by omega), ys[as.length]'(by omega), Array.getElem?_eq_getElem _, Array.getElem?_eq_getElem _, up _ _ (Nat.ne_of_gt hSl) (by subst hal; exact ht)⟩
      · have hnone : (as ++ [h.objs.size])[j]? = none := List.getElem?_eq_none (by rw [List.length_append, List.length_singleton]; omega)
        rw [hnone] at hj; cases hj
    · have e : (h'.update S (Obj.mapSeq (·.push (Value.ref h.objs.size)))).get? h.objs.size = _ := up _ _ (Nat.ne_of_gt hSl) ht
      exact Nat.le_of_lt (Nat.lt_of_le_of_lt hlo (Heap.lt_size e))
theorem nolen_zip : typeLookup (.type "zip") "__len__" = pure none := by rw [typeLookup_type, builtinLookup_eq_fast]; kernel_rfl
theorem nohint_zip : typeLookup (.type "zip") "__length_hint__" = pure none := by rw [typeLookup_type, builtinLookup_eq_fast]; kernel_rfl
/-- what stands of zip's things at its beginning -/
structure Zip0 (h : Heap) (z TI TO i1 i2 l1 l2 : Addr) (xs ys : Array Value) : Prop where
  apart : ZipApart z TI TO i1 i2 l1 l2
  zz : IsZip h z TI TO .none
  ti : IsPair h TI (.ref i1) (.ref i2)
  tt : ∃ p q, IsPair h TO p q
  a1 : h.IsListIter i1 l1 0
  a2 : h.IsListIter i2 l2 0
  l1 : h.IsList l1 xs
  l2 : h.IsList l2 ys
theorem Zip0.keep {h h' : Heap} {z TI TO i1 i2 l1 l2 : Addr} {xs ys : Array Value} (g : Zip0 h z TI TO i1 i2 l1 l2 xs ys) (k : ∀ b o, b < h.objs.size → h.get? b = some o → h'.get? b = some o) : Zip0 h' z TI TO i1 i2 l1 l2 xs ys :=
  have k' : ∀ b o, h.get? b = some o → h'.get? b = some o := fun b o e => k b o (Heap.lt_size e) e
  ⟨g.apart, k' _ _ g.zz, k' _ _ g.ti, (let ⟨p, q, e⟩ := g.tt; ⟨p, q, k' _ _ e⟩), g.a1.at fun o e => k' _ o e, g.a2.at fun o e => k' _ o e, g.l1.at fun o e => k' _ o e, g.l2.at fun o e => k' _ o e⟩
theorem call_list_zip {E : Value → Shared → Prop} {z TI TO i1 i2 l1 l2 : Addr} {xs ys : Array Value} {Q : Value → Shared → Prop} (hh : A.handled = none) (g : Zip0 s.heap z TI TO i1 i2 l1 l2 xs ys) (hsz : min xs.size ys.size ≤ sizeLine)
    (hQ : ∀ (h' : Heap) (tk : Nat) (acc : Array Value) (c : Nat) (as : List Addr), (∀ b o, b ≠ z → b ≠ TO → b ≠ i1 → b ≠ i2 → s.heap.get? b = some o → h'.get? b = some o) →
      h'.get? s.heap.objs.size = some { cls := .type "list", dict := none, data := .seq acc c, slots := #[] } → as.length = min xs.size ys.size → PairsM xs ys (s.heap.objs.size + 1) h' as → acc.toList = as.map Value.ref →
      Q (.ref s.heap.objs.size) { s with heap := h', toks := tk }) :
    wpAny (model prog w) A (call (.type "list") [.ref z]) Q E s := by
  have bz : z < s.heap.objs.size := Heap.lt_size g.zz
  have bI : TI < s.heap.objs.size := Heap.lt_size g.ti
  have bO : TO < s.heap.objs.size := let ⟨_, _, e⟩ := g.tt; Heap.lt_size e
  have b1 : i1 < s.heap.objs.size := by obtain ⟨_, e, _⟩ := g.a1; exact Heap.lt_size e
  have b2 : i2 < s.heap.objs.size := by obtain ⟨_, e, _⟩ := g.a2; exact Heap.lt_size e
  have m1 : l1 < s.heap.objs.size := by obtain ⟨_, e, _⟩ := g.l1; exact Heap.lt_size e
  have m2 : l2 < s.heap.objs.size := by obtain ⟨_, e, _⟩ := g.l2; exact Heap.lt_size e
  refine callType_codes (Q₁ := fun obj s₁ => obj = .ref s.heap.objs.size ∧ s₁ = { s with heap := s.heap.push { cls := .type "list", data := .seq #[] } }) F.called_list (F.typeCall_list_1 _) F.entry_list_init
    (code_list_new _ ⟨rfl, rfl⟩) fun obj s₁ h₁ => ?_
  obtain ⟨rfl, rfl⟩ := h₁
  generalize hSe : s.heap.objs.size = S at *
  have hS : (s.heap.push { cls := .type "list", data := .seq #[] }).get? S = some { cls := .type "list", data := .seq #[] } := by rw [← hSe]; exact Heap.get?_push_size _ rfl
  refine ⟨⟨_, hS, rfl⟩, F.args_list_init_2 _ _, ?_⟩
  have g1 : Zip0 (s.heap.push { cls := .type "list", data := .seq #[] }) z TI TO i1 i2 l1 l2 xs ys := g.keep fun b o _ e => Heap.get?_push_of_some _ e
  have k1 : ∀ b o, s.heap.get? b = some o → (s.heap.push { cls := .type "list", data := .seq #[] }).get? b = some o := fun b o e => Heap.get?_push_of_some _ e
  have z1 : (s.heap.push { cls := .type "list", data := .seq #[] }).objs.size = S + 1 := by rw [Heap.size_push, hSe]
  generalize s.heap.push { cls := .type "list", data := .seq #[] } = h1 at hS g1 k1 z1 ⊢
  show wpAny _ A.in1.in1 (do let old ← Builtin.List.listItems (.ref S); Builtin.List.listUpdate (.ref S) (fun _ => #[]); letGo old.toList.reverse; Builtin.List.listExtendWith (.ref S) (.ref z) .none) _ _ _
  refine wpAny_bind ?_
  unfold Builtin.List.listItems
  refine wpAny_bind (wpAny_seqItems hS rfl (wpAny_pure ?_))
  show wpAny _ A.in1.in1 (updateSeq S (fun _ => #[]) >>= fun _ => letGo (#[] : Array Value).toList.reverse >>= fun _ => Builtin.List.listExtendWith (.ref S) (.ref z) .none) _ _ _
  refine wpAny_bind (wpAny_updateSeq hS rfl ?_)
  have hS₂ := Heap.get?_update_self (Obj.mapSeq (fun _ => (#[] : Array Value))) hS rfl
  have oth : ∀ b o, b ≠ S → h1.get? b = some o → (h1.update S (Obj.mapSeq (fun _ => (#[] : Array Value)))).get? b = some o :=
    fun b o hb e => (Heap.get?_update_other _ _ (Ne.symm hb)).trans e
  have z2 : (h1.update S (Obj.mapSeq (fun _ => (#[] : Array Value)))).objs.size = S + 1 := by rw [Heap.size_update, z1]
  have e4 : ∀ {u : Addr} {h₀ h₂ : Heap}, True := fun {_ _ _} => trivial
  have nS : ∀ {u : Addr}, u < S → u ≠ S := fun h => Nat.ne_of_lt h
  have g2 : Zip0 (h1.update S (Obj.mapSeq (fun _ => (#[] : Array Value)))) z TI TO i1 i2 l1 l2 xs ys :=
    ⟨g1.apart, oth _ _ (nS bz) g1.zz, oth _ _ (nS bI) g1.ti, (let ⟨p, q, e⟩ := g1.tt; ⟨p, q, oth _ _ (nS bO) e⟩), g1.a1.at fun o e => oth _ o (nS b1) e, g1.a2.at fun o e => oth _ o (nS b2) e, g1.l1.at fun o e => oth _ o (nS m1) e, g1.l2.at fun o e => oth _ o (nS m2) e⟩
  have k2 : ∀ b o, s.heap.get? b = some o → (h1.update S (Obj.mapSeq (fun _ => (#[] : Array Value)))).get? b = some o := fun b o e => oth b o (by rw [← hSe]; exact Nat.ne_of_lt (Heap.lt_size e)) (k1 b o e)
  generalize h1.update S (Obj.mapSeq (fun _ => (#[] : Array Value))) = h2 at hS₂ g2 k2 z2 ⊢
  clear hS g1 k1 z1 oth
  refine wpAny_bind (wpAny_letGo ?_)
  unfold Builtin.List.listExtendWith
  have hT : Shared.TypeIs { s with heap := h2 } (.ref z) "zip" := ⟨_, g2.zz, rfl⟩
  refine wpAny_bind (wpAny_typeOf hT ?_)
  have h1 : Builtin.List.listSameRef (.ref S) (.ref z) = false := by simp [Builtin.List.listSameRef, (nS bz).symm]
  have h2' : (Value.type "zip" == Value.type "list") = false := by decide
  have h3 : (Value.type "zip" == Value.type "tuple") = false := by decide
  simp only [h1, h2', h3, Bool.or_false, Bool.false_eq_true, if_false]
  refine wpAny_bind (wpAny_pyIter_zip g2.zz ?_)
  refine wpAny_bind (wpAny_holding ?_)
  unfold Builtin.List.listLengthHint
  refine wpAny_bind (wpAny_specialOf hT nolen_zip ?_)
  show wpAny _ A.in1.in1 (specialOf (Value.ref z) (Str.ofString "__length_hint__") >>= _) _ _ _
  refine wpAny_bind (wpAny_specialOf hT nohint_zip ?_)
  refine wpAny_pure ?_
  show wpAny _ A.in1.in1 (rule "list.extend.makes-room" >>= fun _ => Builtin.List.listTouch (.ref S) >>= fun _ =>
    again (.builtin "list.extend.loop" ⟨[.ref S, .ref z, .none], []⟩)) _ _ _
  refine wpAny_bind (wpAny_rule ?_)
  refine wpAny_bind ?_
  show wpAny _ A.in1.in1 (updateSeq S (·.push .none) >>= fun _ => updateSeq S (·.pop)) _ _ _
  refine wpAny_bind (wpAny_updateSeq hS₂ rfl ?_)
  have hS₃ := Heap.get?_update_self (Obj.mapSeq (·.push Value.none)) hS₂ rfl
  refine wpAny_updateSeq hS₃ rfl ?_
  have hS₄ := Heap.get?_update_self (Obj.mapSeq (·.pop)) hS₃ rfl
  have oth : ∀ b o, b ≠ S → h2.get? b = some o → ((h2.update S (Obj.mapSeq (·.push Value.none))).update S (Obj.mapSeq (·.pop))).get? b = some o :=
    fun b o hb e => (Heap.get?_update_other _ _ (Ne.symm hb)).trans ((Heap.get?_update_other _ _ (Ne.symm hb)).trans e)
  have z3 : ((h2.update S (Obj.mapSeq (·.push Value.none))).update S (Obj.mapSeq (·.pop))).objs.size = S + 1 := by rw [Heap.size_update, Heap.size_update, z2]
  generalize (h2.update S (Obj.mapSeq (·.push Value.none))).update S (Obj.mapSeq (·.pop)) = h3' at hS₄ oth z3 ⊢
  have D := g2.apart
  refine wpAny_pure ⟨plainId_quiet F.plain_extend_loop _, zip_loop (A := A.in1) (lo := S + 1) (h₁ := h2) (xs := xs) (ys := ys) (n := min xs.size ys.size) hh D rfl hsz (nS bz) (nS bI) (nS bO) (nS b1) (nS b2) (nS m1) (nS m2) (Nat.lt_succ_self _) (Nat.lt_succ_of_lt bz) (Nat.lt_succ_of_lt bO) (Nat.lt_succ_of_lt b1) (Nat.lt_succ_of_lt b2) .none
    (fun h' tk acc c as hk hS' hl hG hacc => ?_) (min xs.size ys.size) 0 h3' _ _ #[] [] (Nat.sub_zero _) (Nat.zero_le _) ⟨.inl ⟨rfl, oth _ _ (nS bz) g2.zz, (let ⟨p, q, e⟩ := g2.tt; ⟨p, q, oth _ _ (nS bO) e⟩)⟩, oth _ _ (nS bI) g2.ti, g2.a1.at fun o e => oth _ o (nS b1) e, g2.a2.at fun o e => oth _ o (nS b2) e⟩
    (g2.l1.at fun o e => oth _ o (nS m1) e) (g2.l2.at fun o e => oth _ o (nS m2) e) (fun b o hb _ _ _ _ e => oth b o hb e) hS₄ rfl rfl ⟨List.Pairwise.nil, (fun _ ha => nomatch ha), (fun j a hj => by simp at hj)⟩ (by rw [z3]; exact Nat.le_refl _)⟩
  refine ⟨rfl, hQ h' tk acc c as (fun b o c1 c2 c3 c4 e => hk b o ?_ c1 c2 c3 c4 (k2 b o e)) hS' hl hG hacc⟩
  rw [← hSe]; exact Nat.ne_of_lt (Heap.lt_size e)
end
/-! the rule -/
section
variable {X : Cx} {ta : TA} {e e2 : Expr}
/-- tuples already laid are tracked, with their objects -/
theorem takeF {X : Cx} {pins : List (Addr × Obj)} {σ : L2.St} {H0 : Hp} {s : Shared} {h' : Heap} {tk : Nat} {P : Addr → List V → Prop} (I0 : Inv X pins σ H0 s) : ∀ (L : List Addr) (H1 : Hp), Inv X pins σ H1 { s with heap := h', toks := tk } → L.Nodup →
    (∀ a ∈ L, s.heap.objs.size ≤ a ∧ H1 a = none ∧ ∃ vs od, P a vs ∧ od.dict = none ∧ ∀ H2, ObjOk X.prog X.w H2 h' a (.frz od (.tup vs))) →
    ∃ H2, Inv X pins σ H2 { s with heap := h', toks := tk } ∧ (∀ b o, H1 b = some o → H2 b = some o) ∧ ∀ a ∈ L, ∃ vs od, P a vs ∧ od.dict = none ∧ H2 a = some (.frz od (.tup vs))
  | [], H1, I1, _, _ => ⟨H1, I1, fun _ _ e => e, fun _ h => nomatch h⟩
  | a :: L, H1, I1, hn, h => by
    obtain ⟨hb, hnone, vs, od, hP, hd, ok⟩ := h a (List.mem_cons_self ..)
    have I2 : Inv X pins σ (upd H1 a (.frz od (.tup vs))) { s with heap := h', toks := tk } := I1.take (h' := h') (t' := tk) (fun b ob _ e => e) (I0.fpOk hb hnone) (ok _)
    rw [List.nodup_cons] at hn
    obtain ⟨H2, I3, g, q⟩ := takeF I0 L (upd H1 a (.frz od (.tup vs))) I2 hn.2 fun c hc => by
      obtain ⟨c1, c2, c3⟩ := h c (List.mem_cons_of_mem _ hc)
      exact ⟨c1, by rw [upd_ne (fun z => hn.1 (by rw [← z]; exact hc))]; exact c2, c3⟩
    refine ⟨H2, I3, fun b o e => g b o (by rw [upd_ne (L2.ne_of_none e hnone)]; exact e), fun c hc => ?_⟩
    rcases List.mem_cons.mp hc with rfl | hc
    · exact ⟨vs, od, hP, hd, g _ _ upd_same⟩
    · exact q c hc
def tLstZip (K : PySem.W.Frag) (ta : TA) : TE := fun σ H Q => ta σ H fun vs H1 => ∃ (a b : Addr) (xs ys : List V), vs = [.ref a, .ref b] ∧ SqL K H1 a xs ∧ SqL K H1 b ys ∧ ∀ (H' : Hp) (l : Addr) (as : List Addr), (∀ c o, H1 c = some o → H' c = some o) → H1 l = none →
  as.length = min xs.length ys.length → (∀ (j : Nat) (T : Addr), as[j]? = some T → ∃ x y od, xs[j]? = some x ∧ ys[j]? = some y ∧ od.dict = none ∧ H' T = some (.frz od (.tup [x, y]))) → H' l = some (.lst (as.map V.ref)) → Q (.ref l) H'
theorem vals_refs : ∀ as : List Addr, Vals (as.map V.ref) (as.map Value.ref)
  | [] => .nil
  | a :: as => .cons rfl (vals_refs as)
theorem pe_lstZip {p p2 pz pos : Pos} (hc : X.calm = true) (hg : Gl X "list") (hm : X.mg "list" = none) (hg2 : Gl X "zip") (hm2 : X.mg "zip" = none) (ha : PA X [e, e2] ta)
    (hs : starEach [e, e2] X.env = (false, eval e X.env) :: starEach [e2] X.env := by rfl) (hpl : (backTo pz (starEach [e2] X.env)).any (·.1) = false := by rfl)
    (na : starEach [.Call (.Name "zip" p2) [e, e2] [] pz] X.env = (false, eval (.Call (.Name "zip" p2) [e, e2] [] pz) X.env) :: starEach [] X.env := by rfl) :
    PE X (.Call (.Name "list" p) [.Call (.Name "zip" p2) [e, e2] [] pz] [] pos) (tLstZip X.K ta) := by
  refine ⟨fun pins s σ H Q I h => ?_⟩
  have zp : wpAny (model X.prog X.w) X.A (eval (.Call (.Name "zip" p2) [e, e2] [] pz) X.env) (fun v s' => ∃ (z TI TO i1 i2 a b : Addr) (its its2 : List Value) (xs ys : List V) (H1 : Hp), v = .ref z ∧ Zip0 s'.heap z TI TO i1 i2 a b its.toArray its2.toArray ∧
      Vals xs its ∧ Vals ys its2 ∧ Inv X pins σ H1 s' ∧ (∀ c, c ∈ [z, TI, TO, i1, i2] → FpOk X pins H1 c) ∧ xs.length ≤ sizeLine ∧
      ∀ (H' : Hp) (l : Addr) (as : List Addr), (∀ c o, H1 c = some o → H' c = some o) → H1 l = none → as.length = min xs.length ys.length →
        (∀ (j : Nat) (T : Addr), as[j]? = some T → ∃ x y od, xs[j]? = some x ∧ ys[j]? = some y ∧ od.dict = none ∧ H' T = some (.frz od (.tup [x, y]))) → H' l = some (.lst (as.map V.ref)) → Q (.ref l) H') X.xe s := by
    refine Call_ (ld_blt I hg2 hm2 PyProof.Rows.boot_zip (PyProof.Rows.callWith_type1 (thn (ha.run pz pins s σ H _ I h) fun us s1 ⟨vs, H1, I1, r1, q1⟩ => ?_) hs hpl))
    obtain ⟨a, b, xs, ys, ex, hqx, hqy, q⟩ := q1
    subst ex
    cases r1 with
    | cons r rr =>
      cases rr with
      | cons r' rr =>
        cases rr
        cases r
        cases r'
        have fresh5 : ∀ c, c ∈ [s1.heap.objs.size + 4, s1.heap.objs.size + 2, s1.heap.objs.size + 3, s1.heap.objs.size, s1.heap.objs.size + 1] → FpOk X pins H1 c := fun c hcm => by
          have e' : c = s1.heap.objs.size + 4 ∨ c = s1.heap.objs.size + 2 ∨ c = s1.heap.objs.size + 3 ∨ c = s1.heap.objs.size ∨ c = s1.heap.objs.size + 1 := by simpa using hcm
          have hle : s1.heap.objs.size ≤ c := by
            rcases e' with z | z | z | z | z
            · rw [z]; exact Nat.le_add_right _ _
            · rw [z]; exact Nat.le_add_right _ _
            · rw [z]; exact Nat.le_add_right _ _
            · rw [z]; exact Nat.le_refl _
            · rw [z]; exact Nat.le_add_right _ _
          exact I1.fpOk hle (I1.hok.fresh hle)
        obtain ⟨its, rv, p1, hz1⟩ := I1.list hqx
        obtain ⟨its2, rv2, p2, _⟩ := I1.list hqy
        refine call_zip_2 p1.isList p2.isList fun h' hz hTI hTO h1 h2 hsz hk => ?_
        have I2 : Inv X pins σ H1 { s1 with heap := h' } := I1.kept (t' := s1.toks) hk
        exact ⟨s1.heap.objs.size + 4, s1.heap.objs.size + 2, s1.heap.objs.size + 3, s1.heap.objs.size, s1.heap.objs.size + 1, a, b, its, its2, xs, ys, H1, rfl,
          ⟨PySem.W.ktu_apart s1.heap.objs.size a b p1.lt p2.lt, hz, hTI, ⟨_, _, hTO⟩, h1, h2, p1.isList.at fun o e => hk _ o e, p2.isList.at fun o e => hk _ o e⟩, rv, rv2, I2, fresh5, hz1, q⟩
  refine Call_ (ld_blt I hg hm PyProof.Rows.boot_list (PyProof.Rows.callWith_type1 (args_cons (thn zp fun x s1 ⟨z, TI, TO, i1, i2, a, b, its, its2, xs, ys, H1, ex, g, rv, rv2, I1, fr5, hz1, q⟩ => args_nil ?_) na) na))
  subst ex
  have l1 := rv.length
  have l2 := rv2.length
  have hmin : min its.toArray.size its2.toArray.size = min xs.length ys.length := by simp only [List.size_toArray]; omega
  refine call_list_zip (I1.ok.hd hc) g (by rw [hmin]; omega) fun h' tk acc c as hk hS hl hG hacc => ?_
  rw [hmin] at hl
  have I2 : Inv X pins σ H1 { s1 with heap := h', toks := tk } := I1.turnedL (t' := tk) (ch := [z, TI, TO, i1, i2]) (fun b o hb e => hk b o (fun q' => hb (by simp [q'])) (fun q' => hb (by simp [q'])) (fun q' => hb (by simp [q'])) (fun q' => hb (by simp [q'])) e) fr5
  have nS : H1 s1.heap.objs.size = none := I1.hok.fresh (Nat.le_refl _)
  have I3 : Inv X pins σ (upd H1 s1.heap.objs.size (.lst (as.map V.ref))) { s1 with heap := h', toks := tk } :=
    I2.take (h' := h') (t' := tk) (fun b ob _ e => e) (I1.fpOk (Nat.le_refl _) nS) (show ObjOk X.prog X.w _ _ _ (.lst (as.map V.ref)) from ⟨by rw [List.length_map, hl]; omega, as.map Value.ref, c, vals_refs as, by rw [← hacc, Array.toArray_toList]; exact hS⟩)
  obtain ⟨H2, I4, g2, hT⟩ := takeF (P := fun T vs => ∃ j x y, as[j]? = some T ∧ xs[j]? = some x ∧ ys[j]? = some y ∧ vs = [x, y]) I1 as _ I3 (List.Pairwise.imp (fun h => Nat.ne_of_lt h) hG.rise) (fun T hTm => by
    have hb := hG.above T hTm
    have hb' : s1.heap.objs.size ≤ T := Nat.le_of_succ_le hb
    obtain ⟨j, hj⟩ := List.mem_iff_getElem?.mp hTm
    obtain ⟨u, u2, hu, hu2, hp⟩ := hG.pairs j T hj
    rw [List.getElem?_toArray] at hu hu2
    obtain ⟨x, hx, rx⟩ := L2.DX.pget rv hu
    obtain ⟨y, hy, ry⟩ := L2.DX.pget rv2 hu2
    exact ⟨hb', by rw [upd_ne (fun z => absurd hb (by rw [z]; exact Nat.not_succ_le_self _))]; exact I1.hok.fresh hb', [x, y], _, ⟨j, x, y, hj, hx, hy, rfl⟩, rfl, fun H2 => ⟨hp, by show 2 ≤ sizeLine; decide, [u, u2], .cons rx (.cons ry .nil), ⟨_, hp, rfl, _, rfl⟩⟩⟩)
  have nd : as.Nodup := List.Pairwise.imp (fun h => Nat.ne_of_lt h) hG.rise
  refine ⟨.ref s1.heap.objs.size, H2, I4, rfl, q H2 _ as (fun b o e => g2 b o (by rw [upd_ne (L2.ne_of_none e nS)]; exact e)) nS hl (fun j T hj => ?_) (g2 _ _ upd_same)⟩
  obtain ⟨vs, od, ⟨j', x, y, hj', hx, hy, rfl⟩, hod, e⟩ := hT T (List.mem_of_getElem? hj)
  have ej : j' = j := by
    have b1 : j' < as.length := by
      rcases Nat.lt_or_ge j' as.length with q | q
      · exact q
      · rw [List.getElem?_eq_none q] at hj'; cases hj'
    exact (List.getElem?_inj b1 nd).mp (hj'.trans hj.symm)
  subst ej
  exact ⟨x, y, od, hx, hy, hod, e⟩
end
def mLstZip (a b : MTE) : MTE := fun env h Q => a env h fun x h1 => b env h1 fun y h2 => match x, y with
  | .ref a, .ref b => ∃ ds es, h2 a = some (.lst ds) ∧ h2 b = some (.lst es) ∧ ∀ p, h2 p = none → Q (.ref p) (up h2 p (.lst (List.zipWith (fun d e => .tup [d, e]) ds es)))
  | _, _ => False
theorem rvs_zip {K : PySem.W.Frag} {H : Hp} : ∀ {ds es : List D} {xs ys : List V} {as : List Addr}, RVs K H ds xs → RVs K H es ys → as.length = min xs.length ys.length → (∀ (j : Nat) (T : Addr), as[j]? = some T → ∃ x y od, xs[j]? = some x ∧ ys[j]? = some y ∧ od.dict = none ∧ H T = some (.frz od (.tup [x, y]))) →
    RVs K H (List.zipWith (fun d e => .tup [d, e]) ds es) (as.map V.ref)
  | [], es, xs, ys, as, r, _, hl, _ => by
    rw [r.inv0] at hl
    have : as = [] := List.length_eq_zero_iff.mp (by simpa using hl)
    subst this
    exact .nil
  | d :: ds, [], xs, ys, as, _, r, hl, _ => by
    rw [r.inv0] at hl
    have : as = [] := List.length_eq_zero_iff.mp (by simpa using hl)
    subst this
    exact .nil
  | d :: ds, e :: es, xs, ys, as, r, r2, hl, h => by
    obtain ⟨v, vs, rfl, q, t⟩ := r.inv
    obtain ⟨u, us, rfl, q2, t2⟩ := r2.inv
    cases as with
    | nil => simp at hl
    | cons a as =>
      obtain ⟨x, y, od, hx, hy, hod, e1⟩ := h 0 a rfl
      cases hx
      cases hy
      exact .cons (rv_tup (.of e1 hod) (.cons q (.cons q2 .nil))) (rvs_zip t t2 (by simpa using hl) fun j T hj => h (j + 1) T hj)
section
variable {X : Cx} {Hb : Hp} {a b : Expr} {ma mb : MTE} {p p2 pz pos : Pos}
theorem ie_lstZip (hm : X.mg "list" = none) (hm2 : X.mg "zip" = none) (ha : IE X Hb a ma) (hb : IE X Hb b mb) (hc : X.calm = true := by rfl) (hg : Gl X "list" := by rfl) (hg2 : Gl X "zip" := by rfl)
    (hs : starEach [a, b] X.env = (false, eval a X.env) :: starEach [b] X.env := by rfl) (hs2 : starEach [b] X.env = (false, eval b X.env) :: starEach [] X.env := by rfl) (hpl : (backTo pz (starEach [b] X.env)).any (·.1) = false := by rfl)
    (na : starEach [.Call (.Name "zip" p2) [a, b] [] pz] X.env = (false, eval (.Call (.Name "zip" p2) [a, b] [] pz) X.env) :: starEach [] X.env := by rfl) :
    IE X Hb (.Call (.Name "list" p) [.Call (.Name "zip" p2) [a, b] [] pz] [] pos) (mLstZip ma mb) := by
  refine pe_w (pe_lstZip hc hg hm hg2 hm2 (pa_cons ha (pa_cons hb pa_nil hs2) hs) hs hpl na) fun σ H Q ⟨env, h, Q0, re, rh, m, f⟩ => ?_
  refine ⟨env, h, _, re, rh, m, fun x h1 q1 v H1 t1 r1 rx => ?_⟩
  refine ⟨env, h1, _, re.mono t1, r1, q1, fun y h2 q w H2 t2 r2 ry => ?_⟩
  have t12 := t1.trans t2
  have rx2 := rx.mono t2
  cases x <;> cases y <;> first | exact q.elim | skip
  obtain ⟨ds, es, e, e2, q⟩ := q
  rw [rx2.ref, ry.ref]
  obtain ⟨vs, E, rs⟩ := r2.lst e
  obtain ⟨ws, E2, rt⟩ := r2.lst e2
  refine ⟨_, _, vs, ws, rfl, .of E, .of E2, fun H' l as ext nl hl hT hL => ?_⟩
  have t3 : TL H2 H' := ⟨fun c xs h => ext c _ h, fun c o u h _ => ext c _ h⟩
  refine f _ _ (q l (r2.free nl)) _ _ (t12.trans t3) (fun c m em => ?_) rv_ref
  by_cases cl : c = l
  · subst cl
    rw [up_same] at em
    cases em
    exact ⟨_, hL, _, rfl, rvs_zip (rs.mono t3) (rt.mono t3) hl hT⟩
  · rw [up_ne cl] at em
    obtain ⟨u, e1, q1⟩ := r2 c m em
    exact ⟨u, ext _ _ e1, q1.mono t3⟩
end
end M

namespace M
open PySem L2
section
variable {env : ME} {e : MTE} {t : Tg}
/-- a comprehension over things, that changes nothing -/
theorem lcD (xs : List D) (g : D → Option D) {okk : MH → Prop} {h1 : MH} {Q : MQ} {tt : MTT} {vs : List Nat} (ok : ∀ h', Fr [] h1 h' → okk h') (hz : xs.length ≤ 100000)
    (turn : ∀ x h', x ∈ xs → Fr [] h1 h' → ∃ env2, asg t x (mwipe env vs) = some env2 ∧ ∀ R : Option D → MH → Prop,
      (∀ h3, Fr [] h' h3 → R (g x) h3) → tt env2 h' fun b h3 => if b = true then e env2 h3 fun y h4 => R (some y) h4 else R none h3)
    (fin : ∀ p h', Fr [] h1 h' → h1 p = none → h' p = some (.lst (xs.filterMap g)) → Q (.ref p) h') : LcW (srcD xs okk) t tt e vs env h1 Q := by
  have := lcL (env := env) (e := e) (t := t) xs id g (okk := okk) (h1 := h1) (Q := Q) (tt := tt) (vs := vs) ok hz turn fin
  rw [List.map_id] at this
  exact this
theorem getD_map' {α : Type} {f : α → D} {xs : List α} {k : Nat} (h : k < xs.length) : (xs.map f).getD k .non = f xs[k] := getD_map h
/-- a comprehension over a zip -/
theorem lcZ {α β : Type} (xs : List α) (ys : List β) (f : α → D) (g : β → D) (r : α × β → Option D) {okk : MH → Prop} {h1 : MH} {Q : MQ} {tt : MTT} {vs : List Nat} (ok : ∀ h', Fr [] h1 h' → okk h') (hz : (xs.zip ys).length ≤ 100000)
    (turn : ∀ x h', x ∈ xs.zip ys → Fr [] h1 h' → ∃ env2, asg t (.tw [f x.1, g x.2]) (mwipe env vs) = some env2 ∧ ∀ R : Option D → MH → Prop,
      (∀ h3, Fr [] h' h3 → R (r x) h3) → tt env2 h' fun b h3 => if b = true then e env2 h3 fun y h4 => R (some y) h4 else R none h3)
    (fin : ∀ p h', Fr [] h1 h' → h1 p = none → h' p = some (.lst ((xs.zip ys).filterMap r)) → Q (.ref p) h') : LcW (srcZ (xs.map f) (ys.map g) okk) t tt e vs env h1 Q := by
  have hn : (srcZ (xs.map f) (ys.map g) okk).n = (xs.zip ys).length := by rw [srcZ_n, List.length_map, List.length_map, List.length_zip]
  refine lcP (fun k => ((xs.zip ys)[k]?).bind r) ok (by rw [hn]; exact hz) (fun k h' hk fr => ?_) (fun p h' fr np ep => fin p h' fr np ?_)
  · rw [hn] at hk
    have hk' := hk
    rw [List.length_zip] at hk'
    have e1 : (srcZ (xs.map f) (ys.map g) okk).item k = .tw [f (xs.zip ys)[k].1, g (xs.zip ys)[k].2] := by
      rw [srcZ_item, getD_map (by omega), getD_map (by omega), List.getElem_zip]
    rw [e1, List.getElem?_eq_getElem hk]
    exact turn (xs.zip ys)[k] h' (List.getElem_mem hk) fr
  · rw [hn, range_fm] at ep
    exact ep
end
theorem q_strI {h : MH} {Q : MQ} {i : Int} : rStrI [.int i] h Q = (i.natAbs.log2 < 1920 ∧ Q (.str (toString i)) h) := rfl
theorem fr_free {h h' : MH} {a p : Addr} (f : Fr [a] h h') (n : h' p = none) (ne : p ≠ a) : h p = none := by
  cases e : h p with
  | none => rfl
  | some o =>
    have := f p o (by simpa using ne) e
    rw [n] at this; cases this
theorem new_facts {h h' : MH} {p : Addr} {o : MO} (e : up h p o = h') (n : h p = none) : h' p = some o ∧ Fr [] h h' := by
  subst e; exact ⟨up_same, .new n⟩
theorem atI_last {xs : List D} {x : D} : atI (xs ++ [x]) (-1) = some x := by
  unfold atI ixN
  rw [List.length_append, List.length_singleton, if_neg (by omega), if_pos (by omega)]
  show (xs ++ [x])[((-1 : Int) + ((xs.length + 1 : Nat) : Int)).toNat]? = _
  rw [show ((-1 : Int) + ((xs.length + 1 : Nat) : Int)).toNat = xs.length by omega, List.getElem?_append_right (Nat.le_refl _), Nat.sub_self]; rfl
section
variable {h : MH} {Q : MQ} {p : Addr}
theorem all_fin {α : Type} {xs : List α} {g : α → Bool} (e : h p = some (.lst (xs.filterMap fun x => some (.bl (g x))))) (q : Q (.bl (xs.all g)) h) : rAll [.ref p] h Q := by
  rw [fm_some] at e
  refine ⟨xs.map g, by rw [List.map_map]; exact e, ?_⟩
  rw [List.all_map]
  exact q
theorem any_fin {α : Type} {xs : List α} {g : α → Bool} (e : h p = some (.lst (xs.filterMap fun x => some (.bl (g x))))) (q : Q (.bl (xs.any g)) h) : rAny [.ref p] h Q := by
  rw [fm_some] at e
  refine ⟨xs.map g, by rw [List.map_map]; exact e, ?_⟩
  rw [List.any_map]
  exact q
theorem sum_fin {α : Type} {xs : List α} {g : α → Int} (e : h p = some (.lst (xs.filterMap fun x => some (.int (g x))))) (q : Q (.int (xs.map g).sum) h) : rSum [.ref p] h Q := by
  rw [fm_some] at e
  exact ⟨xs.map g, by rw [List.map_map]; exact e, q⟩
theorem tup_fin {α : Type} {xs : List α} {g : α → D} (e : h p = some (.lst (xs.filterMap fun x => some (g x)))) (q : Q (.tup (xs.map g)) h) : rTuple [.ref p] h Q := by
  rw [fm_some] at e
  exact ⟨_, e, q⟩
end
end M

namespace M
open PySem PySem.Spec PyProof PyProof.Rows L2
/-! ### dicts with nested keys -/
abbrev vw (xs : List (NestedKey × Addr × V)) : List (NestedKey × V) := xs.map fun x => (x.1, x.2.2)
theorem np_val {xs : List (NestedKey × Addr × V)} {ys : List (NestedKey × Addr × Value)} (r : Paired NPair xs ys) (k : NestedKey) : RelO (valV (vw xs) k) ((atKey ys k).map (·.2)) := by
  induction r with
  | nil => exact True.intro
  | @cons p q ps qs h t ih =>
    obtain ⟨h1, _, h2⟩ := h
    rw [vw, List.map_cons]
    by_cases e : p.1 = k
    · have e' : q.1 = k := h1.symm.trans e
      have b : atKey (q :: qs) k = some q.2 := by simp [atKey, List.find?_cons, e']
      rw [valV_pos (p := (p.1, p.2.2)) e, b]; exact h2
    · have e' : ¬ q.1 = k := fun z => e (h1.trans z)
      have b : atKey (q :: qs) k = atKey qs k := by simp [atKey, List.find?_cons, e']
      rw [valV_neg (p := (p.1, p.2.2)) e, b]; exact ih
theorem np_mem {xs : List (NestedKey × Addr × V)} {ys : List (NestedKey × Addr × Value)} (pr : Paired NPair xs ys) {y : NestedKey × Addr × Value} (hy : y ∈ ys) : ∃ x ∈ xs, NPair x y := by
  induction pr with
  | nil => cases hy
  | @cons p q ps qs h t ih =>
    rcases List.mem_cons.mp hy with e | e
    · exact ⟨p, List.mem_cons_self .., e ▸ h⟩
    · obtain ⟨x, hx, hh⟩ := ih e
      exact ⟨x, List.mem_cons_of_mem _ hx, hh⟩
def repN (xs : List (NestedKey × Addr × V)) (k : NestedKey) (v : V) : List (NestedKey × Addr × V) := xs.map fun x => if x.1 = k then (x.1, x.2.1, v) else x
def putN (xs : List (NestedKey × Addr × V)) (k : NestedKey) (b : Addr) (v : V) : List (NestedKey × Addr × V) :=
  if (vw xs).any (fun x => decide (x.1 = k)) then repN xs k v else xs ++ [(k, b, v)]
theorem np_repl {xs : List (NestedKey × Addr × V)} {ys : List (NestedKey × Addr × Value)} (r : Paired NPair xs ys) (k : NestedKey) {y : V} {u : Value} (ry : RelV y u) : Paired NPair (repN xs k y) (ys.map (putAt k u)) := by
  unfold repN
  induction r with
  | nil => exact .nil
  | @cons p q ps qs h t ih =>
    rw [List.map_cons, List.map_cons]
    refine .cons ?_ ih
    obtain ⟨h1, h2, h3⟩ := h
    unfold putAt
    by_cases e : p.1 = k
    · rw [if_pos e, if_pos (h1.symm.trans e)]; exact ⟨h1, h2, ry⟩
    · rw [if_neg e, if_neg (fun z => e (h1.trans z))]; exact ⟨h1, h2, h3⟩
theorem np_put {xs : List (NestedKey × Addr × V)} {ys : List (NestedKey × Addr × Value)} (r : Paired NPair xs ys) (k : NestedKey) (b : Addr) {y : V} {u : Value} (ry : RelV y u) : Paired NPair (putN xs k b y) (storedH ys k b u) := by
  have e : ((vw xs).any fun x => decide (x.1 = k)) = (atKey ys k).isSome := by
    rw [valV_any, (np_val r k).isSome_eq, Option.isSome_map]
  unfold putN storedH
  rw [e]
  by_cases q : (atKey ys k).isSome = true
  · rw [if_pos q, if_pos q]; exact np_repl r k ry
  · rw [if_neg q, if_neg q]; exact Paired.snoc r ⟨rfl, rfl, ry⟩
theorem putN_len {xs : List (NestedKey × Addr × V)} {k : NestedKey} {b : Addr} {v : V} : (putN xs k b v).length ≤ xs.length + 1 := by
  unfold putN repN
  split
  · rw [List.length_map]; omega
  · rw [List.length_append]; exact Nat.le_refl _
theorem mem_putN {xs : List (NestedKey × Addr × V)} {k : NestedKey} {b : Addr} {v : V} {x : NestedKey × Addr × V} (h : x ∈ putN xs k b v) : (∃ y ∈ xs, y.1 = x.1 ∧ y.2.1 = x.2.1) ∨ (x.1 = k ∧ x.2.1 = b) := by
  unfold putN repN at h
  split at h
  · obtain ⟨y, hy, rfl⟩ := List.mem_map.mp h
    exact .inl ⟨y, hy, by split <;> exact ⟨rfl, rfl⟩⟩
  · rcases List.mem_append.mp h with h | h
    · exact .inl ⟨x, h, rfl, rfl⟩
    · rw [List.mem_singleton.mp h]; exact .inr ⟨rfl, rfl⟩
theorem vw_put {xs : List (NestedKey × Addr × V)} {k : NestedKey} {b : Addr} {v : V} : vw (putN xs k b v) = putK (vw xs) k v := by
  unfold putN putK
  split
  · unfold repN vw
    rw [List.map_map, List.map_map]
    refine List.map_congr_left fun x _ => ?_
    show (_, _) = if x.1 = k then _ else _
    by_cases e : x.1 = k <;> simp [e]
  · rw [vw, List.map_append]; rfl
section
variable {X : Cx} {pins : List (Addr × Obj)} {σ : L2.St} {H : Hp} {s : Shared} {a : Addr}
mutual
theorem nested_is (I : Inv X pins σ H s) : ∀ {k : NestedKey} {v : V} {u : Value}, RV X.K H (kD k) v → RelV v u → NestedIs s.heap k u
  | .none, v, u, h, r => by
    rw [kD] at h
    rw [h.non] at r
    obtain rfl : u = Value.none := r
    exact .none
  | .num i, v, u, h, r => by
    rw [kD] at h
    rw [h.int] at r
    obtain ⟨t, rfl⟩ := r
    exact .int i t
  | .text x, v, u, h, r => by
    rw [kD] at h
    rw [h.str] at r
    obtain ⟨t, rfl⟩ := r
    exact .text x t
  | .tup ks, v, u, h, r => by
    rw [kD] at h
    obtain ⟨b, vs, rfl, ta, rs⟩ := h.tup
    obtain rfl : u = Value.ref b := r
    obtain ⟨its, rv, ⟨o, ho, hc, n, hd⟩, _⟩ := I.tuple ta
    exact .tup ho hc hd (by simpa using nested_all I rs rv)
theorem nested_all (I : Inv X pins σ H s) : ∀ {ks : List NestedKey} {vs : List V} {us : List Value}, RVs X.K H (kDs ks) vs → Vals vs us → NestedAll s.heap ks us
  | [], vs, us, h, r => by
    rw [kDs] at h
    rw [h.inv0] at r
    cases r
    exact .nil
  | k :: ks, vs, us, h, r => by
    rw [kDs] at h
    obtain ⟨v, ws, rfl, q, t⟩ := h.inv
    cases r with
    | cons r1 r2 => exact .cons (nested_is I q r1) (nested_all I t r2)
end
def RdN (H : Hp) (a : Addr) (xs : List (NestedKey × Addr × V)) : Prop := H a = some (nob a xs) ∨ ∃ od, H a = some (.frz od (nob a xs))
theorem nob_desc (I : Inv X pins σ H s) {xs : List (NestedKey × Addr × V)} (e : RdN H a xs) : NDesc a xs s.heap := by
  rcases e with e | ⟨od, e⟩
  · have := I.hok a _ e
    exact this.1
  · have := I.hok a _ e
    exact this.2.1
theorem nob_keyed (I : Inv X pins σ H s) {xs : List (NestedKey × Addr × V)} (e : RdN H a xs) (hk : ∀ x ∈ xs, RV X.K H (kD x.1) (.ref x.2.1)) :
    ∃ ys, Paired NPair xs ys ∧ s.heap.DictOfH (nestedKind X.prog X.w) a ys ∧ xs.length ≤ sizeLine ∧ (a == sysModules) = false ∧ ∀ x ∈ xs, plainK x.1 = true ∧ x.1.depth ≤ 8 := by
  obtain ⟨z, hs, pk, ys, pr, o, es, ep, ho, hc, hd, he, hn⟩ := nob_desc I e
  refine ⟨ys, pr, ⟨o, es, ep, ho, hc, hd, he _ _, fun y hy => ?_, hn⟩, z, hs, pk⟩
  have : ∃ x ∈ xs, NPair x y := np_mem pr hy
  obtain ⟨x, hx, e1, e2, _⟩ := this
  refine ⟨?_, by rw [← e1]; exact (pk x hx).2⟩
  rw [← e1, ← e2]
  exact nested_is I (hk x hx) rfl
theorem roomN {A : Around} (hu : A.units + 64 < cLine) : (nestedKind X.prog X.w).room A.in1 := by
  show A.units + 1 + 8 < cLine
  omega
/-- d[k], there -/
theorem n_getItem {A : Around} {E : Value → Shared → Prop} {xs : List (NestedKey × Addr × V)} {k : NestedKey} {b : Addr} {v : V} {Q : Value → Shared → Prop} (hu : A.units + 64 < cLine) (I : Inv X pins σ H s) (e : RdN H a xs) (hk : ∀ x ∈ xs, RV X.K H (kD x.1) (.ref x.2.1))
    (rk : RV X.K H (kD k) (.ref b)) (dk : k.depth ≤ 8) (l : valV (vw xs) k = some v) (h : ∀ w' s', Inv X pins σ H s' → RelV v w' → Q w' s') : wpAny (model X.prog X.w) A (getItem (.ref a) (.ref b)) Q E s := by
  obtain ⟨ys, pr, dd, z, hs, pk⟩ := nob_keyed I e hk
  obtain ⟨w', hw, rw'⟩ := RelO.some_of (v := v) (o := (atKey ys k).map (·.2)) (by rw [← l]; exact np_val pr k)
  obtain ⟨p, hp, hp2⟩ := Option.map_eq_some_iff.mp hw
  refine wpAny_getItem_heap (knd := nestedKind X.prog X.w) (roomN hu) ⟨nested_is I rk rfl, dk⟩ dd hp ?_
  rw [hp2]
  exact h w' _ (I.tok _) rw'
/-- d.get(k, x) -/
theorem n_get2 {A : Around} {E : Value → Shared → Prop} {xs : List (NestedKey × Addr × V)} {k : NestedKey} {b : Addr} {d : V} {r : Value} {Q : Value → Shared → Prop} (hu : A.units + 64 < cLine) (I : Inv X pins σ H s) (e : RdN H a xs) (hk : ∀ x ∈ xs, RV X.K H (kD x.1) (.ref x.2.1))
    (rk : RV X.K H (kD k) (.ref b)) (dk : k.depth ≤ 8) (rd : RelV d r) (h : ∀ w' s', Inv X pins σ H s' → RelV ((valV (vw xs) k).getD d) w' → Q w' s') : wpAny (model X.prog X.w) A (call (.builtin "dict.get") [.ref a, .ref b, r]) Q E s := by
  obtain ⟨ys, pr, dd, z, hs, pk⟩ := nob_keyed I e hk
  exact call_meetsIn PySem.F.slot_dict_get dd.typeIs PySem.F.entry_dict_get (PySem.F.args_dict_get_3 _ _ _) (meetsH_dict_get_default (nestedKind X.prog X.w) a b hs r) ⟨roomN hu, k, ys, ⟨nested_is I rk rfl, dk⟩, dd, h _ _ (I.tok _) ((np_val pr k).getD rd)⟩
theorem hashN {P P' : Program} {w w' : World} {ys : List (NestedKey × Addr × Value)} (h : ∀ y ∈ ys, plainK y.1 = true) : ys.map (entryOfKey (nestedKind P w)) = ys.map (entryOfKey (nestedKind P' w')) := by
  refine List.map_congr_left fun y hy => ?_
  show (⟨y.1.hash w, .ref y.2.1, y.2.2⟩ : DictEntry) = ⟨y.1.hash w', .ref y.2.1, y.2.2⟩
  rw [hash_plain w w' y.1 (h y hy)]
theorem desc_of {h' : Heap} {xs : List (NestedKey × Addr × V)} {ys : List (NestedKey × Addr × Value)} {P : Program} {w : World} (z : xs.length ≤ sizeLine) (hs : (a == sysModules) = false) (pk : ∀ x ∈ xs, plainK x.1 = true ∧ x.1.depth ≤ 8) (pr : Paired NPair xs ys)
    (dd : h'.DictOfH (nestedKind P w) a ys) : NDesc a xs h' := by
  obtain ⟨o, es, ep, ho, hc, hd, he, _, hn⟩ := dd
  refine ⟨z, hs, pk, ys, pr, o, es, ep, ho, hc, hd, fun P' w' => ?_, hn⟩
  rw [he]
  refine hashN fun y hy => ?_
  have : ∃ x ∈ xs, NPair x y := np_mem pr hy
  obtain ⟨x, hx, e1, _⟩ := this
  rw [← e1]
  exact (pk x hx).1
theorem nob_ok {h' : Heap} {P : Program} {w : World} {H' : Hp} {xs : List (NestedKey × Addr × V)} (d : NDesc a xs h') : ObjOk P w H' h' a (nob a xs) := by
  refine ⟨d, ?_, fun h1 h2 q k => ?_⟩
  · obtain ⟨_, _, _, _, _, o, _, _, ho, _⟩ := d
    exact ⟨o, ho⟩
  · obtain ⟨z, hs, pk, ys, pr, o, es, ep, ho, r⟩ := q
    exact ⟨z, hs, pk, ys, pr, o, es, ep, k o ho, r⟩
/-- d[k] = v -/
theorem n_setItem {A : Around} {E : Value → Shared → Prop} {xs : List (NestedKey × Addr × V)} {k : NestedKey} {b : Addr} {v : V} {r : Value} {Q : Unit → Shared → Prop} (hu : A.units + 64 < cLine) (I : Inv X pins σ H s) (e : H a = some (nob a xs)) (hk : ∀ x ∈ xs, RV X.K H (kD x.1) (.ref x.2.1))
    (rk : RV X.K H (kD k) (.ref b)) (pk : plainK k = true) (dk : k.depth ≤ 8) (rv : RelV v r) (z : xs.length < sizeLine) (h : ∀ s', Inv X pins σ (upd H a (nob a (putN xs k b v))) s' → Q () s') : wpAny (model X.prog X.w) A (setItem (.ref a) (.ref b) r) Q E s := by
  obtain ⟨ys, pr, dd, z', hs, pks⟩ := nob_keyed I (.inl e) hk
  have hl : ys.length = xs.length := (Paired.length pr).symm
  refine wpAny_setItem_heap (knd := nestedKind X.prog X.w) (hsz := by rw [hl]; exact z') (roomN hu) ⟨nested_is I rk rfl, dk⟩ dd fun h' dd' hs' => h _ ?_
  obtain ⟨q, _, _, hq, _⟩ := id dd'
  refine d_write I (by rw [e]; exact True.intro) hs' ⟨q, hq⟩ (nob_ok (desc_of (Nat.le_trans putN_len z) hs (fun x hx => ?_) (np_put pr k b rv) dd'))
  rcases mem_putN hx with ⟨y, hy, e1, _⟩ | ⟨e1, _⟩
  · rw [← e1]; exact pks y hy
  · rw [e1]; exact ⟨pk, dk⟩
end
def tGetN (K : PySem.W.Frag) (td ty : TE) : TE := fun σ H Q => td σ H fun x H1 => ty σ H1 fun y H2 => ∃ a b xs k v, x = .ref a ∧ y = .ref b ∧ RdN H2 a xs ∧ (∀ x ∈ xs, RV K H2 (kD x.1) (.ref x.2.1)) ∧ RV K H2 (kD k) (.ref b) ∧ k.depth ≤ 8 ∧ valV (vw xs) k = some v ∧ Q v H2
def tGet2N (K : PySem.W.Frag) (td ty tx : TE) : TE := fun σ H Q => td σ H fun x H1 => ∃ a, x = .ref a ∧ (∃ xs, RdN H1 a xs) ∧ ty σ H1 fun y H2 => tx σ H2 fun z H3 => ∃ b xs k, y = .ref b ∧ RdN H3 a xs ∧ (∀ x ∈ xs, RV K H3 (kD x.1) (.ref x.2.1)) ∧ RV K H3 (kD k) (.ref b) ∧ k.depth ≤ 8 ∧ Q ((valV (vw xs) k).getD z) H3
def sPutN (K : PySem.W.Frag) (td ty tv : TE) : TS := fun D σ H => tv σ H fun v H1 => td σ H1 fun x H2 => ty σ H2 fun y H3 => ∃ a b xs k, x = .ref a ∧ y = .ref b ∧ H3 a = some (nob a xs) ∧ (∀ x ∈ xs, RV K H3 (kD x.1) (.ref x.2.1)) ∧ RV K H3 (kD k) (.ref b) ∧ plainK k = true ∧ k.depth ≤ 8 ∧ xs.length < sizeLine ∧ D.nx σ (upd H3 a (nob a (putN xs k b v)))
section
variable {X : Cx} {o i e f value : Expr} {pos pos' apos cpos : Pos} {td ty tv tx : TE}
theorem nob_type {pins : List (Addr × Obj)} {σ : L2.St} {H : Hp} {s : Shared} {a : Addr} {xs : List (NestedKey × Addr × V)} (I : Inv X pins σ H s) (e : RdN H a xs) : s.TypeIs (.ref a) "dict" ∧ ∀ b, Value.ref a = .ref b → ∃ ob, s.heap.get? b = some ob ∧ ob.dict = none := by
  obtain ⟨_, _, _, _, _, o, es, ep, ho, hc, hd, _⟩ := nob_desc I e
  refine ⟨⟨o, ho, hc.1⟩, fun b q => ?_⟩
  cases q
  exact ⟨o, ho, hc.2.1⟩
theorem pe_getN (hu : X.A.units + 64 < cLine) (ho : PE X o td) (hi : PE X i ty) (hs : NoSl i) : PE X (.Subscript o i pos) (tGetN X.K td ty) := by
  refine ⟨fun pins s σ H Q I h => ?_⟩
  refine subD_of PySem.F.slot_dict_getitem.lookup hs (thn (ho.run pins s σ H _ I h) fun u s1 ⟨x, H1, I1, rx, q1⟩ => thn (hi.run pins s1 σ H1 _ I1 q1) fun iv s2 ⟨y, H2, I2, ry, a, b, xs, k, v, ex, ey, g, hk, rk, dk, l, q2⟩ => ?_)
  subst ex ey
  obtain rfl : u = Value.ref a := rx
  obtain rfl : iv = Value.ref b := ry
  exact ⟨(nob_type I2 g).1, n_getItem hu I2 g hk rk dk l fun w' s3 I3 rw' => ⟨v, H2, I3, rw', q2⟩⟩
theorem ps_putN (hu : X.A.units + 64 < cLine) (ho : PE X o td) (hi : PE X i ty) (hv : PE X value tv) (hs : swapsWith value (some (.Subscript o i pos')) pos.line X.env = pure false) :
    PS X (.Assign [.Subscript o i pos'] value pos) (sPutN X.K td ty tv) := by
  refine ⟨fun pins s σ H D I h => ?_⟩
  refine wpAny_Assign_Subscript (thn (hv.run pins s σ H _ I h) fun r s1 ⟨v, H1, I1, rv, q1⟩ => thn (ho.run pins s1 σ H1 _ I1 q1) fun u s2 ⟨x, H2, I2, rx, q2⟩ => thn (hi.run pins s2 σ H2 _ I2 q2) fun iv s3 ⟨y, H3, I3, ry, a, b, xs, k, ex, ey, g, hk, rk, pk, dk, z, q3⟩ => ?_) hs
  subst ex ey
  obtain rfl : u = Value.ref a := rx
  obtain rfl : iv = Value.ref b := ry
  exact n_setItem hu I3 g hk rk pk dk rv z fun s4 I4 => ⟨σ, _, I4, q3⟩
theorem pe_get2N (hu : X.A.units + 64 < cLine) (ho : PE X o td) (he : PE X e ty) (hf : PE X f tx) (m : M2 X o "get" apos e f cpos) : PE X (.Call (.Attribute o "get" apos) [e, f] [] cpos) (tGet2N X.K td ty tx) := by
  refine ⟨fun pins s σ H Q I h => ?_⟩
  refine wpAny_Call_method m.base m.few m.line PySem.F.plainAttrs_dict PySem.F.slot_dict_get PySem.F.type_dict_get (thn (ho.run pins s σ H _ I h) fun u s1 ⟨x, H1, I1, rx, a, ex, ⟨xs0, d⟩, q1⟩ => ?_)
  subst ex
  obtain rfl : u = Value.ref a := rx
  obtain ⟨t1, t2⟩ := nob_type I1 d
  refine ⟨t1, t2, ?_⟩
  rw [m.trees]
  refine Calls.callWith_builtin rfl (Calls.evalArgs_plain (Calls.spliced_cons (thn (he.run pins s1 σ H1 _ I1 q1) fun iv s2 ⟨y, H2, I2, ry, q2⟩ =>
    Calls.spliced_cons (thn (hf.run pins s2 σ H2 _ I2 q2) fun fv s3 ⟨z, H3, I3, rz, b, xs, k, ey, g, hk, rk, dk, q3⟩ => Calls.spliced_nil ?_))))
  subst ey
  obtain rfl : iv = Value.ref b := ry
  exact n_get2 hu I3 g hk rk dk rz fun w' s4 I4 rw' => ⟨_, H3, I4, rw', q3⟩
theorem nob_empty {P : Program} {w : World} {H : Hp} (h : Heap) (hb : sysModules < h.objs.size) : ObjOk P w H (h.push { cls := .type "dict", data := .dict #[] }) h.objs.size (nob h.objs.size []) :=
  nob_ok (desc_of (P := P) (w := w) (ys := []) (Nat.zero_le _) (beq_eq_false_iff_ne.mpr (Ne.symm (Nat.ne_of_lt hb))) (fun x hx => nomatch hx) .nil ⟨_, #[], 0, Heap.get?_push_size _ rfl, ⟨rfl, rfl, rfl⟩, rfl, rfl, (fun x hx => nomatch hx), List.nodup_nil⟩)
def tNewN : TE := fun _ H Q => ∀ p, H p = none → Q (.ref p) (upd H p (nob p []))
theorem pe_newN : PE X (.Dict [] [] pos) tNewN := ⟨fun pins s σ H Q I h =>
  wpAny_Dict_empty ⟨.ref s.heap.objs.size, _, I.laid (a := s.heap.objs.size) (t' := s.toks) (fun _ _ q => Heap.get?_push_of_some _ q) (Nat.le_refl _) (nob_empty s.heap I.big), rfl, h _ (I.hok.fresh (Nat.le_refl _))⟩⟩
end
/-! ### over the mirror -/
def isDN (h : MH) (a : Addr) (kvs : List (NestedKey × D)) : Prop := h a = some (.dN kvs) ∨ ∃ xs od, h a = some (.fN kvs xs od)
theorem HR.rdN {K : PySem.W.Frag} {h : MH} {H : Hp} (r : HR K h H) {a : Addr} {kvs : List (NestedKey × D)} (e : isDN h a kvs) : ∃ xs, RdN H a xs ∧ RN K H kvs xs := by
  rcases e with e | ⟨xs, od, e⟩
  · obtain ⟨xs, e1, q⟩ := r.dN e
    exact ⟨xs, .inl e1, q⟩
  · obtain ⟨e1, q⟩ := r.fN e
    exact ⟨xs, .inr ⟨od, e1⟩, q⟩
theorem RN.kv {K : PySem.W.Frag} {H : Hp} {kvs : List (NestedKey × D)} {xs : List (NestedKey × Addr × V)} (r : RN K H kvs xs) : RKV K H kvs (vw xs) :=
  ⟨by rw [r.1, vw, List.map_map]; rfl, by have := r.2.1; rw [vw, List.map_map]; exact this⟩
/-- the key that data is -/
def tupK (d : D) (k : NestedKey) : Prop := d = kD k ∧ k.depth ≤ 8 ∧ ∃ ks, k = .tup ks
def mGetN (o i : MTE) : MTE := fun env h Q => o env h fun x h1 => i env h1 fun y h2 => ∃ a kvs k d, x = .ref a ∧ isDN h2 a kvs ∧ tupK y k ∧ dG kvs k = some d ∧ Q d h2
def mGet2N (o i f : MTE) : MTE := fun env h Q => o env h fun x h1 => ∃ a, x = .ref a ∧ (∃ kvs, isDN h1 a kvs) ∧ i env h1 fun y h2 => f env h2 fun z h3 => ∃ kvs k, isDN h3 a kvs ∧ tupK y k ∧ Q ((dG kvs k).getD z) h3
def mPutN (e o i : MTE) : MTS := fun D' env h => e env h fun d h1 => o env h1 fun x h2 => i env h2 fun y h3 => ∃ a kvs k, x = .ref a ∧ h3 a = some (.dN kvs) ∧ tupK y k ∧ plainK k = true ∧ kvs.length < sizeLine ∧ D'.nx env (up h3 a (.dN (dPutG kvs k d)))
def mDisp0N : MTE := fun _ h Q => ∀ p, h p = none → Q (.ref p) (up h p (.dN []))
section
variable {X : Cx} {Hb : Hp} {o i e f : Expr} {mo mi me mf : MTE} {pos pos' apos cpos : Pos}
theorem tup_ref {K : PySem.W.Frag} {H : Hp} {d : D} {k : NestedKey} {v : V} (t : tupK d k) (r : RV K H d v) : ∃ b, v = .ref b ∧ RV K H (kD k) (.ref b) := by
  obtain ⟨rfl, _, ks, rfl⟩ := t
  have r' := r
  rw [kD] at r'
  obtain ⟨b, vs, rfl, _, _⟩ := r'.tup
  exact ⟨b, rfl, r⟩
theorem ie_getN (hu : X.A.units + 64 < cLine) (ho : IE X Hb o mo) (hi : IE X Hb i mi) (hs : NoSl i) : IE X Hb (.Subscript o i pos) (mGetN mo mi) := by
  refine pe_w (pe_getN hu ho hi hs) fun σ H Q ⟨env, h, Q0, re, rh, m, f⟩ => ?_
  refine ⟨env, h, _, re, rh, m, fun x h1 q1 vx H1 t1 r1 rx => ?_⟩
  refine ⟨env, h1, _, re.mono t1, r1, q1, ?_⟩
  rintro y h2 ⟨a, kvs, k, d, rfl, en, tk, l, q⟩ vy H2 t2 r2 ry
  obtain ⟨xs, E, rn⟩ := r2.rdN en
  obtain ⟨b, rfl, rk⟩ := tup_ref tk ry
  rcases rkvG_get rn.kv (k := k) with ⟨e1, _⟩ | ⟨d', v, e1, e2, rv⟩
  · rw [l] at e1; cases e1
  · rw [l] at e1; cases e1
    exact ⟨a, b, xs, k, v, rx.ref, rfl, E, rn.2.2, rk, tk.2.1, e2, f d h2 q v H2 (t1.trans t2) r2 rv⟩
theorem ie_get2N (hu : X.A.units + 64 < cLine) (ho : IE X Hb o mo) (hi : IE X Hb e me) (hf : IE X Hb f mf) (m2 : M2 X o "get" apos e f cpos) : IE X Hb (.Call (.Attribute o "get" apos) [e, f] [] cpos) (mGet2N mo me mf) := by
  refine pe_w (pe_get2N hu ho hi hf m2) fun σ H Q ⟨env, h, Q0, re, rh, m, fi⟩ => ?_
  refine ⟨env, h, _, re, rh, m, ?_⟩
  rintro x h1 ⟨a, rfl, ⟨kvs0, en0⟩, q1⟩ vx H1 t1 r1 rx
  obtain ⟨xs0, E0, _⟩ := r1.rdN en0
  refine ⟨a, rx.ref, ⟨xs0, E0⟩, env, h1, _, re.mono t1, r1, q1, fun y h2 q2 vy H2 t2 r2 ry => ?_⟩
  refine ⟨env, h2, _, (re.mono t1).mono t2, r2, q2, ?_⟩
  rintro z h3 ⟨kvs, k, en, tk, q⟩ vz H3 t3 r3 rz
  obtain ⟨xs, E, rn⟩ := r3.rdN en
  obtain ⟨b, rfl, rk⟩ := tup_ref tk (ry.mono t3)
  refine ⟨b, xs, k, rfl, E, rn.2.2, rk, tk.2.1, ?_⟩
  have tt := t1.trans (t2.trans t3)
  rcases rkvG_get rn.kv (k := k) with ⟨e1, e2⟩ | ⟨d', v, e1, e2, rv⟩
  · rw [e1] at q
    rw [e2]
    exact fi z h3 q vz H3 tt r3 rz
  · rw [e1] at q
    rw [e2]
    exact fi d' h3 q v H3 tt r3 rv
theorem ie_disp0N : IE X Hb (.Dict [] [] pos) mDisp0N := by
  refine pe_w pe_newN fun σ H Q ⟨env, h, Q0, re, rh, m, f⟩ p np => ?_
  exact f _ _ (m p (rh.free np)) _ _ (.new np) (rh.new np ⟨[], rfl, rfl, .nil, fun x hx => nomatch hx⟩) rv_ref
theorem is_putN (hu : X.A.units + 64 < cLine) (he : IE X Hb e me) (ho : IE X Hb o mo) (hi : IE X Hb i mi) (hs : swapsWith e (some (.Subscript o i pos')) pos.line X.env = pure false := by rfl) : IS X Hb (.Assign [.Subscript o i pos'] e pos) (mPutN me mo mi) := by
  refine is_of (ps_putN hu ho hi he hs) fun D' σ H env h D0 re rh m f => ?_
  refine ⟨env, h, _, re, rh, m, fun d h1 q1 v H1 t1 r1 rv => ?_⟩
  refine ⟨env, h1, _, re.mono t1, r1, q1, fun x h2 q2 vx H2 t2 r2 rx => ?_⟩
  refine ⟨env, h2, _, (re.mono t1).mono t2, r2, q2, ?_⟩
  rintro y h3 ⟨a, kvs, k, rfl, ea, tk, pk, z, q⟩ vy H3 t3 r3 ry
  obtain ⟨xs, E, rn⟩ := r3.dN ea
  obtain ⟨b, rfl, rk⟩ := tup_ref tk ry
  have hl := rkvG_len rn.kv
  rw [vw, List.length_map] at hl
  have t4 : TL H3 (upd H3 a (nob a (putN xs k b v))) := .put E (fun _ z => by cases z) (fun _ _ z => by cases z)
  have tt := t1.trans (t2.trans (t3.trans t4))
  refine ⟨a, b, xs, k, rx.mono t3 |>.ref, rfl, E, rn.2.2, rk, pk, tk.2.1, by rw [← hl]; exact z, f.nx _ _ q σ _ tt (re.mono tt) (r3.put t4 ⟨putN xs k b v, rfl, ?_⟩)⟩
  have kv := (rkvG_put (k := k) rn.kv (rv.mono (t2.trans t3))).mono t4
  rw [← vw_put (b := b)] at kv
  refine ⟨by rw [kv.1, vw, List.map_map]; rfl, by have := kv.2; rw [vw, List.map_map] at this; exact this, fun w hw => ?_⟩
  rcases mem_putN hw with ⟨y, hy, e1, e2⟩ | ⟨e1, e2⟩
  · rw [← e1, ← e2]; exact (rn.2.2 y hy).mono t4
  · rw [e1, e2]; exact rk.mono t4
end
theorem putN_ {e o i : MTE} {D' : MEnds} {env : ME} {h : MH} (q : e env h fun d h1 => o env h1 fun x h2 => i env h2 fun y h3 => ∃ a kvs k, x = .ref a ∧ h3 a = some (.dN kvs) ∧ tupK y k ∧ plainK k = true ∧ kvs.length < sizeLine ∧ D'.nx env (up h3 a (.dN (dPutG kvs k d)))) : mPutN e o i D' env h := q
end M

namespace M
open PySem PySem.Spec PyProof PyProof.Rows L2
/-! ### dict(pairs), len, keys -/
def allN (kvs : List (NestedKey × Addr × V)) (acc : List (NestedKey × Addr × V)) : List (NestedKey × Addr × V) := kvs.foldl (fun acc kv => putN acc kv.1 kv.2.1 kv.2.2) acc
theorem np_all : ∀ {kvs : List (NestedKey × Addr × V)} {ys : List (NestedKey × Addr × Value)}, Paired NPair kvs ys → ∀ {acc : List (NestedKey × Addr × V)} {zs : List (NestedKey × Addr × Value)}, Paired NPair acc zs → Paired NPair (allN kvs acc) (storedAllH zs ys)
  | _, _, .nil, _, _, r => r
  | _, _, .cons (a := p) (b := q) h t, acc, zs, r => by
    obtain ⟨e1, e2, e3⟩ := h
    have := np_put r p.1 p.2.1 e3
    show Paired NPair (allN _ (putN acc p.1 p.2.1 p.2.2)) (storedAllH (storedH zs q.1 q.2.1 q.2.2) _)
    rw [← e1, ← e2]
    exact np_all t this
theorem allN_len : ∀ (kvs acc : List (NestedKey × Addr × V)), (allN kvs acc).length ≤ acc.length + kvs.length
  | [], acc => Nat.le_refl _
  | p :: kvs, acc => by
    have a := allN_len kvs (putN acc p.1 p.2.1 p.2.2)
    have b := putN_len (xs := acc) (k := p.1) (b := p.2.1) (v := p.2.2)
    show (allN kvs (putN acc p.1 p.2.1 p.2.2)).length ≤ _
    rw [List.length_cons]
    omega
theorem mem_allN : ∀ (kvs acc : List (NestedKey × Addr × V)) {x : NestedKey × Addr × V}, x ∈ allN kvs acc → (∃ y ∈ acc, y.1 = x.1 ∧ y.2.1 = x.2.1) ∨ ∃ y ∈ kvs, y.1 = x.1 ∧ y.2.1 = x.2.1
  | [], acc, x, h => .inl ⟨x, h, rfl, rfl⟩
  | p :: kvs, acc, x, h => by
    rcases mem_allN kvs (putN acc p.1 p.2.1 p.2.2) h with ⟨y, hy, e1, e2⟩ | ⟨y, hy, e⟩
    · rcases mem_putN hy with ⟨z, hz, f1, f2⟩ | ⟨f1, f2⟩
      · exact .inl ⟨z, hz, f1.trans e1, f2.trans e2⟩
      · exact .inr ⟨p, List.mem_cons_self .., f1.symm.trans e1, f2.symm.trans e2⟩
    · exact .inr ⟨y, List.mem_cons_of_mem _ hy, e⟩
section
variable {X : Cx}
def PrN (X : Cx) (H : Hp) (p : Addr) (kv : NestedKey × Addr × V) : Prop := SqT X.K H p [.ref kv.2.1, kv.2.2] ∧ RV X.K H (kD kv.1) (.ref kv.2.1) ∧ plainK kv.1 = true ∧ kv.1.depth ≤ 8
theorem pairs_ofN {pins : List (Addr × Obj)} {σ : L2.St} {H : Hp} {s : Shared} (I : Inv X pins σ H s) : ∀ {ps : List Addr} {kvs : List (NestedKey × Addr × V)}, Paired (PrN X H) ps kvs →
    ∃ ys : List (NestedKey × Addr × Value), Paired NPair kvs ys ∧ ys.length = ps.length ∧ (∀ y ∈ ys, (nestedKind X.prog X.w).is s.heap y.1 y.2.1) ∧ ∀ (j : Nat) (y : NestedKey × Addr × Value), ys[j]? = some y → ∃ b : Addr, ps[j]? = some b ∧ IsTup s.heap b #[.ref y.2.1, y.2.2]
  | _, _, .nil => ⟨[], .nil, rfl, (by intro y hy; cases hy), (by intro j q e; simp at e)⟩
  | _, _, .cons (a := p) (b := kv) h t => by
    obtain ⟨ys, r, hl, hi, hp⟩ := pairs_ofN I t
    obtain ⟨h1, h2, h3, h4⟩ := h
    obtain ⟨its, rv, ht, _⟩ := I.tuple h1
    obtain ⟨u, y, ei, ru, ry⟩ := vals2 rv
    subst ei
    obtain rfl : u = Value.ref kv.2.1 := ru
    refine ⟨(kv.1, kv.2.1, y) :: ys, .cons ⟨rfl, rfl, ry⟩ r, by rw [List.length_cons, List.length_cons, hl], fun q hq => ?_, fun j q e => ?_⟩
    · rcases List.mem_cons.mp hq with e | e
      · rw [e]; exact ⟨nested_is I h2 rfl, h4⟩
      · exact hi q e
    · cases j with
      | zero =>
        have e' : (kv.1, kv.2.1, y) = q := Option.some.inj e
        subst e'
        exact ⟨p, rfl, ht⟩
      | succ j =>
        obtain ⟨b, e1, e2⟩ := hp j q (by simpa using e)
        exact ⟨b, by simpa using e1, e2⟩
theorem call_dictN (hu : X.A.units + 64 < cLine) (hcalm : X.calm = true) : CallR X (.type "dict") (fun xs H Q => ∃ (a : Addr) (ps : List Addr) (kvs : List (NestedKey × Addr × V)), xs = [.ref a] ∧ SqL X.K H a (ps.map V.ref) ∧ Paired (PrN X H) ps kvs ∧
    ∀ p, H p = none → Q (.ref p) (upd H p (nob p (allN kvs [])))) := by
  intro pins s σ H xs us Q I r q
  obtain ⟨a, ps, kvs, ex, hq, hp, q⟩ := q
  subst ex
  obtain ⟨u, eu, rx⟩ := vals1 r
  subst eu
  cases rx
  obtain ⟨its, rv, pl, hz⟩ := I.list hq
  have ei := refs_at rv
  subst ei
  rw [List.length_map] at hz
  obtain ⟨ys, rel, hl, his, hpr⟩ := pairs_ofN I hp
  obtain ⟨o, n, ho, hc, hd, hdat⟩ := pl
  have prl : (ys.map fun y => ((Value.ref y.2.1, y.2.2) : Value × Value)).length = ys.length := List.length_map ..
  refine PySem.call_dict_pairsH (knd := nestedKind X.prog X.w) (ps := ys) (PairArg.list a (ps.map Value.ref).toArray (fun j => ps.getD j 0) (ys.map fun y => ((Value.ref y.2.1, y.2.2) : Value × Value))) (I.ok.hd hcalm) ?_ ⟨⟨o, n, ho, hc, hd, hdat⟩, ?_, fun j k v e => ?_⟩ ⟨prl.symm, fun i key v e => ?_⟩ ?_ (by rw [prl, hl]; exact hz) fun h' tk hd' k => ?_
  · show X.A.units + 1 + 1 + 8 < cLine
    omega
  · rw [prl, hl]; simp
  · rw [List.getElem?_map] at e
    obtain ⟨y, e1, e2⟩ := Option.map_eq_some_iff.mp e
    cases e2
    obtain ⟨b, f1, f2⟩ := hpr j y e1
    have : ps.getD j 0 = b := by rw [List.getD_eq_getElem?_getD, f1]; rfl
    exact ⟨show (ps.map Value.ref).toArray[j]? = some (.ref (ps.getD j 0)) from by rw [this]; simp [f1], show PairAt s.heap (ps.getD j 0) _ _ from by rw [this]; exact .inl f2⟩
  · have e : (ys.map fun y => ((Value.ref y.2.1, y.2.2) : Value × Value))[i]? = some (key, v) := e
    rw [List.getElem?_map] at e
    obtain ⟨y, e1, e2⟩ := Option.map_eq_some_iff.mp e
    cases e2
    exact ⟨y.1, y.2.1, e1, rfl⟩
  · intro h' hk y hy
    refine nestedKind_stays.stays (fun b ob vs m e _ => hk b ob (Nat.ne_of_lt (Heap.lt_size e)) (fun z => nomatch z) e) (his y hy)
  · have hm : (s.heap.objs.size == sysModules) = false := beq_eq_false_iff_ne.mpr (Nat.ne_of_gt I.big)
    have hlen : (allN kvs []).length ≤ sizeLine := by
      refine Nat.le_trans (allN_len kvs []) ?_
      rw [List.length_nil, Nat.zero_add, Paired.length rel, hl]
      exact hz
    have pk : ∀ x ∈ allN kvs [], plainK x.1 = true ∧ x.1.depth ≤ 8 := fun x hx => by
      rcases mem_allN kvs [] hx with ⟨y, hy, _⟩ | ⟨y, hy, e, _⟩
      · cases hy
      · rw [← e]
        have : ∀ {ps : List Addr} {kvs : List (NestedKey × Addr × V)}, Paired (PrN X H) ps kvs → ∀ y ∈ kvs, plainK y.1 = true ∧ y.1.depth ≤ 8 := by
          intro ps kvs pr
          induction pr with
          | nil => intro y hy; cases hy
          | cons h t ih =>
            intro y hy
            rcases List.mem_cons.mp hy with e | e
            · rw [e]; exact h.2.2
            · exact ih y e
        exact this hp y hy
    exact ⟨.ref s.heap.objs.size, _, I.laid (t' := tk) (fun b o e => k b o (fun z => nomatch z) e) (Nat.le_refl _) (nob_ok (desc_of hlen hm pk (np_all rel .nil) hd')), rfl, q _ (I.hok.fresh (Nat.le_refl _))⟩
theorem keys_of {h : Heap} : ∀ (ps : List Addr) (prs : List (Key × Value)), prs.length = ps.length → (∀ (j : Nat) (q : Key × Value), prs[j]? = some q → ∃ (b : Addr) (u : Value), ps[j]? = some b ∧ IsTup h b #[u, q.2] ∧ keyIs q.1 u = true) →
    ∃ ks : List Value, ks.length = ps.length ∧ ∀ (j : Nat) (q : Key × Value), prs[j]? = some q → ∃ (b : Addr) (u : Value), ps[j]? = some b ∧ ks[j]? = some u ∧ IsTup h b #[u, q.2] ∧ keyIs q.1 u = true
  | [], [], _, _ => ⟨[], rfl, by intro j q e; simp at e⟩
  | [], _ :: _, hl, _ => by simp at hl
  | _ :: _, [], hl, _ => by simp at hl
  | p :: ps, y :: prs, hl, hpr => by
    obtain ⟨ks, h1, h2⟩ := keys_of ps prs (by simpa using hl) (by
      intro j q e
      obtain ⟨b, u, e1, e2⟩ := hpr (j + 1) q (by simpa using e)
      exact ⟨b, u, by simpa using e1, e2⟩)
    obtain ⟨b, u, e1, e2, e3⟩ := hpr 0 y rfl
    refine ⟨u :: ks, by simp [h1], ?_⟩
    intro j q e
    cases j with
    | zero =>
      have : y = q := Option.some.inj e
      subst this
      exact ⟨b, u, e1, rfl, e2, e3⟩
    | succ j =>
      obtain ⟨b', u', f1, f2, f3⟩ := h2 j q (by simpa using e)
      exact ⟨b', u', by simpa using f1, by simpa using f2, f3⟩
/-- dict(t) of a tuple of pairs (key, value), keys ints or texts -/
theorem call_dictKT (hcalm : X.calm = true) : CallR X (.type "dict") (fun xs H Q => ∃ (a : Addr) (ps : List Addr) (kvs : List (Key × V)), xs = [.ref a] ∧ SqN X.K H a (ps.map V.ref) ∧ Paired (fun p kv => SqT X.K H p [kV kv.1, kv.2]) ps kvs ∧
    ∀ p, H p = none → Q (.ref p) (upd H p (.dK (mergeK [] kvs)))) := by
  intro pins s σ H xs us Q I r q
  obtain ⟨a, ps, kvs, ex, hq, hp, q⟩ := q
  subst ex
  obtain ⟨u, eu, rx⟩ := vals1 r
  subst eu
  cases rx
  have hN : ∃ its : List Value, Vals (ps.map V.ref) its ∧ PlainSeq "tuple" s.heap a its.toArray ∧ (ps.map V.ref).length ≤ sizeLine := by
    rcases hq with ⟨o, ho, hd⟩ | ⟨o, its, n, hk, hc, hd, hs, hz, rv⟩
    · obtain ⟨h1, hz, its, rv, o', h2, hc, n, hdat⟩ := I.hok a _ ho
      rw [h1] at h2
      cases h2
      exact ⟨its, rv, ⟨o, n, h1, hc, hd, hdat⟩, hz⟩
    · refine ⟨its.toList, rv, ⟨o, n, I.kIn a o hk, hc, hd, by simpa using hs⟩, ?_⟩
      have e := rv.length
      simp only [Array.length_toList] at e
      omega
  obtain ⟨its, rv, pl, hz⟩ := hN
  have ei := refs_at rv
  subst ei
  rw [List.length_map] at hz
  obtain ⟨prs, rel, hl, hpr⟩ := pairs_of I hp
  have hks := keys_of ps prs hl hpr
  obtain ⟨ks, k1, k2⟩ := hks
  have zl : (List.zip ks (prs.map (·.2))).length = ps.length := by rw [List.length_zip, List.length_map, k1, hl, Nat.min_self]
  have zat : ∀ (j : Nat) (k v : Value), (List.zip ks (prs.map (·.2)))[j]? = some (k, v) → ∃ q' : Key × Value, prs[j]? = some q' ∧ q'.2 = v ∧ ks[j]? = some k := fun j k v e => by
    rw [List.getElem?_zip_eq_some] at e
    obtain ⟨e1, e2⟩ := e
    rw [List.getElem?_map] at e2
    obtain ⟨q', e3, e4⟩ := Option.map_eq_some_iff.mp e2
    exact ⟨q', e3, e4, e1⟩
  refine PySem.call_dict_pairs (knd := mixKind X.prog X.w) (kvs := prs) (PairArg.tuple a (ps.map Value.ref).toArray (fun j => ps.getD j 0) (List.zip ks (prs.map (·.2)))) (I.ok.hd hcalm) ⟨pl, ?_, fun j k v e => ?_⟩ ⟨by rw [zl, hl], fun i key v e => ?_⟩ (by rw [zl]; exact hz) fun h' tk hd' k => ?_
  · rw [zl]; simp
  · obtain ⟨q', e1, rfl, e2⟩ := zat j k v e
    obtain ⟨b, u, f1, f2, f3, _⟩ := k2 j q' e1
    rw [e2] at f2
    cases f2
    have : ps.getD j 0 = b := by rw [List.getD_eq_getElem?_getD, f1]; rfl
    exact ⟨show (ps.map Value.ref).toArray[j]? = some (.ref (ps.getD j 0)) from by rw [this]; simp [f1], show PairAt s.heap (ps.getD j 0) _ _ from by rw [this]; exact .inl f3⟩
  · obtain ⟨q', e1, rfl, e2⟩ := zat i key v e
    obtain ⟨b, u, f1, f2, f3, f4⟩ := k2 i q' e1
    rw [e2] at f2
    cases f2
    exact ⟨q'.1, e1, f4⟩
  · have hm : (s.heap.objs.size == sysModules) = false := beq_eq_false_iff_ne.mpr (Nat.ne_of_gt I.big)
    have hlen : (mergeK [] kvs).length ≤ sizeLine := by
      refine Nat.le_trans (length_mergeK kvs []) ?_
      rw [List.length_nil, Nat.zero_add, rel.length, hl]
      exact hz
    exact ⟨.ref s.heap.objs.size, upd H s.heap.objs.size (.dK (mergeK [] kvs)), I.laid (t' := tk) (fun b o e => k b o (fun z => nomatch z) e) (Nat.le_refl _) (show ObjOk X.prog X.w _ _ _ (.dK (mergeK [] kvs)) from ⟨hlen, hm, merged [] prs, KV.merge rel .nil, hd'⟩), rfl, q _ (I.hok.fresh (Nat.le_refl _))⟩
theorem call_lenN : CallR X (.builtin "len") (fun xs H Q => ∃ (a : Addr) (ws : List (NestedKey × Addr × V)), xs = [.ref a] ∧ RdN H a ws ∧ (∀ x ∈ ws, RV X.K H (kD x.1) (.ref x.2.1)) ∧ Q (.int (ws.length : Nat)) H) := by
  intro pins s σ H xs us Q I r h
  obtain ⟨p, ws, rfl, hp, hk, q⟩ := h
  obtain ⟨u, rfl, rx⟩ := vals1 r
  obtain rfl : u = .ref p := rx
  obtain ⟨ys, pr, dd, z, hs, _⟩ := nob_keyed I hp hk
  have hl : ws.length = ys.length := Paired.length pr
  refine call_len_dictH hs dd (by rw [sizeLine_eq] at z; omega) ?_
  rw [← hl]
  exact ⟨.int ((ws.length : Nat) : Int), H, I.tok _, ⟨_, rfl⟩, q⟩
end
end M

namespace M
open PySem PySem.Spec PyProof PyProof.Rows L2
/-! ### the keys of a dict with nested keys, walked while it is locked -/
def Itkn (d : Addr) (o : Obj) (xs : List (NestedKey × Addr × V)) : It :=
  ⟨fun i H => H d = some (.frz o (nob d xs)) ∧ i < xs.length, fun i H x H' => H' = H ∧ ∃ p, xs[i]? = some p ∧ x = .ref p.2.1, fun i H => H d = some (.frz o (nob d xs)) ∧ xs.length ≤ i⟩
section
variable {X : Cx} {pins : List (Addr × Obj)} {σ : L2.St} {H : Hp} {s : Shared} {d : Addr} {o : Obj}
theorem frzN {xs : List (NestedKey × Addr × V)} (I : Inv X pins σ H s) (h : H d = some (.frz o (nob d xs))) :
    (d == sysModules) = false ∧ s.heap.get? d = some o ∧ o.ExactDict ∧ ∃ (es : Array DictEntry) (ep : Nat), o.data = .dict es ep ∧ es.size = xs.length ∧
      ∀ (i : Nat) (p : NestedKey × Addr × V), xs[i]? = some p → ∃ en : DictEntry, es[i]? = some en ∧ en.key = .ref p.2.1 := by
  obtain ⟨hd, ⟨z, hs, pk, ys, pr, o', es, ep, ho, hx, hdt, he, _⟩, _⟩ := I.hok d _ h
  rw [hd] at ho
  cases ho
  have he := he X.prog X.w
  refine ⟨hs, hd, hx, es, ep, hdt, ?_, fun i p e => ?_⟩
  · have l1 : es.size = ys.length := size_of_entries he
    have l2 : xs.length = ys.length := Paired.length pr
    omega
  · obtain ⟨b, hb, e1, e2, _⟩ := paired_get pr e
    have q := entry_at he i
    rw [hb] at q
    exact ⟨_, q, by rw [e2]; rfl⟩
end
section
variable {P : Program} {w : World} {K : PySem.W.Frag} {tg : Expr} {d : Addr} {o : Obj} {es : Array DictEntry} {ep : Nat}
theorem turn_keysN {xs : List (NestedKey × Addr × V)} (it : Addr) (hod : o.data = .dict es ep) : Turn P w K tg (Itkn d o xs) [it] it (fun i h => h.IsKeyIter it d i xs.length ep) where
  mem := by simp
  obj := fun i h st b hb => by
    have e : b = it := by simpa using hb
    subst e
    obtain ⟨oi, e, c, dd⟩ := st
    exact ⟨oi, e, fun v z => by rw [dd] at z; cases z⟩
  keep := fun i h h' st k => st.at fun oi e => k it (by simp) oi e
  item := by
    intro X hP hw hK hc i pins s σ H E I hf st hg
    subst hP hw hK
    obtain ⟨hd, hi⟩ := hg
    obtain ⟨f0, f1, f2, f3, f4, f5⟩ := hf it (by simp)
    obtain ⟨hs, hgd, hx, es', ep', hdt, hsz, ent⟩ := frzN I hd
    obtain ⟨rfl, rfl⟩ := dict_ep hod hdt
    obtain ⟨p, hkv⟩ : ∃ p, xs[i]? = some p := ⟨xs[i], List.getElem?_eq_getElem hi⟩
    obtain ⟨en, hen, hkey⟩ := ent i p hkv
    refine next_key_item st hgd hdt hsz hen fun h' st' sb => ?_
    have I1 : Inv X pins σ H { s with heap := h' } := I.turned (t' := s.toks) (fun b ob hb e => (sb.2 b hb).trans e) f0 f1 f3 f4 f5
    obtain ⟨oi, e, c, dd⟩ := id st'
    exact ⟨en.key, rfl, go_of (s := { s with heap := h' }) e c dd (by decide) ⟨.ref p.2.1, H, I1, hkey, ⟨rfl, p, hkv, rfl⟩, st', fun b hb => (hf b hb).1⟩⟩
  done := by
    intro X hP hw hK hc i pins s σ H E I hf st hg
    subst hP hw hK
    obtain ⟨hd, hi⟩ := hg
    obtain ⟨f0, f1, f2, f3, f4, f5⟩ := hf it (by simp)
    obtain ⟨hs, hgd, hx, es', ep', hdt, hsz, ent⟩ := frzN I hd
    obtain ⟨rfl, rfl⟩ := dict_ep hod hdt
    exact next_key_end (I.ok.hd hc) st hgd hdt hsz hi fun h' eb => ⟨rfl, I.turned (t' := s.toks) (fun b ob hb e => eb b ob hb e) f0 f1 f3 f4 f5⟩
  self := fun A i s Q E st h => by
    refine wpAny_pyIter_slot st.typeIs PySem.F.slot_dict_keyiterator_iter (wpAny_call_entry PySem.F.slot_dict_keyiterator_iter st.typeIs PySem.F.entry_dict_keyiterator_iter ?_ (PySem.F.args_dict_keyiterator_iter_1 _))
    show wpAny _ _ (ret (.ref it)) _ _ s
    exact wpAny_pure ⟨_, rfl, "dict_keyiterator", _, st.typeIs, PySem.F.slot_dict_keyiterator_next.lookup, h⟩
end
def iKeysN (td : TE) : TI := fun σ H R => td σ H fun x H1 => ∃ d o xs, x = .ref d ∧ H1 d = some (.frz o (nob d xs)) ∧ R (Itkn d o xs) H1
theorem pi_keysN {X : Cx} {tg e : Expr} {td : TE} (he : PE X e td) : PI X tg e (iKeysN td) := by
  refine ⟨fun pins s σ H R I h => ?_⟩
  refine thn (he.run pins s σ H _ I h) fun u s1 ⟨x, H1, I1, rx, d, o, xs, ex, hd, q⟩ => ?_
  subst ex
  obtain rfl : u = Value.ref d := rx
  obtain ⟨hs, hgd, hx, es, ep, hdt, hsz, ent⟩ := frzN I1 hd
  refine iter_keys hs hgd hx hdt (pi_one (tk := s1.toks) I1 _ (turn_keysN _ hdt) ⟨_, Heap.get?_push_size _ rfl, rfl, ?_⟩ q)
  rw [hsz] <;> rfl
/-! ### over the mirror -/
def srcN (d : Addr) (kvs : List (NestedKey × D)) (xs : List (NestedKey × Addr × V)) (od : Obj) : MSrc := ⟨kvs.length, fun i => match kvs[i]? with
  | some kv => kD kv.1
  | none => .non, fun h' => h' d = some (.fN kvs xs od)⟩
def mKeysN (n : Nat) : MTI := fun env h R => ∃ d kvs xs od, env[n]? = some (some (.ref d)) ∧ h d = some (.fN kvs xs od) ∧ R (srcN d kvs xs od) h
/-- an expression, while the dict that the name holds is locked -/
def mLockE (n : Nat) (m : MTE) : MTE := fun env h Q => ∃ d kvs, env[n]? = some (some (.ref d)) ∧ h d = some (.dN kvs) ∧ ∀ xs od, m env (up h d (.fN kvs xs od)) fun v h' => h' d = some (.fN kvs xs od) ∧ Q v (up h' d (.dN kvs))
section
variable {X : Cx} {Hb : Hp} {tg e : Expr} {n : Nat} {m : MTE}
theorem RN.len {K : PySem.W.Frag} {H : Hp} {kvs : List (NestedKey × D)} {xs : List (NestedKey × Addr × V)} (r : RN K H kvs xs) : kvs.length = xs.length := by
  have := congrArg List.length r.1
  rwa [List.length_map, List.length_map] at this
theorem so_N {K : PySem.W.Frag} {H : Hp} {d : Addr} {kvs : List (NestedKey × D)} {xs : List (NestedKey × Addr × V)} {od : Obj} (rk : RN K H kvs xs) : SrcOk K H (srcN d kvs xs od) (Itkn d od xs) where
  go := fun i h H' t r ok hi => ⟨(r.fN ok).1, by rw [← (r.fN ok).2.len]; exact hi⟩
  stop := fun h H' t r ok => ⟨(r.fN ok).1, by rw [← (r.fN ok).2.len]; exact Nat.le_refl _⟩
  yld := fun i h H' t r ok hi x H2 y => by
    obtain ⟨rfl, p, e1, rfl⟩ := y
    refine ⟨.refl _, r, ?_⟩
    have hk : (kvs.map (·.1))[i]? = some p.1 := by rw [rk.1, List.getElem?_map, e1]; rfl
    rw [List.getElem?_map] at hk
    obtain ⟨kv, e3, e4⟩ := Option.map_eq_some_iff.mp hk
    show RV K _ (match kvs[i]? with
      | some kv => kD kv.1
      | none => .non) _
    rw [e3]
    show RV K _ (kD kv.1) _
    rw [e4]
    exact ((rk.2.2 p (List.mem_of_getElem? e1)).mono t)
theorem ii_keysN (he : IE X Hb e (mVar n)) : II X Hb tg e (mKeysN n) := by
  refine pi_w (pi_keysN he) fun σ H R ⟨env, h, Q0, re, rh, ⟨d, kvs, xs, od, en, ed, m⟩, f⟩ => ?_
  refine ⟨env, h, fun x h' => x = .ref d ∧ h' = h, re, rh, ⟨_, en, rfl, rfl⟩, ?_⟩
  rintro _ _ ⟨rfl, rfl⟩ v H1 t1 r1 rx
  obtain ⟨E, rk⟩ := r1.fN ed
  exact ⟨d, od, xs, rx.ref, E, f _ _ m _ H1 t1 r1 (so_N rk)⟩
theorem ie_lockE (he : IE X Hb e m) : IE X Hb e (mLockE n m) := by
  refine pe_w (pe_lock he) fun σ H Q ⟨env, h, Q0, re, rh, ⟨d, kvs, en, ed, mm⟩, f⟩ => ?_
  obtain ⟨xs, E, rk⟩ := rh.dN ed
  refine ⟨d, nob d xs, E, True.intro, fun od => ?_⟩
  have t1 : TL H (upd H d (.frz od (nob d xs))) := .lockN E
  refine ⟨env, _, _, re.mono t1, rh.put (m := .fN kvs xs od) t1 ⟨rfl, rk.mono t1⟩, mm xs od, ?_⟩
  rintro v h' ⟨e', q⟩ v' H' t rh' rv'
  obtain ⟨E', rk'⟩ := rh'.fN e'
  have t2 : TL H' (upd H' d (nob d xs)) := .unlockN E'
  exact ⟨E', f v _ q v' _ (t1.trans (t.trans t2)) (rh'.put t2 ⟨xs, rfl, rk'.mono t2⟩) (rv'.mono t2)⟩
end
section
variable {X : Cx} {Hb : Hp} {n i : Nat} {st : Stmt} {m : MTE}
/-- x = e, the dict that the name holds locked meanwhile -/
theorem is_lockSet (hs : IS X Hb st (mSet i m)) : IS X Hb st (mSet i (mLockE n m)) := by
  refine is_of (ps_lock hs) fun D' σ H env h D0 re rh q f => ?_
  obtain ⟨d, kvs, en, ed, mm⟩ := q
  obtain ⟨xs, E, rk⟩ := rh.dN ed
  refine ⟨d, nob d xs, E, True.intro, fun od => ?_⟩
  have t1 : TL H (upd H d (.frz od (nob d xs))) := .lockN E
  refine liftS_iff.mpr ⟨env, _, ⟨fun env' h' => h' d = some (.fN kvs xs od) ∧ D0.nx env' (up h' d (.dN kvs)), fun _ _ => False, fun _ _ => False, fun _ _ => False⟩, re.mono t1, rh.put (m := .fN kvs xs od) t1 ⟨rfl, rk.mono t1⟩, mm xs od, ?_, ?_, ?_, ?_⟩
  · rintro env' h' ⟨e', q⟩ σ' H' t re' rh'
    obtain ⟨E', rk'⟩ := rh'.fN e'
    have t2 : TL H' (upd H' d (nob d xs)) := .unlockN E'
    exact ⟨E', f.nx env' _ q σ' _ (t1.trans (t.trans t2)) (re'.mono t2) (rh'.put t2 ⟨xs, rfl, rk'.mono t2⟩)⟩
  · rintro v h' q; exact q.elim
  · rintro v h' q; exact q.elim
  · rintro v h' q; exact q.elim
end
/-! ### calls -/
abbrev prN (kv : NestedKey × D) : D := .tup [kD kv.1, kv.2]
abbrev prK (kv : Key × D) : D := .tup [keyD kv.1, kv.2]
def mrgN (kvs acc : List (NestedKey × D)) : List (NestedKey × D) := kvs.foldl (fun acc kv => dPutG acc kv.1 kv.2) acc
def mrgK (kvs acc : List (Key × D)) : List (Key × D) := kvs.foldl (fun acc kv => dPutK acc kv.1 kv.2) acc
theorem mrg_rel {K : PySem.W.Frag} {H : Hp} : ∀ {kvs : List (NestedKey × D)} {ws : List (NestedKey × Addr × V)}, RKV K H kvs (vw ws) → ∀ {acc : List (NestedKey × D)} {zs : List (NestedKey × Addr × V)}, RKV K H acc (vw zs) → RKV K H (mrgN kvs acc) (vw (allN ws zs))
  | [], ws, r, acc, zs, r2 => by
    have : ws = [] := by
      have := r.1
      rw [List.map_nil] at this
      have := congrArg List.length this
      rw [List.length_map, List.length_map] at this
      exact List.length_eq_zero_iff.mp this.symm
    subst this
    exact r2
  | kv :: kvs, [], r, acc, zs, r2 => by have := r.1; cases this
  | kv :: kvs, w :: ws, r, acc, zs, r2 => by
    obtain ⟨v, rs, e, q, t⟩ := rkvG_inv r
    have e : vw (w :: ws) = (kv.1, v) :: rs := e
    rw [vw, List.map_cons] at e
    injection e with e1 e2
    injection e1 with e1 e3
    have a := rkvG_put (k := kv.1) r2 q
    show RKV K H (mrgN kvs (dPutG acc kv.1 kv.2)) (vw (allN ws (putN zs w.1 w.2.1 w.2.2)))
    refine mrg_rel (by rw [vw, e2]; exact t) ?_
    rw [vw_put, e1, e3]
    exact a
theorem mrgK_rel {K : PySem.W.Frag} {H : Hp} : ∀ {kvs : List (Key × D)} {ws : List (Key × V)}, RKV K H kvs ws → ∀ {acc : List (Key × D)} {zs : List (Key × V)}, RKV K H acc zs → RKV K H (mrgK kvs acc) (mergeK zs ws)
  | [], ws, r, acc, zs, r2 => by
    have := rkvG_nil r
    subst this
    exact r2
  | kv :: kvs, ws, r, acc, zs, r2 => by
    obtain ⟨v, rs, rfl, q, t⟩ := rkv_inv r
    exact mrgK_rel t (rkv_put (k := kv.1) r2 q)
def rDictN : MRA := fun xs h Q => match xs with
  | [.ref a] => ∃ kvs : List (NestedKey × D), h a = some (.lst (kvs.map prN)) ∧ (∀ kv ∈ kvs, plainK kv.1 = true ∧ kv.1.depth ≤ 8 ∧ ∃ ks, kv.1 = .tup ks) ∧ ∀ p, h p = none → Q (.ref p) (up h p (.dN (mrgN kvs [])))
  | _ => False
def rDictKT : MRA := fun xs h Q => match xs with
  | [.tup ds] => ∃ kvs : List (Key × D), ds = kvs.map prK ∧ ∀ p, h p = none → Q (.ref p) (up h p (.dK (mrgK kvs [])))
  | _ => False
def rDictKL : MRA := fun xs h Q => match xs with
  | [.ref a] => ∃ kvs : List (Key × D), h a = some (.lst (kvs.map prK)) ∧ ∀ p, h p = none → Q (.ref p) (up h p (.dK (mrgK kvs [])))
  | _ => False
def rLenN : MRA := fun xs h Q => match xs with
  | [.ref a] => ∃ kvs, isDN h a kvs ∧ Q (.int kvs.length) h
  | _ => False
def rSortedDI : MRA := fun xs h Q => match xs with
  | [.ref a] => ∃ (kvs : List (Key × D)) (ks : List Int), h a = some (.dK kvs) ∧ kvs.map (·.1) = ks.map Sum.inl ∧ ks.length < 64 ∧ ∀ (ys : List Int) p, ys.Perm ks → ys.Pairwise (· ≤ ·) → h p = none → Q (.ref p) (up h p (.lst (ys.map .int)))
  | _ => False
section
variable {X : Cx}
theorem prs_N {H : Hp} : ∀ {kvs : List (NestedKey × D)} {vs : List V}, RVs X.K H (kvs.map prN) vs → (∀ kv ∈ kvs, plainK kv.1 = true ∧ kv.1.depth ≤ 8 ∧ ∃ ks, kv.1 = .tup ks) →
    ∃ (ps : List Addr) (ws : List (NestedKey × Addr × V)), vs = ps.map V.ref ∧ Paired (PrN X H) ps ws ∧ RKV X.K H kvs (vw ws) ∧ ∀ w ∈ ws, RV X.K H (kD w.1) (.ref w.2.1)
  | [], vs, r, _ => ⟨[], [], r.inv0, .nil, ⟨rfl, .nil⟩, by intro w hw; cases hw⟩
  | kv :: kvs, vs, r, h => by
    obtain ⟨v, us, rfl, q, t⟩ := r.inv
    obtain ⟨ps, ws, rfl, pr, rk, hw⟩ := prs_N t fun x hx => h x (List.mem_cons_of_mem _ hx)
    obtain ⟨h1, h2, ks, h3⟩ := h kv (List.mem_cons_self ..)
    obtain ⟨a, xs, rfl, ta, rs⟩ := q.tup
    obtain ⟨k, xs1, rfl, qk, rs1⟩ := rs.inv
    obtain ⟨x, xs2, rfl, qx, rs2⟩ := rs1.inv
    have := rs2.inv0
    subst this
    obtain ⟨b, rfl, rb⟩ := tup_ref ⟨rfl, h2, ks, h3⟩ qk
    refine ⟨a :: ps, (kv.1, b, x) :: ws, rfl, .cons ⟨ta, rb, h1, h2⟩ pr, ⟨?_, .cons qx rk.2⟩, fun w hw' => ?_⟩
    · rw [List.map_cons, rk.1]; rfl
    · rcases List.mem_cons.mp hw' with e | e
      · rw [e]; exact rb
      · exact hw w e
theorem cm_dictN (hu : X.A.units + 64 < cLine) (hc : X.calm = true) : CaM X (.type "dict") rDictN := by
  refine ⟨_, call_dictN hu hc, fun xs h Q0 vs H Q q rh rs f => ?_⟩
  unfold rDictN at q
  split at q
  · obtain ⟨v, rfl, rx⟩ := rs.one
    rw [rx.ref]
    obtain ⟨kvs, e, hk, q⟩ := q
    obtain ⟨us, E, r⟩ := rh.lst e
    obtain ⟨ps, ws, rfl, pr, rk, hw⟩ := prs_N r hk
    refine ⟨_, ps, ws, rfl, .of E, pr, fun p np => ?_⟩
    have kv := (mrg_rel rk (acc := []) (zs := []) ⟨rfl, .nil⟩).mono (.new (o := nob p (allN ws [])) np)
    refine f _ _ (q p (rh.free np)) _ _ (.new np) (rh.put (.new np) ⟨allN ws [], rfl, by rw [kv.1, vw, List.map_map]; rfl, by have := kv.2; rw [vw, List.map_map] at this; exact this, fun w hw' => ?_⟩) rv_ref
    rcases mem_allN ws [] hw' with ⟨y, hy, _⟩ | ⟨y, hy, e1, e2⟩
    · cases hy
    · rw [← e1, ← e2]; exact (hw y hy).mono (.new np)
  · exact q.elim
theorem prs_K {H : Hp} : ∀ {kvs : List (Key × D)} {vs : List V}, RVs X.K H (kvs.map prK) vs → ∃ (ps : List Addr) (ws : List (Key × V)), vs = ps.map V.ref ∧ Paired (fun p kv => SqT X.K H p [kV kv.1, kv.2]) ps ws ∧ RKV X.K H kvs ws
  | [], vs, r => ⟨[], [], r.inv0, .nil, ⟨rfl, .nil⟩⟩
  | kv :: kvs, vs, r => by
    obtain ⟨v, us, rfl, q, t⟩ := r.inv
    obtain ⟨ps, ws, rfl, pr, rk⟩ := prs_K t
    obtain ⟨a, xs, rfl, ta, rs⟩ := q.tup
    obtain ⟨k, xs1, rfl, qk, rs1⟩ := rs.inv
    obtain ⟨x, xs2, rfl, qx, rs2⟩ := rs1.inv
    have := rs2.inv0
    subst this
    have ek := keyD_rv qk
    subst ek
    exact ⟨a :: ps, (kv.1, x) :: ws, rfl, .cons ta pr, ⟨by rw [List.map_cons, rk.1]; rfl, .cons qx rk.2⟩⟩
theorem cm_dictKT (hc : X.calm = true) : CaM X (.type "dict") rDictKT := by
  refine ⟨_, call_dictKT hc, fun xs h Q0 vs H Q q rh rs f => ?_⟩
  unfold rDictKT at q
  split at q
  · obtain ⟨v, rfl, rx⟩ := rs.one
    obtain ⟨kvs, rfl, q⟩ := q
    obtain ⟨a, us, rfl, ta, r⟩ := rx.tupN
    obtain ⟨ps, ws, rfl, pr, rk⟩ := prs_K r
    refine ⟨a, ps, ws, rfl, ta, pr, fun p np => ?_⟩
    exact f _ _ (q p (rh.free np)) _ _ (.new np) (rh.new np ⟨_, rfl, mrgK_rel rk ⟨rfl, .nil⟩⟩) rv_ref
  · exact q.elim
theorem cm_dictKL (hc : X.calm = true) : CaM X (.type "dict") rDictKL := by
  refine ⟨_, call_dictP hc, fun xs h Q0 vs H Q q rh rs f => ?_⟩
  unfold rDictKL at q
  split at q
  · obtain ⟨v, rfl, rx⟩ := rs.one
    rw [rx.ref]
    obtain ⟨kvs, e, q⟩ := q
    obtain ⟨us, E, r⟩ := rh.lst e
    obtain ⟨ps, ws, rfl, pr, rk⟩ := prs_K r
    refine ⟨_, ps, ws, rfl, .of E, pr, fun p np => ?_⟩
    exact f _ _ (q p (rh.free np)) _ _ (.new np) (rh.new np ⟨_, rfl, mrgK_rel rk ⟨rfl, .nil⟩⟩) rv_ref
  · exact q.elim
theorem cm_lenN : CaM X (.builtin "len") rLenN := by
  refine ⟨_, call_lenN, fun xs h Q0 vs H Q q rh rs f => ?_⟩
  unfold rLenN at q
  split at q
  · obtain ⟨v, rfl, rx⟩ := rs.one
    rw [rx.ref]
    obtain ⟨kvs, e, q⟩ := q
    obtain ⟨ws, E, rn⟩ := rh.rdN e
    refine ⟨_, ws, rfl, E, rn.2.2, ?_⟩
    rw [← rn.len]
    exact fin_at f q rh rv_int
  · exact q.elim
theorem cm_sortedDI (hc : X.calm = true) : CaM X (.builtin "sorted") rSortedDI := by
  refine ⟨_, call_sortedDI hc, fun xs h Q0 vs H Q q rh rs f => ?_⟩
  unfold rSortedDI at q
  split at q
  · obtain ⟨v, rfl, rx⟩ := rs.one
    rw [rx.ref]
    obtain ⟨kvs, ks, e, hk, l, q⟩ := q
    obtain ⟨ws, E, rk⟩ := rh.dK e
    refine ⟨_, ws, ks, rfl, .inl E, by rw [← rk.1]; exact hk, l, fun ys p h1 h2 np => ?_⟩
    exact f _ _ (q ys p h1 h2 (rh.free np)) _ _ (.new np) (rh.new np (ro_lst .of_ints)) rv_ref
  · exact q.elim
end
/-- d.get(k, x), keys ints or texts -/
def mDGet2K (o i f : MTE) : MTE := fun env h Q => o env h fun x h1 => ∃ a, x = .ref a ∧ (∃ kvs, h1 a = some (.dK kvs)) ∧ i env h1 fun y h2 => f env h2 fun z h3 => ∃ kvs k, h3 a = some (.dK kvs) ∧ y = keyD k ∧ Q ((dV kvs k).getD z) h3
theorem dG_dV {kvs : List (Key × D)} {k : Key} : dG kvs k = dV kvs k := rfl
theorem ie_dget2K {X : Cx} {Hb : Hp} {o e f : Expr} {mo me mf : MTE} {apos cpos : Pos} (hu : X.A.units + 64 < cLine) (ho : IE X Hb o mo) (hi : IE X Hb e me) (hf : IE X Hb f mf) (m2 : M2 X o "get" apos e f cpos) : IE X Hb (.Call (.Attribute o "get" apos) [e, f] [] cpos) (mDGet2K mo me mf) := by
  refine pe_w (pe_dget2 (by omega) ho hi hf m2) fun σ H Q ⟨env, h, Q0, re, rh, m, fi⟩ => ?_
  refine ⟨env, h, _, re, rh, m, ?_⟩
  rintro x h1 ⟨a, rfl, ⟨kvs0, en0⟩, q1⟩ vx H1 t1 r1 rx
  obtain ⟨ws0, E0, _⟩ := r1.dK en0
  refine ⟨a, rx.ref, .inl ⟨ws0, .inl E0⟩, env, h1, _, re.mono t1, r1, q1, fun y h2 q2 vy H2 t2 r2 ry => ?_⟩
  refine ⟨env, h2, _, (re.mono t1).mono t2, r2, q2, ?_⟩
  rintro z h3 ⟨kvs, k, en, rfl, q⟩ vz H3 t3 r3 rz
  obtain ⟨ws, E, rk⟩ := r3.dK en
  have ek := keyD_rv (ry.mono t3)
  subst ek
  refine ⟨valV ws k, DGet.k E, ?_⟩
  have tt := t1.trans (t2.trans t3)
  rcases rkvG_get rk (k := k) with ⟨e1, e2⟩ | ⟨d', v, e1, e2, rv⟩
  · rw [← dG_dV, e1] at q
    rw [e2]
    exact fi z h3 q vz H3 tt r3 rz
  · rw [← dG_dV, e1] at q
    rw [e2]
    exact fi d' h3 q v H3 tt r3 rv
section
variable {h : MH} {Q : MQ} {a : Addr} {ds : List D}
theorem q_dictN : rDictN [.ref a] h Q = (∃ kvs : List (NestedKey × D), h a = some (.lst (kvs.map prN)) ∧ (∀ kv ∈ kvs, plainK kv.1 = true ∧ kv.1.depth ≤ 8 ∧ ∃ ks, kv.1 = .tup ks) ∧ ∀ p, h p = none → Q (.ref p) (up h p (.dN (mrgN kvs [])))) := rfl
theorem q_dictKT : rDictKT [.tup ds] h Q = (∃ kvs : List (Key × D), ds = kvs.map prK ∧ ∀ p, h p = none → Q (.ref p) (up h p (.dK (mrgK kvs [])))) := rfl
theorem q_dictKL : rDictKL [.ref a] h Q = (∃ kvs : List (Key × D), h a = some (.lst (kvs.map prK)) ∧ ∀ p, h p = none → Q (.ref p) (up h p (.dK (mrgK kvs [])))) := rfl
theorem q_lenN : rLenN [.ref a] h Q = (∃ kvs, isDN h a kvs ∧ Q (.int kvs.length) h) := rfl
theorem q_sortedDI : rSortedDI [.ref a] h Q = (∃ (kvs : List (Key × D)) (ks : List Int), h a = some (.dK kvs) ∧ kvs.map (·.1) = ks.map Sum.inl ∧ ks.length < 64 ∧ ∀ (ys : List Int) p, ys.Perm ks → ys.Pairwise (· ≤ ·) → h p = none → Q (.ref p) (up h p (.lst (ys.map .int)))) := rfl
end
end M

namespace M
open PySem PySem.Spec PyProof PyProof.Rows L2
/-! ### methods of tuples -/
def tBMT (K : PySem.W.Frag) (r : V → List V → Hp → VK → Prop) (to : TE) (t : TA) : TE := fun σ H Q => to σ H fun x H1 => (∃ p ys, x = .ref p ∧ SqN K H1 p ys) ∧ t σ H1 fun xs H2 => r x xs H2 Q
section
variable {X : Cx} {o e : Expr} {es : List Expr} {to : TE} {t : TA} {name : Str} {apos cpos : Pos} {id : String} {r : V → List V → Hp → VK → Prop}
theorem sqn_is {pins : List (Addr × Obj)} {σ : L2.St} {H : Hp} {s : Shared} {p : Addr} {ys : List V} (I : Inv X pins σ H s) (h : SqN X.K H p ys) : s.TypeIs (.ref p) "tuple" ∧ ∀ a, Value.ref p = .ref a → ∃ ob, s.heap.get? a = some ob ∧ ob.dict = none := by
  rcases h with ⟨o, ho, hd⟩ | ⟨o, its, n, hk, hc, hd, hs, hz, rv⟩
  · obtain ⟨h1, hz, its, rv, o', h2, hc, n, hdat⟩ := I.hok p _ ho
    rw [h1] at h2
    cases h2
    refine ⟨⟨o, h1, hc⟩, fun a e => ?_⟩
    cases e
    exact ⟨o, h1, hd⟩
  · refine ⟨⟨o, I.kIn p o hk, hc⟩, fun a e => ?_⟩
    cases e
    exact ⟨o, I.kIn _ o hk, hd⟩
theorem pe_bmT (slot : Slot "tuple" name id) (hty : typeOf (.builtin id) = pure (.type "method_descriptor")) (hm : MtR X id r) (ho : PE X o to) (ha : PA X (e :: es) t)
    (hbase : attributeBase o name X.env (eval o X.env) = eval o X.env := by rfl)
    (hfew : ((backTo cpos (starEach (e :: es) X.env)).all (fun x => !x.1) && (backToKw cpos (keywordEach [] X.env)).all (fun x => x.1.isSome)
      && decide ((e :: es).length + ([] : List Keyword).length + (if ([] : List Keyword).isEmpty then 0 else 1) < 30)) = true := by rfl)
    (hline : (apos.endLine == cpos.line) = true := by rfl) (hs : starEach (e :: es) X.env = (false, eval e X.env) :: starEach es X.env := by rfl) (hplain : (backTo cpos (starEach es X.env)).any (·.1) = false := by rfl) :
    PE X (.Call (.Attribute o name apos) (e :: es) [] cpos) (tBMT X.K r to t) := by
  refine ⟨fun pins s σ H Q I h => ?_⟩
  refine wpAny_Call_method_late hbase hfew hline rfl (thn (ho.run pins s σ H _ I h) fun v s1 ⟨x, H1, I1, r1, ⟨p, ys, ex, hq⟩, q1⟩ => ?_)
  subst ex
  obtain rfl : v = Value.ref p := r1
  obtain ⟨h1, h2⟩ := sqn_is I1 hq
  refine ⟨"tuple", id, PySem.F.plainAttrs_tuple, slot, hty, h1, h2, ?_⟩
  have hA := ha.run cpos pins s1 σ H1 _ I1 q1
  rw [hs] at hA ⊢
  refine Calls.callWith_builtin (by show (false || (backTo cpos (starEach es X.env)).any (·.1)) = false; rw [hplain] <;> rfl) (Calls.evalArgs_plain ?_)
  exact thn hA fun us s2 ⟨vs, H2, I2, r2, q2⟩ => hm pins s2 σ H2 (.ref p) vs (.ref p) us Q I2 rfl r2 q2
theorem count_int {i : Int} : ∀ {ns : List Int} {us : List Value}, Vals (ns.map V.int) us → us.countP (eqU (.int i)) = ns.countP (fun j => j == i)
  | [], us, r => by cases r; rfl
  | n :: ns, us, r => by
    cases r with
    | cons a b =>
      obtain ⟨t, rfl⟩ := a
      rw [List.countP_cons, List.countP_cons, count_int b]
      rfl
theorem flat_ints' (ns : List Int) : (ns.map V.int).all flatV = true := by
  rw [List.all_map]
  exact List.all_eq_true.mpr fun _ _ => rfl
/-- t.count(i), t of ints -/
theorem mt_tup_count : MtR X "tuple.count" (fun x xs H Q => ∃ (p : Addr) (ns : List Int) (i : Int), x = .ref p ∧ xs = [.int i] ∧ SqT X.K H p (ns.map V.int) ∧ Q (.int ((ns.countP fun j => j == i : Nat) : Int)) H) := by
  intro pins s σ H x xs v us Q I rx rs h
  obtain ⟨p, ns, i, rfl, rfl, hq, q⟩ := h
  cases rx
  obtain ⟨u, rfl, t, rfl⟩ := vals1 rs
  obtain ⟨its, r, pl, hz⟩ := I.tuple hq
  obtain ⟨⟨cls, dd, dt, sl⟩, ho, hc, n, hd⟩ := pl
  simp only at hc hd
  subst hc
  subst hd
  refine call_meets PySem.F.slot_tuple_count ⟨_, ho, rfl⟩ PySem.F.entry_tuple_count (PySem.F.args_tuple_count_2 _ _) (PySem.SeqAt.tuple_countAt p its.toArray n dd sl (.int i t) (eqU (.int i)))
    ⟨ho, fun w hw => mem_eqAt (x := .int i) ⟨t, rfl⟩ rfl r (flat_ints' ns) w (by simpa using hw), ⟨.int ((ns.countP fun j => j == i : Nat) : Int), H, I.tok _, ⟨s.toks, by rw [List.toList_toArray, count_int r]⟩, q⟩⟩
end
/-! ### over the mirror -/
def mBMT (r : MRM) (o : MTE) (t : MTA) : MTE := fun env h Q => o env h fun x h1 => (∃ ds, x = .tup ds) ∧ t env h1 fun xs h2 => r x xs h2 Q
def rCount : MRM := fun x xs h Q => match x, xs with
  | .tup ds, [.int i] => ∃ ns : List Int, ds = ns.map .int ∧ Q (.int ((ns.countP fun j => j == i : Nat) : Int)) h
  | _, _ => False
theorem mi_count {X : Cx} : MtI X "tuple.count" rCount := by
  refine ⟨_, mt_tup_count, fun x xs h Q0 vx vs H Q q rh rx rs f => ?_⟩
  unfold rCount at q
  split at q
  · obtain ⟨ns, rfl, q⟩ := q
    obtain ⟨v, rfl, ry⟩ := rs.one
    obtain ⟨a, us, rfl, ta, r⟩ := rx.tup
    have := r.ints
    subst this
    rw [ry.int]
    exact ⟨a, ns, _, rfl, rfl, ta, fin_at f q rh rv_int⟩
  · exact q.elim
section
variable {X : Cx} {Hb : Hp} {o e : Expr} {es : List Expr} {mo : MTE} {ms : MTA} {name : Str} {apos cpos : Pos} {id : String} {r : MRM}
theorem ie_bmT (slot : Slot "tuple" name id) (hty : typeOf (.builtin id) = pure (.type "method_descriptor")) (hm : MtI X id r) (ho : IE X Hb o mo) (ha : IA X Hb (e :: es) ms)
    (hbase : attributeBase o name X.env (eval o X.env) = eval o X.env := by rfl)
    (hfew : ((backTo cpos (starEach (e :: es) X.env)).all (fun x => !x.1) && (backToKw cpos (keywordEach [] X.env)).all (fun x => x.1.isSome)
      && decide ((e :: es).length + ([] : List Keyword).length + (if ([] : List Keyword).isEmpty then 0 else 1) < 30)) = true := by rfl)
    (hline : (apos.endLine == cpos.line) = true := by rfl) (hs : starEach (e :: es) X.env = (false, eval e X.env) :: starEach es X.env := by rfl) (hplain : (backTo cpos (starEach es X.env)).any (·.1) = false := by rfl) :
    IE X Hb (.Call (.Attribute o name apos) (e :: es) [] cpos) (mBMT r mo ms) := by
  obtain ⟨R, hR, hi⟩ := hm
  refine pe_w (pe_bmT slot hty hR ho ha hbase hfew hline hs hplain) fun σ H Q ⟨env, h, Q0, re, rh, m, f⟩ => ?_
  refine ⟨env, h, _, re, rh, m, fun x h1 ⟨⟨ds, ty⟩, q⟩ vx H1 t1 r1 rx => ⟨?_, ?_⟩⟩
  · subst ty
    obtain ⟨a, us, rfl, ta, _⟩ := rx.tupN
    exact ⟨a, us, rfl, ta⟩
  refine ⟨env, h1, _, re.mono t1, r1, q, fun ds h2 q2 vs H2 t2 r2 rs => ?_⟩
  exact hi x ds h2 Q0 vx vs H2 Q q2 r2 (rx.mono t2) rs (Fin.mono (t1.trans t2) f)
end
theorem q_count {ds : List D} {i : Int} {h : MH} {Q : MQ} : rCount (.tup ds) [.int i] h Q = ∃ ns : List Int, ds = ns.map .int ∧ Q (.int ((ns.countP fun j => j == i : Nat) : Int)) h := rfl
end M

namespace M
open PySem PySem.Spec PyProof PyProof.Rows L2
/-! ### a, b, c = x, y, z -/
def mPar3 (i j l : Nat) (a b c : MTE) : MTS := fun D' env h => a env h fun x h1 => b env h1 fun y h2 => c env h2 fun z h3 => D'.nx (((env.set i (some x)).set j (some y)).set l (some z)) h3
section
variable {X : Cx} {Hb : Hp} {a b c : Expr} {ma mb mc : MTE} {pos : Pos}
theorem is_par3 (i j l : Nat) {x y z : Str} {px py pz pt : Pos} {kt k2 pt2} (hc : X.calm = true) (hN : X.N.Nodup) (ha : IE X Hb a ma) (hb : IE X Hb b mb) (hcc : IE X Hb c mc)
    (hi : X.N[i]? = some x := by rfl) (hj : X.N[j]? = some y := by rfl) (hl : X.N[l]? = some z := by rfl) (hij : i ≠ j := by decide) (hil : i ≠ l := by decide) (hjl : j ≠ l := by decide)
    (hx : X.env.scope.names.lookup x = some .local := by rfl) (hy : X.env.scope.names.lookup y = some .local := by rfl) (hz : X.env.scope.names.lookup z = some .local := by rfl)
    (hw : swappedStores [.Tuple [.Name x px, .Name y py, .Name z pz] kt pt] (.Tuple [a, b, c] k2 pt2) X.env = pure (some [x, y, z]) := by rfl)
    (hs : swapsWithSole [.Tuple [.Name x px, .Name y py, .Name z pz] kt pt] (.Tuple [a, b, c] k2 pt2) pos.line X.env = pure false := by rfl)
    (hA : starEach [a, b, c] X.env = (false, eval a X.env) :: starEach [b, c] X.env := by rfl) (hB : starEach [b, c] X.env = (false, eval b X.env) :: starEach [c] X.env := by rfl) (hC : starEach [c] X.env = (false, eval c X.env) :: starEach [] X.env := by rfl) :
    IS X Hb (.Assign [.Tuple [.Name x px, .Name y py, .Name z pz] kt pt] (.Tuple [a, b, c] k2 pt2) pos) (mPar3 i j l ma mb mc) := by
  refine is_of (ps_par3 hc hN hi hj hl hij hil hjl hx hy hz (ia_cons ha (ia_cons hb (ia_cons hcc ia_nil hC) hB) hA) hw hs) fun D' σ H env h D0 re rh m f => ?_
  refine ⟨env, h, (fun ds h1 => ∃ u w t, ds = [u, w, t] ∧ D0.nx (((env.set i (some u)).set j (some w)).set l (some t)) h1), re, rh, ?_, ?_⟩
  · show ma env h fun u h1 => mb env h1 fun w h2 => mc env h2 fun t h3 => ∃ u' w' t', [u, w, t] = [u', w', t'] ∧ _
    have m' : ma env h fun x h1 => mb env h1 fun y h2 => mc env h2 fun z h3 => D0.nx (((env.set i (some x)).set j (some y)).set l (some z)) h3 := m
    have e : (fun u h1 => mb env h1 fun w h2 => mc env h2 fun t h3 => ∃ u' w' t', [u, w, t] = [u', w', t'] ∧ D0.nx (((env.set i (some u')).set j (some w')).set l (some t')) h3) = (fun x h1 => mb env h1 fun y h2 => mc env h2 fun z h3 => D0.nx (((env.set i (some x)).set j (some y)).set l (some z)) h3) := by
      funext u h1
      refine congrArg _ ?_
      funext w h2
      refine congrArg _ ?_
      funext t h3
      refine propext ⟨?_, fun q => ⟨u, w, t, rfl, q⟩⟩
      rintro ⟨u', w', t', z, q⟩
      cases z
      exact q
    rw [e]
    exact m'
  · rintro ds h1 ⟨u, w, t, rfl, q⟩ vs H1 t1 r1 rs
    obtain ⟨v1, vs1, rfl, q1, rs1⟩ := rs.inv
    obtain ⟨v2, vs2, rfl, q2, rs2⟩ := rs1.inv
    obtain ⟨v3, vs3, rfl, q3, rs3⟩ := rs2.inv
    have := rs3.inv0
    subst this
    exact ⟨v1, v2, v3, rfl, f.nx _ _ q _ H1 t1 ((((re.mono t1).set i q1).set j q2).set l q3) r1⟩
end
theorem par3_ {i j l : Nat} {a b c : MTE} {D' : MEnds} {env : ME} {h : MH} (k : a env h fun x h1 => b env h1 fun y h2 => c env h2 fun z h3 => D'.nx (((env.set i (some x)).set j (some y)).set l (some z)) h3) : mPar3 i j l a b c D' env h := k
end M

namespace M
open PySem PySem.Spec PyProof PyProof.Rows L2
/-! ### t.index(i), t of ints -/
section
variable {X : Cx}
theorem mt_tup_indexI : MtR X "tuple.index" (fun x xs H Q => ∃ (p : Addr) (ns : List Int) (i : Int) (j : Nat), x = .ref p ∧ xs = [.int i] ∧ SqT X.K H p (ns.map V.int) ∧ ns[j]? = some i ∧ (∀ m, m < j → ns[m]? ≠ some i) ∧ Q (.int ((j : Nat) : Int)) H) := by
  intro pins s σ H x xs v us Q I rx rs h
  obtain ⟨p, ys, z, j, rfl, rfl, hq, hy, hno, q⟩ := h
  cases rx
  obtain ⟨u, rfl, t, rfl⟩ := vals1 rs
  obtain ⟨its, r, pl, hz⟩ := I.tuple hq
  obtain ⟨⟨cls, dd, dt, sl⟩, ho, hc, n, hd⟩ := pl
  simp only at hc hd
  subst hc
  subst hd
  have hl : its.toArray.size = ys.length := by rw [List.size_toArray, ← r.length, List.length_map]
  have hj : j < its.toArray.size := by rw [hl]; exact (List.getElem?_eq_some_iff.mp hy).1
  have at' : ∀ (m : Nat) (hm : m < its.toArray.size), ∃ y t', ys[m]? = some y ∧ its.toArray[m] = Value.int y t' := fun m hm => by
    have hm' : m < ys.length := by rw [← hl]; exact hm
    obtain ⟨w, hw, t', hw'⟩ := r.get (i := m) (x := .int ys[m]) (by simp [hm'])
    refine ⟨ys[m], t', List.getElem?_eq_getElem hm', ?_⟩
    have e := (List.getElem?_eq_some_iff.mp hw).2
    rw [← hw', ← e]
    simp
  refine call_meets PySem.F.slot_tuple_index ⟨_, ho, rfl⟩ PySem.F.entry_tuple_index (PySem.F.args_tuple_index_2 _ _) (TI.tuple_indexAt p its.toArray n dd sl (.int z t) (eqU (.int z)) j hj ?_ ?_)
    ⟨ho, fun w hw => mem_eqAt (x := .int z) ⟨t, rfl⟩ rfl r (flat_ints' ys) w (by simpa using hw), ⟨.int (j : Nat), H, I.tok _, ⟨_, rfl⟩, q⟩⟩
  · obtain ⟨y, t', h1, h2⟩ := at' j hj
    rw [hy] at h1
    cases h1
    rw [h2]
    show (z == z) = true
    exact beq_self_eq_true z
  · intro m hm hmj
    obtain ⟨y, t', h1, h2⟩ := at' m hm
    rw [h2]
    show (y == z) = false
    exact beq_eq_false_iff_ne.mpr fun e => hno m hmj (e ▸ h1)
end
def rIndex : MRM := fun x xs h Q => match x, xs with
  | .tup ds, [.int i] => ∃ (ns : List Int) (j : Nat), ds = ns.map .int ∧ ns[j]? = some i ∧ (∀ m, m < j → ns[m]? ≠ some i) ∧ Q (.int ((j : Nat) : Int)) h
  | _, _ => False
theorem mi_index {X : Cx} : MtI X "tuple.index" rIndex := by
  refine ⟨_, mt_tup_indexI, fun x xs h Q0 vx vs H Q q rh rx rs f => ?_⟩
  unfold rIndex at q
  split at q
  · obtain ⟨ns, j, rfl, h1, h2, q⟩ := q
    obtain ⟨v, rfl, ry⟩ := rs.one
    obtain ⟨a, us, rfl, ta, r⟩ := rx.tup
    have := r.ints
    subst this
    rw [ry.int]
    exact ⟨a, ns, _, j, rfl, rfl, ta, h1, h2, fin_at f q rh rv_int⟩
  · exact q.elim
theorem q_index {ds : List D} {i : Int} {h : MH} {Q : MQ} : rIndex (.tup ds) [.int i] h Q = ∃ (ns : List Int) (j : Nat), ds = ns.map .int ∧ ns[j]? = some i ∧ (∀ m, m < j → ns[m]? ≠ some i) ∧ Q (.int ((j : Nat) : Int)) h := rfl
end M

namespace M
open PySem L2
/-! ### list(range(a, b)) -/
def mLstR2 (a b : MTE) : MTE := fun env h Q => a env h fun x h1 => b env h1 fun y h2 => ∃ i j, x = .int i ∧ y = .int j ∧ RgOk i j ∧ ∀ p, h2 p = none → Q (.ref p) (up h2 p (.lst ((rgI i j).map .int)))
section
variable {X : Cx} {Hb : Hp} {a b : Expr} {ma mb : MTE} {pos p p2 pa : Pos}
theorem ie_lstR2 (hm : X.mg "list" = none) (hr : X.mg "range" = none) (ha : IE X Hb a ma) (hb : IE X Hb b mb) (hc : X.calm = true := by rfl) (hg : Gl X "list" := by rfl) (hg2 : Gl X "range" := by rfl) (na : starEach [a, b] X.env = (false, eval a X.env) :: starEach [b] X.env := by rfl)
    (nb : starEach [b] X.env = (false, eval b X.env) :: starEach [] X.env := by rfl) (hp : (backTo pa (starEach [b] X.env)).any (·.1) = false := by rfl)
    (na2 : starEach [.Call (.Name "range" p2) [a, b] [] pa] X.env = (false, eval (.Call (.Name "range" p2) [a, b] [] pa) X.env) :: starEach [] X.env := by rfl) : IE X Hb (.Call (.Name "list" p) [.Call (.Name "range" p2) [a, b] [] pa] [] pos) (mLstR2 ma mb) := by
  refine pe_w (pe_listRg hc hg hm (prg_2 hg2 hr ha hb na nb hp) na2) fun σ H Q ⟨env, h, Q0, re, rh, m, f⟩ => ?_
  refine ⟨env, h, _, re, rh, m, ?_⟩
  rintro d h1 q1 v H1 t1 r1 rx
  refine ⟨env, h1, _, re.mono t1, r1, q1, ?_⟩
  rintro d2 h2 ⟨i, j, rfl, rfl, ok, q⟩ v2 H2 t2 r2 rx2
  rw [(rx.mono t2).int, rx2.int]
  refine ⟨i, j, rfl, rfl, ok, fun p np => ?_⟩
  rw [rgV_ints]
  exact f _ _ (q p (r2.free np)) _ _ ((t1.trans t2).trans (.new np)) (r2.new np (ro_lst .of_ints)) rv_ref
end
end M

namespace M
open PySem L2
/-! ### x not in a list of tuples -/
def rInP (neg : Bool) : MR2 := fun x y h Q => match y with
  | .ref a => ∃ ds, h a = some (.lst ds) ∧ Pu 9 x ∧ (∀ z ∈ ds, Pu 9 z) ∧ ∀ b, (b = true ↔ x ∈ ds) → Q (.bl (if neg then !b else b)) h
  | _ => False
theorem any_pu {h : MH} {x : D} {p : PyData} (px : Pu 9 x) (dx : DP h x p) : ∀ {ds : List D} {ps : List PyData}, (∀ z ∈ ds, Pu 9 z) → DPs h ds ps → ((ps.any fun z => PyData.eqv z p) = true ↔ x ∈ ds)
  | [], _, _, .nil => by simp
  | d :: ds, _, k, .cons a b => by
    rw [List.any_cons, Bool.or_eq_true, any_pu px dx (fun z hz => k z (List.mem_cons_of_mem _ hz)) b, pu_eqv 9 d x _ _ (k d (by simp)) px a dx, List.mem_cons]
    exact ⟨fun h => h.elim (fun e => .inl e.symm) .inr, fun h => h.elim (fun e => .inl e.symm) .inr⟩
theorem room65 {k : Nat} {A : Around} (r : Room k A) : A.units + 65 < cLine := by have := r.un; omega
section
variable {X : Cx}
theorem om_notInP (hu : X.A.units + 65 < cLine) : OpM X (compareOp .NotIn) (rInP true) := by
  refine ⟨_, op_notInD hu, fun x y h Q0 vx vy H Q q rh rx ry f => ?_⟩
  cases y <;> first | exact q.elim | skip
  rename_i a
  obtain ⟨ds, e, px, pd, q⟩ := q
  obtain ⟨p, a1, a2, a3⟩ := pu_dp (h := h) 9 x px
  obtain ⟨ps, b1, b2, b3⟩ := dps_pu (h := h) pd
  exact ⟨p, ps, a1.dp rh rx, (DP.lst e b1).dp rh ry, shaped_of a2 a3 (by decide), b2, fin_at f (q _ (any_pu px a1 pd b1)) rh rv_bl⟩
end
theorem q_inP {a : Addr} {x : D} {h : MH} {Q : MQ} : rInP true x (.ref a) h Q = (∃ ds, h a = some (.lst ds) ∧ Pu 9 x ∧ (∀ z ∈ ds, Pu 9 z) ∧ ∀ b, (b = true ↔ x ∈ ds) → Q (.bl (!b)) h) := rfl
end M

namespace SrtO
open PySem PySem.Spec PyProof PyProof.Rows
variable {prog : Program} {w : World} {A : Around} {s : Shared} {E : Value → Shared → Prop}
theorem collect_tup {l : Addr} {vs : List Value} {Q : List Value → Shared → Prop} (hl : IsTup s.heap l vs.toArray)
    (h : Q vs { s with heap := (s.heap.push (seqObj "list" #[] 0)).update s.heap.objs.size (Obj.mapSeq (· ++ vs.toArray)) }) (hsz : vs.length ≤ sizeLine) :
    wpAny (model prog w) A (collect (.ref l)) Q E s := by
  obtain ⟨o, ho, hc, n, hd⟩ := id hl
  unfold collect
  refine wpAny_bind (wpAny_runValue (codeAny_builtin entry_proto_collect' ?_))
  show wpAny _ _ (do again (.builtin "list.__iadd__" ⟨[← newList [], .ref l], []⟩)) _ _ s
  refine wpAny_bind (wpAny_newList (wpAny_pure ⟨Code.quiet_builtin _ (by decide +kernel), codeAny_builtin entry_list_iadd' ?_⟩))
  show wpAny _ _ (Builtin.List.listExtendWith (.ref s.heap.objs.size) (.ref l) (.ref s.heap.objs.size)) _ _ { s with heap := s.heap.push (seqObj "list" #[] 0) }
  unfold Builtin.List.listExtendWith
  have ho' : (s.heap.push (seqObj "list" #[] 0)).get? l = some o := Heap.get?_push_of_some _ ho
  refine wpAny_bind (wpAny_typeOf (T := "tuple") ⟨o, ho', hc⟩ ?_)
  have ht : (Value.type "tuple" == Value.type "tuple") = true := by rfl
  rw [if_pos (by rw [ht]; simp)]
  refine wpAny_bind (listItems_at ho' hd ?_)
  refine wpAny_bind (listItems_at (xs := #[]) (n := 0) (Heap.get?_push_size _ rfl) rfl ?_)
  rw [if_neg (by simp)]
  refine wpAny_bind (listUpdate_at (xs := #[]) (n := 0) (Heap.get?_push_size _ rfl) rfl ?_ (Nat.zero_le _) (by show (#[] ++ vs.toArray).size ≤ sizeLine + 1; simp only [Array.size_append, List.size_toArray, List.length_nil]; omega))
  refine wpAny_pure ?_
  show wpAny (model prog w) A (do
      let o ← load s.heap.objs.size
      match o.data with
      | .seq xs _ => pure xs.toList
      | _ => unsupported "internal:collect") Q E { s with heap := (s.heap.push (seqObj "list" #[] 0)).update s.heap.objs.size (Obj.mapSeq (· ++ vs.toArray)) }
  refine wpAny_bind (wpAny_load (get?_update_seq (Heap.get?_push_size _ rfl) _) ?_)
  show wpAny _ _ (pure ((#[] : Array Value) ++ vs.toArray).toList) Q E _
  rw [show ((#[] : Array Value) ++ vs.toArray).toList = vs by simp]
  exact wpAny_pure h
theorem sorted_ordT {l : Addr} {vs : List Value} {ltv : Value → Value → Bool} {Q : Value → Shared → Prop} (O : Swo ltv) (hl : IsTup s.heap l vs.toArray) (hz : vs.length ≤ sizeLine)
    (hS : 2 ≤ vs.length → ∀ (h₁ : Heap) (a : Addr), h₁.get? a = some (seqObj "list" vs.toArray 0) → (∀ b o, s.heap.get? b = some o → b ≠ a ∧ h₁.get? b = some o) → SortableO prog w A.in1.in1 { s with heap := h₁ } a vs ltv)
    (h : ∀ out : List Value, Srtd ltv out → Stb ltv out vs → Q (.ref (s.heap.objs.size + 1)) { s with heap := sortedAll s.heap vs out.toArray }) :
    wpAny (model prog w) A (call (.builtin "sorted") [.ref l]) Q E s := by
  refine Calls.call_function_entry kind_sorted plain_sorted entry_sorted (args_sorted1 _) ?_
  unfold Builtin.«sorted»
  refine wpAny_bind (m := checkCount "sorted" 1 1 _) (wpAny_pure ?_)
  refine wpAny_bind (collect_tup hl ?_ hz)
  refine wpAny_bind (wpAny_newList ?_ hz)
  have hsz : ((s.heap.push (seqObj "list" #[] 0)).update s.heap.objs.size (Obj.mapSeq (· ++ vs.toArray))).objs.size = s.heap.objs.size + 1 := by
    rw [Heap.size_update, size_push']
  have hoL : (((s.heap.push (seqObj "list" #[] 0)).update s.heap.objs.size (Obj.mapSeq (· ++ vs.toArray))).push (seqObj "list" vs.toArray 0)).get? (s.heap.objs.size + 1) = some (seqObj "list" vs.toArray 0) := by
    rw [← hsz]; exact Heap.get?_push_size _ rfl
  have keep : ∀ b o, s.heap.get? b = some o → b ≠ s.heap.objs.size + 1 ∧ (((s.heap.push (seqObj "list" #[] 0)).update s.heap.objs.size (Obj.mapSeq (· ++ vs.toArray))).push (seqObj "list" vs.toArray 0)).get? b = some o := fun b o q => by
    have hlt : b < s.heap.objs.size := Heap.lt_size q
    refine ⟨Nat.ne_of_lt (Nat.lt_succ_of_lt hlt), Heap.get?_push_of_some _ ?_⟩
    rw [Heap.get?_update_ne _ _ _ _ (Nat.ne_of_lt hlt)]
    exact Heap.get?_push_of_some _ q
  show wpAny _ _ _ _ _ { s with heap := ((s.heap.push (seqObj "list" #[] 0)).update s.heap.objs.size (Obj.mapSeq (· ++ vs.toArray))).push (seqObj "list" vs.toArray 0) }
  rw [hsz]
  refine wpAny_bind (wpAny_holding (wpAny_call_entry slot_list_sort ⟨_, hoL, rfl⟩ entry_list_sort (list_sort_ord O hoL hz (fun h2 => hS h2 _ _ hoL keep) fun out hs hb => ⟨_, rfl, ?_⟩) (args_list_sort _)))
  exact wpAny_pure ⟨_, rfl, h out hs hb⟩
end SrtO
namespace M
open PySem L2 PySem.Spec PyProof PyProof.Rows
section
variable {X : Cx}
theorem cr_sortedIT : CallR X (.builtin "sorted") (fun vs H Q => ∃ (a : Addr) (ns : List Int), vs = [V.ref a] ∧ SqT X.K H a (ns.map V.int) ∧
    ∀ (ns' : List Int) (p : Addr), ns'.Perm ns → ns'.Pairwise (· ≤ ·) → H p = none → Q (.ref p) (upd H p (.lst (ns'.map V.int)))) := by
  intro pins s σ H vs us Q I r h
  obtain ⟨a, ns, rfl, hs, q⟩ := h
  obtain ⟨its, rv, hl, hz⟩ := I.tuple hs
  rw [Vals.ref1 r]
  have hi := rv.ints
  refine SrtO.sorted_ordT SrtO.swo_int hl (by rw [← rv.length]; exact hz) (fun h2 h₁ a' _ _ => SrtO.ints_sortable hi h2) fun out h1 h2 => ?_
  obtain ⟨k1, k2, k3⟩ := SrtO.ints_out hi h1 h2
  obtain ⟨ep, he'⟩ := PyProof.Rows.sortedAll_at s.heap its out.toArray
  have hlen : ((out.map SrtO.iv).map V.int).length ≤ sizeLine := by
    rw [List.length_map, k2.length_eq]
    rw [List.length_map] at hz
    exact hz
  exact ⟨.ref _, upd H (s.heap.objs.size + 1) (.lst ((out.map SrtO.iv).map V.int)), I.laid (t' := s.toks) (fun _ _ => PyProof.Rows.sortedAll_old) (Nat.le_succ _) ⟨hlen, out, ep, vals_of_ints k1, he'⟩, rfl, q _ _ k2 k3 (I.hok.fresh (Nat.le_succ _))⟩
def rSortedTp : MRA := fun xs h Q => match xs with
  | [.tup ds] => ∃ ns : List Int, ds = ns.map .int ∧ ∀ (ns' : List Int) p, ns'.Perm ns → ns'.Pairwise (· ≤ ·) → h p = none → Q (.ref p) (up h p (.lst (ns'.map .int)))
  | _ => False
theorem cm_sortedTp : CaM X (.builtin "sorted") rSortedTp := by
  refine ⟨_, cr_sortedIT, fun xs h Q0 vs H Q q rh rs f => ?_⟩
  unfold rSortedTp at q
  split at q
  · obtain ⟨v, rfl, rx⟩ := rs.one
    obtain ⟨ns, rfl, q⟩ := q
    obtain ⟨a, vs, rfl, ta, rs⟩ := rx.tup
    rw [rs.ints] at ta
    exact ⟨a, ns, rfl, ta, fun ns' p h1 h2 np => f _ _ (q ns' p h1 h2 (rh.free np)) _ _ (.new np) (rh.new np (ro_lst .of_ints)) rv_ref⟩
  · exact q.elim
def rIndexL : MRM := fun x xs h Q => match x, xs with
  | .ref a, [.int i] => ∃ (ns : List Int) (j : Nat), h a = some (.lst (ns.map .int)) ∧ ns[j]? = some i ∧ (∀ m, m < j → ns[m]? ≠ some i) ∧ Q (.int ((j : Nat) : Int)) h
  | _, _ => False
theorem mi_indexL : MtI X "list.index" rIndexL := by
  refine ⟨_, mt_index, fun x xs h Q0 vx vs H Q q rh rx rs f => ?_⟩
  unfold rIndexL at q
  split at q
  · obtain ⟨ns, j, e, h1, h2, q⟩ := q
    obtain ⟨v, rfl, ry⟩ := rs.one
    rw [rx.ref, ry.int]
    obtain ⟨ws, E, rs⟩ := rh.lst e
    rw [rs.ints] at E
    have fl : ∀ ns : List Int, (ns.map V.int).all flatV = true := fun ns => by induction ns with
      | nil => rfl
      | cons a r ih => rw [List.map_cons, List.all_cons, ih]; rfl
    refine ⟨_, ns.map V.int, _, j, _, rfl, rfl, .of E, rfl, fl ns, by rw [List.getElem?_map, h1]; rfl, by simp [eqV], fun m z' hm hz => ?_, fin_at f q rh rv_int⟩
    rw [List.getElem?_map] at hz
    cases e2 : ns[m]? with
    | none => rw [e2] at hz; cases hz
    | some y =>
      rw [e2] at hz
      cases hz
      have := h2 m hm
      rw [e2] at this
      have ny : ¬ y = _ := fun e => this (by rw [e])
      simp only [eqV, beq_eq_false_iff_ne, ne_eq]
      exact ny
  · exact q.elim
end
theorem q_indexL {a : Addr} {i : Int} {h : MH} {Q : MQ} : rIndexL (.ref a) [.int i] h Q = (∃ (ns : List Int) (j : Nat), h a = some (.lst (ns.map .int)) ∧ ns[j]? = some i ∧ (∀ m, m < j → ns[m]? ≠ some i) ∧ Q (.int ((j : Nat) : Int)) h) := rfl
theorem q_sortedTp {ds : List D} {h : MH} {Q : MQ} : rSortedTp [.tup ds] h Q = (∃ ns : List Int, ds = ns.map .int ∧ ∀ (ns' : List Int) p, ns'.Perm ns → ns'.Pairwise (· ≤ ·) → h p = none → Q (.ref p) (up h p (.lst (ns'.map .int)))) := rfl
end M

namespace M
open PySem PySem.Spec PyProof.Rows L2
/-- a tuple and a list, the items in new pairs -/
def ItzM (K : PySem.W.Frag) (a b : Addr) : It :=
  ⟨fun i H => ∃ (xs ys : List V) (x y : V), SqT K H a xs ∧ SqL K H b ys ∧ xs[i]? = some x ∧ ys[i]? = some y,
    fun i H v H' => ∃ T x y, v = .ref T ∧ H T = none ∧ H' = upd H T (.tup [x, y]) ∧ (∀ xs, SqT K H a xs → xs[i]? = some x) ∧ ∀ ys, SqL K H b ys → ys[i]? = some y,
    fun i H => ∃ xs ys : List V, SqT K H a xs ∧ SqL K H b ys ∧ i = min xs.length ys.length⟩
theorem sepM {z TI TO i1 i2 a b : Addr} (D : ZipApart z TI TO i1 i2 a b) : ZipSep2 z TI TO i1 i2 [i1, a] [i2, b] where
  TIz := D.TIz
  TOz := D.TOz
  TITO := D.TITO
  TIi1 := D.TIi1
  mem1 := by simp
  zf1 := by simp only [List.mem_cons, List.not_mem_nil, or_false, not_or]; exact ⟨D.i1z.symm, D.l1z.symm⟩
  Tf1 := by simp only [List.mem_cons, List.not_mem_nil, or_false, not_or]; exact ⟨D.TOi1, D.l1TO.symm⟩
  TIi2 := D.TIi2
  mem2 := by simp
  zf2 := by simp only [List.mem_cons, List.not_mem_nil, or_false, not_or]; exact ⟨D.i2z.symm, D.l2z.symm⟩
  Tf2 := by simp only [List.mem_cons, List.not_mem_nil, or_false, not_or]; exact ⟨D.TOi2, D.l2TO.symm⟩
  sep1_2 := by simp only [List.mem_cons, List.not_mem_nil, or_false, not_or]; exact ⟨D.i12, D.l2i1.symm⟩
  sep2_1 := by simp only [List.mem_cons, List.not_mem_nil, or_false, not_or]; exact ⟨D.i12.symm, D.l1i2.symm⟩
theorem turn_zipM {P : Program} {w : World} {K : PySem.W.Frag} {elts : List Expr} {kk : Nat} {tpos : Pos} {a b z TI TO i1 i2 : Addr} (D : ZipApart z TI TO i1 i2 a b) :
    Turn P w K (.Tuple elts kk tpos) (ItzM K a b) [z, TI, TO, i1, i2] z (fun i h => IsZip h z TI TO .none ∧ IsPair h TI (.ref i1) (.ref i2) ∧ (∃ x y, IsPair h TO x y) ∧ h.IsTupleIter i1 a i ∧ h.IsListIter i2 b i) where
  mem := by simp
  obj := fun i h st c hc => by
    obtain ⟨hz, hTI, ⟨x, y, hTO⟩, ⟨o1, e1, _, d1⟩, ⟨o2, e2, _, d2⟩⟩ := st
    have e' : c = z ∨ c = TI ∨ c = TO ∨ c = i1 ∨ c = i2 := by simpa using hc
    rcases e' with q | q | q | q | q
    · rw [q]; exact ⟨_, hz, fun v q => nomatch q⟩
    · rw [q]; exact ⟨_, hTI, fun v q => nomatch q⟩
    · rw [q]; exact ⟨_, hTO, fun v q => nomatch q⟩
    · rw [q]; exact ⟨o1, e1, fun v q => by rw [d1] at q; cases q⟩
    · rw [q]; exact ⟨o2, e2, fun v q => by rw [d2] at q; cases q⟩
  keep := fun i h h' st k => by
    obtain ⟨hz, hTI, ⟨x, y, hTO⟩, h1, h2⟩ := st
    exact ⟨k z (by simp) _ hz, k TI (by simp) _ hTI, ⟨x, y, k TO (by simp) _ hTO⟩, h1.at fun o q => k i1 (by simp) o q, h2.at fun o q => k i2 (by simp) o q⟩
  item := by
    intro X hP hw hK hc i pins s σ H E I hf st hg
    subst hP hw hK
    obtain ⟨hz, hTI, ⟨x0, y0, hTO⟩, h1, h2⟩ := st
    obtain ⟨xs, ys, x, y, hqx, hqy, hx, hy⟩ := hg
    obtain ⟨its, rv, p, _⟩ := I.tuple hqx
    obtain ⟨its2, rv2, p2, _⟩ := I.list hqy
    obtain ⟨u, hu, ru⟩ := rv.get hx
    obtain ⟨u2, hu2, ru2⟩ := rv2.get hy
    have hzl : z < s.heap.objs.size := Heap.lt_size hz
    have hh : X.A.in1.handled = none := I.ok.hd hc
    have q1 : i < its.toArray.size := by
      rw [List.size_toArray]; exact (List.getElem?_eq_some_iff.mp hu).1
    have q2 : i < its2.toArray.size := by
      rw [List.size_toArray]; exact (List.getElem?_eq_some_iff.mp hu2).1
    refine wpAny_pyNext_zipD2_item (sepM D) (Draws.tuple hh i1 a D.l1i1 its.toArray) (Draws.list hh i2 b D.l2i2 its2.toArray) hz hTI hTO ⟨h1, p⟩ ⟨h2, p2.isList⟩ q1 q2 fun w1 w2 h' tk y1 y2 z' TO' d1 d2 hT hsz hk => ?_
    obtain ⟨h1', _⟩ := d1
    obtain ⟨h2', _⟩ := d2
    have y1 : its.toArray[i]? = some w1 := y1
    have y2 : its2.toArray[i]? = some w2 := y2
    have v1 : w1 = u := by
      have : its[i]? = some w1 := by simpa using y1
      rw [hu] at this; cases this; rfl
    have v2 : w2 = u2 := by
      have : its2[i]? = some w2 := by simpa using y2
      rw [hu2] at this; cases this; rfl
    subst v1 v2
    refine ⟨_, rfl, wpAny_letOwnedTupleGo_zip (s := { s with heap := h', toks := tk }) z' fun h'' z'' sb => ?_⟩
    have hT2 : h''.get? s.heap.objs.size = some { cls := .type "tuple", data := .seq #[w1, w2] } := (sb.2 _ (Nat.ne_of_gt hzl)).trans hT
    have new : ObjOk X.prog X.w (upd H s.heap.objs.size (.tup [x, y])) h'' s.heap.objs.size (.tup [x, y]) :=
      ⟨by show 2 ≤ sizeLine; decide, [w1, w2], .cons ru (.cons ru2 .nil), ⟨_, hT2, rfl, _, rfl⟩⟩
    have I1 : Inv X pins σ (upd H s.heap.objs.size (.tup [x, y])) { s with heap := h'', toks := tk } :=
      I.turnedNew (t' := tk) (ch := [z, TI, TO, i1, i2]) (fun c o hb q => (sb.2 c (fun q' => hb (by simp [q']))).trans (hk c o (fun q' => hb (by simp [q'])) (fun q' => hb (by simp [q'])) (fun q' => hb (by simp [q'])) (fun q' => hb (by simp [q'])) q)) hf (Nat.le_refl _) new
    refine ⟨.ref s.heap.objs.size, _, I1, rfl, ⟨_, x, y, rfl, I.hok.fresh (Nat.le_refl _), rfl, fun l hl => by rw [I.tuple_inj hl hqx]; exact hx, fun l hl => by rw [I.list_inj hl hqy]; exact hy⟩, ⟨z'', ?_, ⟨w1, w2, ?_⟩, ?_, ?_⟩, fun c hcm => ?_⟩
    · exact (sb.2 _ D.TIz).trans (hk _ _ D.TIz D.TITO D.TIi1 D.TIi2 hTI)
    · exact (sb.2 _ D.TOz).trans TO'
    · exact h1'.at fun o q => (sb.2 _ D.i1z).trans q
    · exact h2'.at fun o q => (sb.2 _ D.i2z).trans q
    · have hlt : c < s.heap.objs.size := by
        have e' : c = z ∨ c = TI ∨ c = TO ∨ c = i1 ∨ c = i2 := by simpa using hcm
        rcases e' with q | q | q | q | q
        · rw [q]; exact hzl
        · rw [q]; exact Heap.lt_size hTI
        · rw [q]; exact Heap.lt_size hTO
        · rw [q]; obtain ⟨_, e1, _⟩ := h1; exact Heap.lt_size e1
        · rw [q]; obtain ⟨_, e2, _⟩ := h2; exact Heap.lt_size e2
      rw [upd_ne (Nat.ne_of_lt hlt)]
      exact (hf c hcm).1
  done := by
    intro X hP hw hK hc i pins s σ H E I hf st hg
    subst hP hw hK
    obtain ⟨hz, hTI, ⟨x0, y0, hTO⟩, h1, h2⟩ := st
    obtain ⟨xs, ys, hqx, hqy, hend⟩ := hg
    obtain ⟨its, rv, p, _⟩ := I.tuple hqx
    obtain ⟨its2, rv2, p2, _⟩ := I.list hqy
    have l1 := rv.length
    have l2 := rv2.length
    have hh : X.A.in1.handled = none := I.ok.hd hc
    have z1 : its.toArray.size = xs.length := by rw [List.size_toArray]; omega
    have z2 : its2.toArray.size = ys.length := by rw [List.size_toArray]; omega
    refine wpAny_pyNext_zipD2_end (sepM D) (Draws.tuple hh i1 a D.l1i1 its.toArray) (Draws.list hh i2 b D.l2i2 its2.toArray) hz hTI hTO ⟨h1, p⟩ ⟨h2, p2.isList⟩ (by rw [z1]; omega) (by rw [z2]; omega) (by rw [z1, z2]; omega) fun h' tk hk => ⟨rfl, ?_⟩
    exact I.turnedL (t' := tk) (ch := [z, TI, TO, i1, i2]) (fun c o hb q => hk c o (fun q' => hb (by simp [q'])) (fun q' => hb (by simp [q'])) (fun q' => hb (by simp [q'])) (fun q' => hb (by simp [q'])) q) hf
  self := fun A i s Q E st h => wpAny_pyIter_zip st.1 h
def iZipM (K : PySem.W.Frag) (ta : TA) : TI := fun σ H R => ta σ H fun vs H1 => ∃ a b xs ys, vs = [.ref a, .ref b] ∧ SqT K H1 a xs ∧ SqL K H1 b ys ∧ R (ItzM K a b) H1
theorem pi_zipM {X : Cx} {e e2 : Expr} {ta : TA} {p pos tpos : Pos} {elts : List Expr} {kk : Nat} (hg : Gl X "zip") (hm : X.mg "zip" = none) (ha : PA X [e, e2] ta)
    (hs : starEach [e, e2] X.env = (false, eval e X.env) :: starEach [e2] X.env := by rfl) (hpl : (backTo pos (starEach [e2] X.env)).any (·.1) = false := by rfl) :
    PI X (.Tuple elts kk tpos) (.Call (.Name "zip" p) [e, e2] [] pos) (iZipM X.K ta) := by
  refine ⟨fun pins s σ H R I h => ?_⟩
  refine Call_ (ld_blt I hg hm PyProof.Rows.boot_zip (PyProof.Rows.callWith_type1 (thn (ha.run pos pins s σ H _ I h) fun us s1 ⟨vs, H1, I1, r1, q1⟩ => ?_) hs hpl))
  obtain ⟨a, b, xs, ys, ex, hqx, hqy, q⟩ := q1
  subst ex
  cases r1 with
  | cons r rr =>
    cases rr with
    | cons r' rr =>
      cases rr
      cases r
      cases r'
      have fresh5 : ∀ c, c ∈ [s1.heap.objs.size + 4, s1.heap.objs.size + 2, s1.heap.objs.size + 3, s1.heap.objs.size, s1.heap.objs.size + 1] → FpOk X pins H1 c := fun c hcm => by
        have e' : c = s1.heap.objs.size + 4 ∨ c = s1.heap.objs.size + 2 ∨ c = s1.heap.objs.size + 3 ∨ c = s1.heap.objs.size ∨ c = s1.heap.objs.size + 1 := by simpa using hcm
        have hle : s1.heap.objs.size ≤ c := by
          rcases e' with z | z | z | z | z
          · rw [z]; exact Nat.le_add_right _ _
          · rw [z]; exact Nat.le_add_right _ _
          · rw [z]; exact Nat.le_add_right _ _
          · rw [z]; exact Nat.le_refl _
          · rw [z]; exact Nat.le_add_right _ _
        exact I1.fpOk hle (I1.hok.fresh hle)
      obtain ⟨its, rv, p1, _⟩ := I1.tuple hqx
      obtain ⟨its2, rv2, p2, _⟩ := I1.list hqy
      obtain ⟨o1, ho1, _⟩ := id p1
      refine zip_begins2 (begins_tuple a its.toArray) (begins_list b its2.toArray) (show s1.heap.IsTuple a its.toArray from p1) p2.isList fun h' hz hTI hTO h1 h2 hsz hk => wpAny_pyIter_zip hz ?_
      have I2 : Inv X pins σ H1 { s1 with heap := h' } := I1.kept (t' := s1.toks) hk
      exact ⟨s1.heap.objs.size + 4, [s1.heap.objs.size + 4, s1.heap.objs.size + 2, s1.heap.objs.size + 3, s1.heap.objs.size, s1.heap.objs.size + 1], _, _, H1, rfl, I2, turn_zipM (PySem.W.ktu_apart s1.heap.objs.size a b (Heap.lt_size ho1) p2.lt), ⟨hz, hTI, ⟨_, _, hTO⟩, ⟨_, h1, rfl, rfl⟩, ⟨_, h2, rfl, rfl⟩⟩, fresh5, q⟩
/-! ### zip(tuple, list) -/
def mZipM (a b : MTE) : MTI := fun env h R => a env h fun x h1 => b env h1 fun y h2 => match x, y with
  | .tup ds, .ref b => ∃ es, h2 b = some (.lst es) ∧ R (srcZ ds es fun h => h b = some (.lst es)) h2
  | _, _ => False
theorem so_zM {K : PySem.W.Frag} {H : Hp} {a b : Addr} {ds es : List D} {vs : List V} (ta : SqT K H a vs) (rs : RVs K H ds vs) : SrcOk K H (srcZ ds es fun h => h b = some (.lst es)) (ItzM K a b) where
  go := fun i h H1 t rh ok hi => by
    have hi' : i < min ds.length es.length := hi
    obtain ⟨ws, E2, rt⟩ := rh.lst ok
    obtain ⟨v, e, _⟩ := rs.get (List.getElem?_eq_getElem (show i < ds.length by omega))
    obtain ⟨w, e2, _⟩ := rt.get (List.getElem?_eq_getElem (show i < es.length by omega))
    exact ⟨vs, ws, v, w, sqT_mono t ta, .of E2, e, e2⟩
  yld := fun i h H1 t rh ok hi x H' y => by
    obtain ⟨T, z, z2, e1, n, e2, y, y2⟩ := y
    subst e1 e2
    have hi' : i < min ds.length es.length := hi
    obtain ⟨ws, E2, rt⟩ := rh.lst ok
    obtain ⟨v, e, r⟩ := (rs.mono t).get (getD_some (d := .non) (show i < ds.length by omega))
    obtain ⟨w, f, r2⟩ := rt.get (getD_some (d := .non) (show i < es.length by omega))
    have e2 := y vs (sqT_mono t ta)
    rw [e] at e2
    cases e2
    have f2 := y2 ws (.of E2)
    rw [f] at f2
    cases f2
    exact ⟨.new n, rh.skip n, rv_tw (.of upd_same) (.cons (r.mono (.new n)) (.cons (r2.mono (.new n)) .nil))⟩
  stop := fun h H1 t rh ok => by
    obtain ⟨ws, E2, rt⟩ := rh.lst ok
    refine ⟨vs, ws, sqT_mono t ta, .of E2, ?_⟩
    show min ds.length es.length = min vs.length ws.length
    rw [← rs.length, ← rt.length]
theorem ii_zipM {X : Cx} {Hb : Hp} {a b : Expr} {ma mb : MTE} {p pos tpos : Pos} {elts : List Expr} {kk : Nat} (hm : X.mg "zip" = none) (ha : IE X Hb a ma) (hb : IE X Hb b mb) (hg : Gl X "zip" := by rfl)
    (hs : starEach [a, b] X.env = (false, eval a X.env) :: starEach [b] X.env := by rfl) (hs2 : starEach [b] X.env = (false, eval b X.env) :: starEach [] X.env := by rfl) (hpl : (backTo pos (starEach [b] X.env)).any (·.1) = false := by rfl) :
    II X Hb (.Tuple elts kk tpos) (.Call (.Name "zip" p) [a, b] [] pos) (mZipM ma mb) := by
  refine pi_w (pi_zipM hg hm (pa_cons ha (pa_cons hb pa_nil hs2) hs) hs hpl) fun σ H R ⟨env, h, Q0, re, rh, m, f⟩ => ?_
  refine ⟨env, h, _, re, rh, m, fun x h1 q1 v H1 t1 r1 rx => ?_⟩
  refine ⟨env, h1, _, re.mono t1, r1, q1, fun y h2 q w H2 t2 r2 ry => ?_⟩
  have t12 := t1.trans t2
  have rx2 := rx.mono t2
  cases x <;> cases y <;> first | exact q.elim | skip
  · obtain ⟨a, vs, rfl, ta, rs⟩ := rx2.tup
    obtain ⟨es, e2, q⟩ := q
    rw [ry.ref]
    obtain ⟨ws, E2, rt⟩ := r2.lst e2
    exact ⟨_, _, vs, ws, rfl, ta, .of E2, f _ h2 q _ H2 t12 r2 (so_zM ta rs)⟩
end M

namespace SrtO
open PySem PySem.Spec PyProof PyProof.Rows
variable {prog : Program} {w : World} {A : Around} {s : Shared} {E : Value → Shared → Prop}
/-- sorted(r), of whatever can be gathered -/
theorem sorted_ordG {r : Value} {vs : List Value} {ltv : Value → Value → Bool} {Q : Value → Shared → Prop} (O : Swo ltv) (hz : vs.length ≤ sizeLine)
    (hcol : ∀ (E : Value → Shared → Prop) (R : List Value → Shared → Prop), (∀ h' tk, (∀ b o, s.heap.get? b = some o → h'.get? b = some o) → R vs { s with heap := h', toks := tk }) → wpAny (model prog w) A.in1 (collect r) R E s)
    (hS : 2 ≤ vs.length → ∀ (h₁ : Heap) (tk : Nat) (a : Addr), h₁.get? a = some (seqObj "list" vs.toArray 0) → (∀ b o, s.heap.get? b = some o → b ≠ a ∧ h₁.get? b = some o) → SortableO prog w A.in1.in1 { s with heap := h₁, toks := tk } a vs ltv)
    (h : ∀ (h0 : Heap) (tk : Nat) (h' : Heap) (out : List Value), Srtd ltv out → Stb ltv out vs → (∀ b o, s.heap.get? b = some o → h0.get? b = some o) → (∀ b o, h0.get? b = some o → h'.get? b = some o) → (∃ n, h'.get? h0.objs.size = some (seqObj "list" out.toArray n)) → Q (.ref h0.objs.size) { s with heap := h', toks := tk }) :
    wpAny (model prog w) A (call (.builtin "sorted") [r]) Q E s := by
  refine Calls.call_function_entry kind_sorted plain_sorted entry_sorted (args_sorted1 _) ?_
  unfold Builtin.«sorted»
  refine wpAny_bind (m := checkCount "sorted" 1 1 _) (wpAny_pure ?_)
  refine wpAny_bind (hcol _ _ fun h0 tk hk => ?_)
  refine wpAny_bind (wpAny_newList ?_ hz)
  have hoL : (h0.push (seqObj "list" vs.toArray 0)).get? h0.objs.size = some (seqObj "list" vs.toArray 0) := Heap.get?_push_size _ rfl
  have keep : ∀ b o, s.heap.get? b = some o → b ≠ h0.objs.size ∧ (h0.push (seqObj "list" vs.toArray 0)).get? b = some o := fun b o q =>
    ⟨Nat.ne_of_lt (Heap.lt_size (hk b o q)), Heap.get?_push_of_some _ (hk b o q)⟩
  show wpAny _ _ _ _ _ { s with heap := h0.push (seqObj "list" vs.toArray 0), toks := tk }
  refine wpAny_bind (wpAny_holding (wpAny_call_entry slot_list_sort ⟨_, hoL, rfl⟩ entry_list_sort
    (list_sort_ord (s := { s with heap := h0.push (seqObj "list" vs.toArray 0), toks := tk }) O hoL hz (fun h2 => hS h2 _ tk _ hoL keep) fun out hs hb => ⟨_, rfl, ?_⟩) (args_list_sort _)))
  refine wpAny_pure ⟨_, rfl, h h0 tk _ out hs hb hk (fun b u e => ?_) (sortedHeap_at hoL)⟩
  have hb : b < h0.objs.size := Heap.lt_size e
  rw [sortedHeap_old (Nat.ne_of_lt hb) (by rw [size_push']; exact Nat.lt_succ_of_lt hb)]
  exact Heap.get?_push_of_some _ e
end SrtO
namespace M
open PySem L2 PySem.Spec PyProof PyProof.Rows
abbrev pD (p : Int × Int) : D := .tup [.int p.1, .int p.2]
def leP (p q : Int × Int) : Prop := p.1 < q.1 ∨ (p.1 = q.1 ∧ p.2 ≤ q.2)
section
variable {X : Cx} {pins : List (Addr × Obj)} {σ : L2.St} {H : Hp} {s : Shared}
theorem pair_of (I : Inv X pins σ H s) {p : Int × Int} {v : V} {u : Value} (r : RV X.K H (pD p) v) (ru : RelV v u) : v = backV u ∧ Srt.IsPair s.heap u p.1 p.2 := by
  obtain ⟨a, vs, rfl, ta, rs⟩ := r.tup
  obtain rfl : u = Value.ref a := ru
  obtain ⟨v1, v2, rfl, r1, r2⟩ := rs.two
  rw [r1.int, r2.int] at ta
  obtain ⟨its, rv, ⟨o, ho, hc, n, hd⟩, _⟩ := I.tuple ta
  obtain ⟨u1, u2, rfl, ri, rj⟩ := vals2 rv
  obtain ⟨t1, rfl⟩ := ri
  obtain ⟨t2, rfl⟩ := rj
  exact ⟨rfl, a, o, t1, t2, n, rfl, ho, hc, hd⟩
open Classical in
/-- the pair that a value is -/
noncomputable def kf (hp : Heap) (u : Value) : Int × Int := if e : ∃ p : Int × Int, Srt.IsPair hp u p.1 p.2 then Classical.choose e else (0, 0)
theorem pair_inj {hp : Heap} {u : Value} {a b c d : Int} (x : Srt.IsPair hp u a b) (y : Srt.IsPair hp u c d) : a = c ∧ b = d := by
  obtain ⟨a1, o1, t1, u1, n1, rfl, h1, _, d1⟩ := x
  obtain ⟨a2, o2, t2, u2, n2, e, h2, _, d2⟩ := y
  cases e
  rw [h1] at h2
  cases h2
  rw [d1] at d2
  cases d2
  exact ⟨rfl, rfl⟩
theorem kf_eq {hp : Heap} {u : Value} {p : Int × Int} (x : Srt.IsPair hp u p.1 p.2) : kf hp u = p := by
  have e : ∃ p : Int × Int, Srt.IsPair hp u p.1 p.2 := ⟨p, x⟩
  unfold kf
  rw [dif_pos e]
  obtain ⟨q1, q2⟩ := pair_inj (Classical.choose_spec e) x
  exact Prod.ext q1 q2
theorem pairs_of (I : Inv X pins σ H s) : ∀ {ps : List (Int × Int)} {vs : List V} {us : List Value}, RVs X.K H (ps.map pD) vs → Vals vs us → ps = us.map (kf s.heap) ∧ ∀ u ∈ us, Srt.IsPair s.heap u (kf s.heap u).1 (kf s.heap u).2 ∧ RV X.K H (pD (kf s.heap u)) (backV u) ∧ RelV (backV u) u
  | [], vs, us, r, t => by
    rw [r.inv0] at t
    cases t
    exact ⟨rfl, fun u h => by cases h⟩
  | p :: ps, vs, us, r, t => by
    obtain ⟨v, ws, rfl, q, r2⟩ := r.inv
    cases t with
    | cons a b =>
      rename_i u us
      obtain ⟨e1, e2⟩ := pair_of I q a
      obtain ⟨i1, i2⟩ := pairs_of I r2 b
      have ek := kf_eq e2
      refine ⟨by rw [List.map_cons, ek, ← i1], fun z hz => ?_⟩
      rcases List.mem_cons.mp hz with rfl | hz
      · rw [ek]
        refine ⟨e2, e1 ▸ q, e1 ▸ a⟩
      · exact i2 z hz
theorem rvs_back {ps : Value → Int × Int} {out : List Value} (h : ∀ u ∈ out, RV X.K H (pD (ps u)) (backV u) ∧ RelV (backV u) u) : RVs X.K H ((out.map ps).map pD) (out.map backV) ∧ Vals (out.map backV) out := by
  induction out with
  | nil => exact ⟨.nil, .nil⟩
  | cons u r ih =>
    obtain ⟨i1, i2⟩ := ih fun z hz => h z (List.mem_cons_of_mem _ hz)
    obtain ⟨a, b⟩ := h u (List.mem_cons_self ..)
    exact ⟨.cons a i1, .cons b i2⟩
theorem keysN (I : Inv X pins σ H s) {d : Addr} {xs : List (NestedKey × Addr × V)} (h : RdN H d xs) :
    (d == sysModules) = false ∧ xs.length ≤ sizeLine ∧ ∃ (o : Obj) (es : Array DictEntry) (ep : Nat), s.heap.get? d = some o ∧ o.ExactDict ∧ o.data = .dict es ep ∧ es.size = xs.length ∧
      ∀ (i : Nat) (p : NestedKey × Addr × V), xs[i]? = some p → ∃ en : DictEntry, es[i]? = some en ∧ en.key = .ref p.2.1 := by
  obtain ⟨z, hs, pk, ys, pr, o, es, ep, ho, hx, hdt, he, _⟩ := nob_desc I h
  have he := he X.prog X.w
  refine ⟨hs, z, o, es, ep, ho, hx, hdt, ?_, fun i p e => ?_⟩
  · have l1 : es.size = ys.length := size_of_entries he
    have l2 : xs.length = ys.length := Paired.length pr
    omega
  · obtain ⟨b, hb, e1, e2, _⟩ := paired_get pr e
    have q := entry_at he i
    rw [hb] at q
    exact ⟨_, q, by rw [e2]; rfl⟩
theorem old_gather {h : Heap} {vs : List Value} : ∀ b o, h.get? b = some o → ((h.push (seqObj "list" #[] 0)).update h.objs.size (Obj.mapSeq (· ++ vs.toArray))).get? b = some o := fun b o q => by
  have hlt : b < h.objs.size := Heap.lt_size q
  rw [Heap.get?_update_ne _ _ _ _ (Nat.ne_of_lt hlt)]
  exact Heap.get?_push_of_some _ q
theorem vals_keys {acc : List Value} : ∀ {xs : List (NestedKey × Addr × V)}, acc.length = xs.length → (∀ (j : Nat) (p : NestedKey × Addr × V), xs[j]? = some p → acc[j]? = some (Value.ref p.2.1)) → Vals (xs.map fun x => V.ref x.2.1) acc := by
  intro xs
  induction xs generalizing acc with
  | nil => intro l _; cases acc with
    | nil => exact .nil
    | cons _ _ => simp at l
  | cons x xs ih => intro l h; cases acc with
    | nil => simp at l
    | cons a r =>
      have := h 0 x rfl
      have e : a = Value.ref x.2.1 := Option.some.inj this
      refine .cons ?_ (ih (by simpa using l) fun j p e => by have := h (j + 1) p (by simpa using e); simpa using this)
      rw [e]; rfl
/-- a source of pairs: a list, a tuple, a dict's keys -/
def SrcP (K : PySem.W.Frag) (H : Hp) (a : Addr) (vs : List V) : Prop := SqL K H a vs ∨ SqT K H a vs ∨ ∃ xs, RdN H a xs ∧ vs = xs.map fun x => V.ref x.2.1
theorem gather (hc : X.calm = true) (I : Inv X pins σ H s) {a : Addr} {vs : List V} (h : SrcP X.K H a vs) : ∃ us : List Value, Vals vs us ∧ vs.length ≤ sizeLine ∧ ∀ (E : Value → Shared → Prop) (R : List Value → Shared → Prop), (∀ h' tk, (∀ b o, s.heap.get? b = some o → h'.get? b = some o) → R us { s with heap := h', toks := tk }) → wpAny (model X.prog X.w) X.A.in1 (collect (.ref a)) R E s := by
  rcases h with h | h | ⟨xs, h, rfl⟩
  · obtain ⟨its, rv, hl, hz⟩ := I.list h
    exact ⟨its, rv, hz, fun E R q => collect_list hl.isList (q _ s.toks old_gather) (by rw [← rv.length]; exact hz)⟩
  · obtain ⟨its, rv, hl, hz⟩ := I.tuple h
    exact ⟨its, rv, hz, fun E R q => SrtO.collect_tup hl (q _ s.toks old_gather) (by rw [← rv.length]; exact hz)⟩
  · obtain ⟨hs, z, o, es, ep, ho, hx, hdt, hsz, ent⟩ := keysN I h
    refine ⟨es.toList.map (·.key), vals_keys (by rw [List.length_map, Array.length_toList, hsz]) fun j p e => ?_, by rw [List.length_map]; exact z, fun E R q => ?_⟩
    · obtain ⟨en, e1, e2⟩ := ent j p e
      rw [List.getElem?_map, Array.getElem?_toList, e1, ← e2]; rfl
    · refine PySem.W.kdu_collect (A := X.A.in1) (L2.kdl_raw hs hx hdt) (I.ok.hd hc) ho (by rw [hsz]; exact z) fun h' tk acc hk hacc => ?_
      have e : acc.toList = es.toList.map (·.key) := by
        refine List.ext_getElem? fun j => ?_
        by_cases hj : j < acc.size
        · obtain ⟨en, e1, e2⟩ := hacc.2 j acc[j] (Array.getElem?_eq_getElem hj)
          rw [Array.getElem?_toList, Array.getElem?_eq_getElem hj, List.getElem?_map, Array.getElem?_toList, e1, e2]; rfl
        · rw [Array.getElem?_toList, Array.getElem?_eq_none (by omega), List.getElem?_map, Array.getElem?_toList, Array.getElem?_eq_none (by have := hacc.1; omega)]; rfl
      rw [e]
      exact q _ _ hk
theorem lexB_le {p q : Int × Int} (h : SrtO.lexB q p = false) : leP p q := by
  have := SrtO.lexB_no.mp h
  unfold leP
  omega
end
theorem cr_sortedPs {X : Cx} (hc : X.calm = true) : CallR X (.builtin "sorted") (fun xs H Q => ∃ (a : Addr) (vs : List V) (ps : List (Int × Int)), xs = [V.ref a] ∧ SrcP X.K H a vs ∧ RVs X.K H (ps.map pD) vs ∧
    ∀ (ws : List V) (ps' : List (Int × Int)) (p : Addr), ps'.Perm ps → ps'.Pairwise leP → RVs X.K H (ps'.map pD) ws → H p = none → Q (.ref p) (upd H p (.lst ws))) := by
  intro pins s σ H xs us0 Q I r h
  obtain ⟨a, vs, ps, rfl, hs, rp, q⟩ := h
  obtain ⟨us, rv, hz, hcol⟩ := gather hc I hs
  rw [Vals.ref1 r]
  obtain ⟨e1, e2⟩ := pairs_of I rp rv
  have hl := rv.length
  refine SrtO.sorted_ordG (SrtO.swo_lex (kf s.heap)) (by omega) (fun E R q => hcol E R q) (fun h2 h₁ tk a' ha kk => ?_) fun h0 tk h' out h1 h2 k0 k1 ⟨n, hn⟩ => ?_
  · refine SrtO.pairs_sortableO (s := { s with heap := h₁, toks := tk }) (by omega) (fun v hm => (e2 v hm).1.keeps fun b o e _ => (kk b o e).2) fun o e => ?_
    have e' : some o = some (seqObj "list" us.toArray 0) := e.symm.trans ha
    cases e'
    intro c
    exact absurd (Value.type.inj c) (by decide)
  · have I1 : Inv X pins σ H { s with heap := h0, toks := tk } := I.kept k0
    have hm : ∀ u ∈ out, u ∈ us := fun u hu => h2.perm.mem_iff.mp hu
    obtain ⟨g1, g2⟩ := rvs_back (ps := kf s.heap) (out := out) fun u hu => (e2 u (hm u hu)).2
    refine ⟨.ref h0.objs.size, upd H h0.objs.size (.lst (out.map backV)), I1.laid (t' := tk) k1 (Nat.le_refl _) ⟨?_, out, n, g2, hn⟩, rfl, q _ (out.map (kf s.heap)) _ ?_ ?_ g1 (I1.hok.fresh (Nat.le_refl _))⟩
    · rw [List.length_map, h2.perm.length_eq]; omega
    · rw [e1]; exact h2.perm.map _
    · exact List.pairwise_map.mpr (h1.imp fun x => lexB_le x)
end M
namespace M
open PySem L2 PySem.Spec PyProof PyProof.Rows
/-- sorted of pairs of ints: a list, a tuple, or the keys of a dict -/
def SrcPs (h : MH) (x : D) (ps : List (Int × Int)) : Prop := x = .tup (ps.map pD) ∨ ∃ a, x = .ref a ∧ (h a = some (.lst (ps.map pD)) ∨ ∃ kvs : List (NestedKey × D), isDN h a kvs ∧ (kvs.map fun kv => kD kv.1) = ps.map pD)
def rSortedPs : MRA := fun xs h Q => match xs with
  | [x] => ∃ ps, SrcPs h x ps ∧ ∀ (ps' : List (Int × Int)) p, ps'.Perm ps → ps'.Pairwise leP → h p = none → Q (.ref p) (up h p (.lst (ps'.map pD)))
  | _ => False
theorem rn_keys {K : PySem.W.Frag} {H : Hp} : ∀ {kvs : List (NestedKey × D)} {xs : List (NestedKey × Addr × V)}, kvs.map (·.1) = xs.map (·.1) → (∀ x ∈ xs, RV K H (kD x.1) (.ref x.2.1)) → RVs K H (kvs.map fun kv => kD kv.1) (xs.map fun x => V.ref x.2.1)
  | [], [], _, _ => .nil
  | [], _ :: _, h, _ => by simp at h
  | _ :: _, [], h, _ => by simp at h
  | kv :: kvs, x :: xs, h, k => by
    simp only [List.map_cons, List.cons.injEq] at h
    refine .cons ?_ (rn_keys h.2 fun y hy => k y (List.mem_cons_of_mem _ hy))
    show RV K H (kD kv.1) _
    rw [h.1]
    exact k x (List.mem_cons_self ..)
theorem cm_sortedPs {X : Cx} (hc : X.calm = true) : CaM X (.builtin "sorted") rSortedPs := by
  refine ⟨_, cr_sortedPs hc, fun xs h Q0 vs H Q q rh rs f => ?_⟩
  unfold rSortedPs at q
  split at q
  · obtain ⟨v, rfl, rx⟩ := rs.one
    obtain ⟨ps, hs, q⟩ := q
    have z : ∃ a vs, v = V.ref a ∧ SrcP X.K H a vs ∧ RVs X.K H (ps.map pD) vs := by
      rcases hs with rfl | ⟨a, rfl, e | ⟨kvs, e, ek⟩⟩
      · obtain ⟨a, vs, rfl, ta, r⟩ := rx.tup
        exact ⟨a, vs, rfl, .inr (.inl ta), r⟩
      · obtain ⟨vs, E, r⟩ := rh.lst e
        exact ⟨a, vs, rx.ref, .inl (.of E), r⟩
      · obtain ⟨xs, E, rn⟩ := rh.rdN e
        refine ⟨a, xs.map fun x => V.ref x.2.1, rx.ref, .inr (.inr ⟨xs, E, rfl⟩), ?_⟩
        rw [← ek]
        exact rn_keys rn.1 rn.2.2
    obtain ⟨a, vs, rfl, e2, e3⟩ := z
    exact ⟨a, vs, ps, rfl, e2, e3, fun ws ps' p pm so r np => f _ _ (q ps' p pm so (rh.free np)) _ _ (.new np) (rh.new np (ro_lst r)) rv_ref⟩
  · exact q.elim
theorem q_sortedPs {x : D} {h : MH} {Q : MQ} : rSortedPs [x] h Q = (∃ ps, SrcPs h x ps ∧ ∀ (ps' : List (Int × Int)) p, ps'.Perm ps → ps'.Pairwise leP → h p = none → Q (.ref p) (up h p (.lst (ps'.map pD)))) := rfl
end M

namespace M
open PySem PySem.Spec PyProof PyProof.Rows L2
/-! ### len(set(tuple of ints)) -/
theorem nd_le : ∀ {l ns : List Int}, l.Nodup → (∀ k ∈ l, k ∈ ns) → l.length ≤ ns.length
  | [], ns, _, _ => Nat.zero_le _
  | x :: l, ns, nd, h => by
    obtain ⟨n1, n2⟩ := List.nodup_cons.mp nd
    have hx := h x (List.mem_cons_self ..)
    have := nd_le (l := l) (ns := ns.erase x) n2 fun k hk => (List.mem_erase_of_ne (fun (e : k = x) => n1 (e ▸ hk))).mpr (h k (List.mem_cons_of_mem _ hk))
    have e := List.length_erase_of_mem hx
    have := List.length_pos_of_mem hx
    rw [List.length_cons]
    omega
theorem twice : ∀ {ns : List Int}, ¬ ns.Nodup → ∃ x, x ∈ ns ∧ x ∈ ns.erase x
  | [], h => absurd List.nodup_nil h
  | x :: ns, h => by
    by_cases hx : x ∈ ns
    · exact ⟨x, List.mem_cons_self .., by rw [List.erase_cons_head]; exact hx⟩
    · obtain ⟨y, y1, y2⟩ := twice (ns := ns) fun z => h (List.nodup_cons.mpr ⟨hx, z⟩)
      have : x ≠ y := fun e => hx (e ▸ y1)
      refine ⟨y, List.mem_cons_of_mem _ y1, ?_⟩
      rw [List.erase_cons_tail (by simpa using this)]
      exact List.mem_cons_of_mem _ y2
theorem nd_iff {l ns : List Int} (nd : l.Nodup) (h : ∀ k, k ∈ ns ↔ k ∈ l) : (l.length = ns.length ↔ ns.Nodup) ∧ l.length ≤ ns.length := by
  have le := nd_le nd fun k hk => (h k).mpr hk
  refine ⟨⟨fun e => ?_, fun n2 => ?_⟩, le⟩
  · refine Classical.byContradiction fun z => ?_
    obtain ⟨x, x1, x2⟩ := twice z
    have := nd_le (l := l) (ns := ns.erase x) nd fun k hk => by
      by_cases e : k = x
      · rw [e]; exact x2
      · exact (List.mem_erase_of_ne e).mpr ((h k).mpr hk)
    have e2 := List.length_erase_of_mem x1
    have := List.length_pos_of_mem x1
    omega
  · have := nd_le n2 fun k hk => (h k).mp hk
    omega
def tLenSet2 (K : PySem.W.Frag) (ta : TE) : TE := fun σ H Q => ta σ H fun x H1 => ∃ (l : Addr) (ns : List Int), x = .ref l ∧ SqT K H1 l (ns.map V.int) ∧ ns.length ≤ 4000 ∧ ∀ k : Nat, (k = ns.length ↔ ns.Nodup) → k ≤ ns.length → Q (.int (k : Nat)) H1
theorem pe_lenSet2 {X : Cx} {a : Expr} {ta : TE} {p p2 q pos : Pos} (hg : Gl X "len") (hm : X.mg "len" = none) (hg2 : Gl X "set") (hm2 : X.mg "set" = none) (ha : PE X a ta) (hc : X.calm = true := by rfl)
    (na : starEach [a] X.env = (false, eval a X.env) :: starEach [] X.env := by rfl) : PE X (.Call (.Name "len" p) [.Call (.Name "set" p2) [a] [] q] [] pos) (tLenSet2 X.K ta) := by
  refine ⟨fun pins s σ H Q I h => ?_⟩
  refine Call_ (ld_blt I hg hm boot_len ?_)
  refine PyProof.Rows.callWith_builtin1 (PyProof.Rows.args_cons ?_ rfl) rfl rfl
  refine Call_ (ld_blt I hg2 hm2 boot_set ?_)
  refine PyProof.Rows.callWith_type1 (PyProof.Rows.args_cons (thn (ha.run pins s σ H _ I h) fun v s1 ⟨x, H1, I1, r1, q1⟩ => PyProof.Rows.args_nil ?_) na) na rfl
  obtain ⟨l, ns, rfl, hq, hl, q1⟩ := q1
  cases r1
  obtain ⟨its, r, pl, hz⟩ := I1.tuple hq
  refine call_set_tupI ns (I1.ok.hd hc) pl (by simpa using r.ints) (by unfold scanBound; omega) fun h' tk c R cl hk => ?_
  refine PyProof.Rows.args_nil ?_
  obtain ⟨o, es, ep, t, ho, hex, hd, _, nd, hm, _, hf, hn, _⟩ := R
  have I2 : Inv X pins σ H1 { s1 with heap := h', toks := tk } := I1.kept hk
  have hl2 : (es.toList.map keyOf).length = c := by rw [List.length_map, Array.length_toList]; exact hn
  obtain ⟨g1, g2⟩ := nd_iff nd (ns := ns) fun k => by rw [← hm k, decide_eq_true_eq]
  rw [hl2] at g1 g2
  exact call_len_set ho hex hd hf (by rw [hn] <;> omega) ⟨.int c, H1, I2.tok _, ⟨_, by rw [hn]⟩, q1 c g1 g2⟩
def mLenSet (m : MTE) : MTE := fun env h Q => m env h fun x h1 => ∃ ns : List Int, x = .tup (ns.map .int) ∧ ns.length ≤ 4000 ∧ ∀ k : Nat, (k = ns.length ↔ ns.Nodup) → k ≤ ns.length → Q (.int (k : Nat)) h1
theorem ie_lenSet {X : Cx} {Hb : Hp} {a : Expr} {ma : MTE} {p p2 q pos : Pos} (hm : X.mg "len" = none) (hm2 : X.mg "set" = none) (ha : IE X Hb a ma) (hg : Gl X "len" := by rfl) (hg2 : Gl X "set" := by rfl) (hc : X.calm = true := by rfl)
    (na : starEach [a] X.env = (false, eval a X.env) :: starEach [] X.env := by rfl) : IE X Hb (.Call (.Name "len" p) [.Call (.Name "set" p2) [a] [] q] [] pos) (mLenSet ma) := by
  refine pe_w (pe_lenSet2 hg hm hg2 hm2 ha hc na) fun σ H Q ⟨env, h, Q0, re, rh, m, f⟩ => ?_
  refine ⟨env, h, _, re, rh, m, ?_⟩
  rintro x h1 ⟨ns, rfl, l, q⟩ vx H1 t1 r1 rx
  obtain ⟨a, vs, rfl, ta, rs⟩ := rx.tup
  rw [rs.ints] at ta
  exact ⟨a, ns, rfl, ta, l, fun k k1 k2 => f _ _ (q k k1 k2) _ _ t1 r1 rv_int⟩
end M

namespace M
open PySem PySem.Spec PyProof PyProof.Rows L2
/-! ### o[i], o2[j] = e -/
def mPut2 (r : MRSet) (a o1 i1 o2 i2 : MTE) : MTS := fun D' env h => a env h fun d h1 => ∃ x y, d = .tup [x, y] ∧ o1 env h1 fun u h2 => i1 env h2 fun v h3 => r u v x h3 fun h4 => o2 env h4 fun u2 h5 => i2 env h5 fun v2 h6 => r u2 v2 y h6 fun h7 => D'.nx env h7
theorem put2_ {r : MRSet} {a o1 i1 o2 i2 : MTE} {D' : MEnds} {env : ME} {h : MH} (q : a env h fun d h1 => ∃ x y, d = .tup [x, y] ∧ o1 env h1 fun u h2 => i1 env h2 fun v h3 => r u v x h3 fun h4 => o2 env h4 fun u2 h5 => i2 env h5 fun v2 h6 => r u2 v2 y h6 fun h7 => D'.nx env h7) : mPut2 r a o1 i1 o2 i2 D' env h := q
theorem is_put2 {X : Cx} {Hb : Hp} {e o i o2 i2 : Expr} {me mo mi mo2 mi2 : MTE} {rs : MRSet} {kt : Nat} {p1 p2 pt pos : Pos} (hc : X.calm = true) (hs : SeM X rs) (he : IE X Hb e me) (ho : IE X Hb o mo) (hi : IE X Hb i mi) (ho2 : IE X Hb o2 mo2) (hi2 : IE X Hb i2 mi2)
    (ha : ∀ v, assign (.Subscript o i p1) X.env v = (do
      let ov ← holding [v] (eval o X.env)
      let iv ← holding [v, ov] (eval i X.env)
      standAt p1
      holding [v, ov, iv] (setItem ov iv v)
      release [v, ov, iv] []) := by intro _; rfl)
    (ha2 : ∀ v, assign (.Subscript o2 i2 p2) X.env v = (do
      let ov ← holding [v] (eval o2 X.env)
      let iv ← holding [v, ov] (eval i2 X.env)
      standAt p2
      holding [v, ov, iv] (setItem ov iv v)
      release [v, ov, iv] []) := by intro _; rfl)
    (hA : (assignEach [.Subscript o i p1, .Subscript o2 i2 p2] X.env).map (·.2) = assign (.Subscript o i p1) X.env :: (assignEach [.Subscript o2 i2 p2] X.env).map (·.2) := by rfl)
    (hB : (assignEach [.Subscript o2 i2 p2] X.env).map (·.2) = assign (.Subscript o2 i2 p2) X.env :: (assignEach [] X.env).map (·.2) := by rfl)
    (hn : (assignEach [.Subscript o i p1, .Subscript o2 i2 p2] X.env).length = 2 := by rfl) (hst : (assignEach [.Subscript o i p1, .Subscript o2 i2 p2] X.env).findIdx? (·.1) = none := by rfl)
    (h2 : swapsWithSole [.Tuple [.Subscript o i p1, .Subscript o2 i2 p2] kt pt] e pos.line X.env = pure false := by rfl) (hw : swappedStores [.Tuple [.Subscript o i p1, .Subscript o2 i2 p2] kt pt] e X.env = pure none := by rfl)
    (h1 : (assignEach [.Tuple [.Subscript o i p1, .Subscript o2 i2 p2] kt pt] X.env).map (·.2) = [assign (.Tuple [.Subscript o i p1, .Subscript o2 i2 p2] kt pt) X.env] := by rfl) : IS X Hb (.Assign [.Tuple [.Subscript o i p1, .Subscript o2 i2 p2] kt pt] e pos) (mPut2 rs me mo mi mo2 mi2) := by
  obtain ⟨R, hR, hi'⟩ := hs
  refine is_of (ps_asg he (pg_tup hc (pgs_cons (pg_sub ho hi hR ha) (pgs_cons (pg_sub ho2 hi2 hR ha2) pgs_nil hB) hA) hn hst) h2 hw h1) fun D' σ H env h D0 re rh m f => ?_
  refine ⟨env, h, _, re, rh, m, ?_⟩
  rintro d h1 ⟨x, y, rfl, q1⟩ v H1 t1 r1 rv
  obtain ⟨a, vs, rfl, ta, rs⟩ := rv.tup
  obtain ⟨w1, w2, rfl, rx, ry⟩ := rs.two
  refine ⟨a, _, rfl, ta, rfl, w1, _, rfl, ?_⟩
  refine ⟨env, h1, _, re.mono t1, r1, q1, fun u h2 q2 vu H2 t2 r2 ru => ?_⟩
  refine ⟨env, h2, _, (re.mono t1).mono t2, r2, q2, fun v h3 q3 vv H3 t3 r3 rv2 => ?_⟩
  have t23 := t2.trans t3
  refine hi' u v x h3 _ vu vv w1 H3 _ q3 r3 (ru.mono t3) rv2 (rx.mono t23) fun h4 q4 H4 t4 r4 => ?_
  have t14 := t1.trans (t2.trans (t3.trans t4))
  refine ⟨w2, [], rfl, ?_⟩
  refine ⟨env, h4, _, re.mono t14, r4, q4, fun u2 h5 q5 vu2 H5 t5 r5 ru2 => ?_⟩
  refine ⟨env, h5, _, (re.mono t14).mono t5, r5, q5, fun v2 h6 q6 vv2 H6 t6 r6 rv3 => ?_⟩
  have t26 := t2.trans (t3.trans (t4.trans (t5.trans t6)))
  refine hi' u2 v2 y h6 _ vu2 vv2 w2 H6 _ q6 r6 (ru2.mono t6) rv3 (ry.mono t26) fun h7 q7 H7 t7 r7 => ?_
  have tt := t1.trans (t26.trans t7)
  exact ⟨rfl, f.nx env h7 q7 σ H7 tt (re.mono tt) r7⟩
end M

namespace M
open PySem L2
/-! ### a dict of one pair, its key a number -/
def mDisp1V (mk mv : MTE) : MTE := fun env h Q => ∀ p, h p = none → mk env (up h p (.dK [])) fun k h1 => mv env h1 fun d h2 => ∃ i : Int, k = .int i ∧ h2 p = some (.dK []) ∧ Q (.ref p) (up h2 p (.dK [(.inl i, d)]))
section
variable {X : Cx} {Hb : Hp} {pos : Pos} {e f : Expr} {me mf : MTE}
theorem ie_disp1V (he : IE X Hb e me) (hf : IE X Hb f mf) : IE X Hb (.Dict [some e] [f] pos) (mDisp1V me mf) := by
  refine pe_w (pe_disp (pps_cons he hf pps_nil) rfl rfl (by simp) (by simp)) fun σ H Q ⟨env, h, Q0, re, rh, m, f⟩ => fun p np => ?_
  have t0 : TL H (upd H p (.dK [])) := .new np
  refine ⟨env, _, _, re.mono t0, rh.new (m := .dK []) np ⟨[], rfl, rfl, .nil⟩, m p (rh.free np), fun k h1 q kv H1 t1 r1 rk => ?_⟩
  refine ⟨env, h1, _, re.mono (t0.trans t1), r1, q, fun d h2 q2 v H2 t2 r2 rv => ?_⟩
  obtain ⟨i, rfl, e, q3⟩ := q2
  have ek : kv = .int i := by cases rk; rfl
  subst ek
  obtain ⟨ws0, E, r0⟩ := r2.dK e
  have e0 : ws0 = [] := by
    cases ws0 with
    | nil => rfl
    | cons _ _ => cases r0.1
  subst e0
  refine ⟨E, [(.inl i, v)], rfl, by simp, ?_⟩
  have t3 : TL H2 (upd H2 p (.dK [(.inl i, v)])) := .put E (fun _ z => by cases z) (fun _ _ z => by cases z)
  exact f _ _ q3 _ _ (t0.trans (t1.trans (t2.trans t3))) (r2.put t3 ⟨_, rfl, rfl, .cons (rv.mono t3) .nil⟩) rv_ref
end
end M

namespace L2
open PySem
section
variable {X : Cx} {CX : CXT} {e : Expr} {es : List Expr} {t : TA} {x : Str} {p pos : Pos} {i : Nat} {E : XK}
/-- who may be called -/
def CallC (CX : CXT) (X : Cx) (c : Addr × Sp) : Prop := ∃ (k : Nat) (fd : FuncData) (ps : List Str), FnOk X.prog X.w X.K X.mg X.base CX k c.1 fd ps c.2 ∧ Room k X.A ∧ PySem.W.keepIn X.K (.ref c.1) = true ∧ Binds X.K fd ps []
def tCallV (i : Nat) (cs : List (Addr × Sp)) (E : XK) (t : TA) : TE := fun σ H Q => tVar i σ H fun x H1 => ∃ c, x = .ref (Prod.fst c) ∧ c ∈ cs ∧ t σ H1 fun vs H2 => c.2 vs H2 Q E
theorem pe_callV {cs : List (Addr × Sp)} (hn : PE X (.Name x p) (tVar i)) (hC : ∀ c ∈ cs, CallC CX X c) (hx : Passes CX X E) (ha : PA X (e :: es) t)
    (he : starEach (e :: es) X.env = (false, eval e X.env) :: starEach es X.env := by rfl) (hpl : (backTo pos (starEach es X.env)).any (·.1) = false := by rfl) :
    PE X (.Call (.Name x p) (e :: es) [] pos) (tCallV i cs E t) := by
  refine ⟨fun pins s σ H Q I h => ?_⟩
  refine wpAny_Call_Name_kw (thn (hn.run pins s σ H _ I h) fun u s1 ⟨v, H1, I1, r, c, ev, hm, q⟩ => ?_)
  subst ev
  obtain rfl : u = Value.ref c.1 := r
  obtain ⟨k, fd, ps, F, hr, hk, hb⟩ := hC c hm
  refine PySem.W.callWith_K (h₀ := X.base) I1.ok.mod.kin hk (thn (ha.run pos pins s1 σ H1 _ I1 q) fun us s2 ⟨vs, H2, I2, r2, q2⟩ => ⟨I2.kIn, ?_⟩) he hpl
  refine run_fn F hr hb .nil hx I2 r2 ?_
  rw [List.append_nil]; exact q2
end
end L2
namespace M
open PySem L2
/-! ### a def held by a variable -/
def mCallV (i : Nat) (cs : List (Addr × MSp)) (ms : MTA) : MTE := fun env h Q => ∃ f sp, env[i]? = some (some (.ref f)) ∧ (f, sp) ∈ cs ∧ ms env h fun xs h1 => sp xs h1 Q noE
section
variable {X : Cx} {Hb : Hp} {e : Expr} {es : List Expr} {ms : MTA} {x : Str} {p pos : Pos} {i : Nat}
theorem ie_callV {cs : List (Addr × MSp)} (hC : ∀ c ∈ cs, CallC CX0 X (c.1, liftSp X.K c.2)) (ha : IA X Hb (e :: es) ms) (hN : X.N[i]? = some x := by rfl) (hv : Vis X.env.scope x := by first | exact Or.inl rfl | exact Or.inr (Or.inl rfl) | exact Or.inr (Or.inr rfl)) (hd : (x == ("__debug__" : Str)) = false := by decide)
    (hcd : (x == ("__classdict__" : Str)) = false := by decide) (he : starEach (e :: es) X.env = (false, eval e X.env) :: starEach es X.env := by rfl) (hpl : (backTo pos (starEach es X.env)).any (·.1) = false := by rfl) :
    IE X Hb (.Call (.Name x p) (e :: es) [] pos) (mCallV i cs ms) := by
  refine pe_w (pe_callV (CX := CX0) (cs := cs.map fun c => (c.1, liftSp X.K c.2)) (pe_var hN hv hd hcd) (fun c hc => ?_) pass0 ha he hpl) fun σ H Q ⟨env, h, Q0, re, rh, ⟨f, sp, ev, hm, m⟩, fq⟩ => ?_
  · obtain ⟨c0, h0, rfl⟩ := List.mem_map.mp hc
    exact hC c0 h0
  · obtain ⟨v, e1, rv⟩ := re.2.2 i _ ev
    refine ⟨v, e1, (f, liftSp X.K sp), by cases rv; rfl, List.mem_map.mpr ⟨(f, sp), hm, rfl⟩, ?_⟩
    refine ⟨env, h, _, re, rh, m, fun ds h1 q vs H1 t1 r1 rs => ?_⟩
    exact ⟨ds, h1, Q0, noE, rs, r1, q, Fin.mono t1 fq, fun _ _ q => q.elim⟩
end
end M
namespace M
open PySem L2
/-- a def's name, as a value -/
def Fd.gc {K : PySem.W.Frag} {mg : Str → Option Value} {x q : Str} {st : Stmt} {ps : List Str} (F : Fd K mg x q st ps) : Gc K mg x (.ref F.a) := ⟨.ref F.a, .ref F.a, F.m, rfl, fun _ => rv_ref⟩
end M

namespace L2
open PySem PySem.Spec PyProof.Rows
/-- s * k -/
theorem op_mul_str {X : Cx} : OpR X (binaryOp .Mult) (fun x y H Q => ∃ a k, x = .str a ∧ y = .int k ∧ a.length ≤ 255 ∧ 0 ≤ k ∧ k ≤ 65535 ∧ Q (.str (Txt.mul a k)) H) := by
  intro pins s σ H x y v u Q I rx ry h
  obtain ⟨a, k, rfl, rfl, ha, k0, k1, q⟩ := h
  obtain ⟨t, rfl⟩ := rx
  obtain ⟨t', rfl⟩ := ry
  exact PySem.SB.mul (mulOk_of 255 65535 ha (by omega) (by omega) (by decide) (by decide)) fun t' k' => ⟨.str _, H, I.tok k', ⟨t', rfl⟩, q⟩
end L2
namespace M
open PySem PySem.Spec PyProof PyProof.Rows L2
/-! ### texts -/
def rSplit : MRM := fun x xs h Q => match x, xs with
  | .str a, [.str b] => (b.length == 0) = false ∧ a.length + 2 ≤ sizeLine ∧ ∀ p, h p = none → Q (.ref p) (up h p (.lst ((Txt.split a b).map .str)))
  | _, _ => False
def rJoin : MRM := fun x xs h Q => match x, xs with
  | .str a, [.ref p] => ∃ ys : List Str, h p = some (.lst (ys.map .str)) ∧ (ys.map (·.length)).sum + ys.length * a.length ≤ 16777216 ∧ Q (.str (Txt.join a ys)) h
  | _, _ => False
def rInSg : MR2 := fun x y h Q => match x, y with
  | .str a, .str z => ∃ c, a = ⟨#[c]⟩ ∧ Q (.bl (decide (c ∈ z.cps.toList))) h
  | _, _ => False
def rMulS : MR2 := fun x y h Q => match x, y with
  | .str a, .int k => a.length ≤ 255 ∧ 0 ≤ k ∧ k ≤ 65535 ∧ Q (.str (Txt.mul a k)) h
  | _, _ => False
def rIntT : MRA := fun xs h Q => match xs with
  | [.str a] => ∃ n, PySem.intText? a = some n ∧ a.length ≤ 640 ∧ Q (.int n) h
  | _ => False
def rSlT : MRS := fun x lo hi h Q => match x with
  | .str z => z.length ≤ sizeLine ∧ Q (.str (cutS z lo hi)) h
  | _ => False
theorem rvs_strs {K : PySem.W.Frag} {H : Hp} : ∀ ys : List Str, RVs K H (ys.map .str) (ys.map V.str)
  | [] => .nil
  | y :: ys => .cons rv_str (rvs_strs ys)
theorem mi_split {X : Cx} : MtI X "str.split" rSplit := by
  refine ⟨_, mt_split, fun x xs h Q0 vx vs H Q q rh rx rs f => ?_⟩
  unfold rSplit at q
  split at q
  · obtain ⟨hb, hz, q⟩ := q
    obtain ⟨v, rfl, ry⟩ := rs.one
    rw [rx.str, ry.str]
    refine ⟨_, _, rfl, rfl, hb, hz, fun p np => ?_⟩
    exact f _ _ (q p (rh.free np)) _ _ (.new np) (rh.new np (ro_lst (rvs_strs _))) rv_ref
  · exact q.elim
theorem mi_join {X : Cx} : MtI X "str.join" rJoin := by
  refine ⟨_, mt_join, fun x xs h Q0 vx vs H Q q rh rx rs f => ?_⟩
  unfold rJoin at q
  split at q
  · obtain ⟨ys, e, hz, q⟩ := q
    obtain ⟨v, rfl, ry⟩ := rs.one
    rw [rx.str, ry.ref]
    obtain ⟨ws, E, rw'⟩ := rh.lst e
    rw [rw'.strs] at E
    exact ⟨_, _, ys, rfl, rfl, .inl (.of E), hz, fin_at f q rh rv_str⟩
  · exact q.elim
theorem om_inSg {X : Cx} : OpM X (compareOp .In) rInSg := ⟨_, op_in_sign, fun x y h Q0 vx vy H Q q rh rx ry f => by
  unfold rInSg at q
  split at q
  · obtain ⟨c, rfl, q⟩ := q
    rw [rx.str, ry.str]
    exact ⟨c, _, rfl, rfl, fin_at f q rh rv_bl⟩
  · exact q.elim⟩
theorem om_mulS {X : Cx} : OpM X (binaryOp .Mult) rMulS := ⟨_, op_mul_str, fun x y h Q0 vx vy H Q q rh rx ry f => by
  unfold rMulS at q
  split at q
  · rw [rx.str, ry.int]
    exact ⟨_, _, rfl, rfl, q.1, q.2.1, q.2.2.1, fin_at f q.2.2.2 rh rv_str⟩
  · exact q.elim⟩
theorem cm_intT {X : Cx} : CaM X (.type "int") rIntT := by
  refine ⟨_, call_int_str, fun xs h Q0 vs H Q q rh rs f => ?_⟩
  unfold rIntT at q
  split at q
  · obtain ⟨n, e, l, q⟩ := q
    obtain ⟨v, rfl, rx⟩ := rs.one
    rw [rx.str]
    exact ⟨_, n, rfl, e, l, fin_at f q rh rv_int⟩
  · exact q.elim
theorem ie_slT {X : Cx} {Hb : Hp} {e : Expr} {lo hi : Option Expr} {me : MTE} {ml mh : MTO} {p2 pos : Pos} (he : IE X Hb e me) (hl : IO X Hb lo ml) (hu : IO X Hb hi mh) : IE X Hb (.Subscript e (.Slice lo hi none p2) pos) (mSl rSlT me ml mh) := by
  refine pe_w (pe_slice sl_str he hl hu) fun σ H Q ⟨env, h, Q0, re, rh, m, f⟩ => ?_
  refine ⟨env, h, _, re, rh, m, fun x h1 q1 vx H1 t1 r1 rx => ?_⟩
  refine ⟨env, h1, _, re.mono t1, r1, q1, fun l h2 q2 H2 t2 r2 => ?_⟩
  refine ⟨env, h2, _, re.mono (t1.trans t2), r2, q2, fun u h3 q3 H3 t3 r3 => ?_⟩
  have f3 := Fin.mono (t1.trans (t2.trans t3)) f
  unfold rSlT at q3
  split at q3
  · rw [rx.str]
    exact ⟨_, rfl, q3.1, fin_at f3 q3.2 r3 rv_str⟩
  · exact q3.elim
/-! ### what is never come to -/
def mDead : MTS := fun _ _ _ => False
theorem is_dead {X : Cx} {Hb : Hp} {st : Stmt} : IS X Hb st mDead := ⟨fun pins s σ H D' I q => let ⟨_, _, _, _, _, q, _⟩ := liftS_iff.mp q; q.elim⟩
section
variable {h : MH} {Q : MQ} {a b z : Str} {p : Addr} {k : Int}
theorem q_split : rSplit (.str a) [.str b] h Q = ((b.length == 0) = false ∧ a.length + 2 ≤ sizeLine ∧ ∀ p, h p = none → Q (.ref p) (up h p (.lst ((Txt.split a b).map .str)))) := rfl
theorem q_join : rJoin (.str a) [.ref p] h Q = (∃ ys : List Str, h p = some (.lst (ys.map .str)) ∧ (ys.map (·.length)).sum + ys.length * a.length ≤ 16777216 ∧ Q (.str (Txt.join a ys)) h) := rfl
theorem q_inSg : rInSg (.str a) (.str z) h Q = (∃ c, a = ⟨#[c]⟩ ∧ Q (.bl (decide (c ∈ z.cps.toList))) h) := rfl
theorem q_mulS : rMulS (.str a) (.int k) h Q = (a.length ≤ 255 ∧ 0 ≤ k ∧ k ≤ 65535 ∧ Q (.str (Txt.mul a k)) h) := rfl
theorem q_intT : rIntT [.str a] h Q = (∃ n, PySem.intText? a = some n ∧ a.length ≤ 640 ∧ Q (.int n) h) := rfl
theorem q_slT {lo hi : Option Int} : rSlT (.str z) lo hi h Q = (z.length ≤ sizeLine ∧ Q (.str (cutS z lo hi)) h) := rfl
theorem q_tymS : tyM "str" (.str a) h = True := propext ⟨fun _ => trivial, fun _ => rfl⟩
end
end M

namespace L2
open PySem PySem.Spec PyProof.Rows
/-! ### set(list of ints), sorted(set) of any size -/
abbrev newS (w : World) : Obj := { cls := .type "set", dict := none, data := .set #[] 0 (.fresh 0 0 (!w.params.followText "set-order")) }
section
variable {P : Program} {w : World} {A : Around} {E : Value → Shared → Prop} {s : Shared}
abbrev KeepsL (hp hp' : Heap) : Prop := ∀ b o, hp.get? b = some o → hp'.get? b = some o
set_option maxRecDepth 100000 in
theorem set_ofList {lst : Addr} {arr : Array Value} (ms : List Int) {Q : Value → Shared → Prop} (noH : A.handled = none) (isL : s.heap.IsList lst arr) (isI : IntsAre arr.toList ms) (few : ms.length + 1 < scanBound)
    (k : ∀ (hp' : Heap) (tk c : Nat), SetR w hp' s.heap.objs.size (fun j => decide (j ∈ ms)) c → c ≤ ms.length → KeepsL s.heap hp' → Q (.ref s.heap.objs.size) { s with heap := hp', toks := tk }) :
    wpAny (model P w) A (call (.type "set") [.ref lst]) Q E s := by
  have szA : arr.size = ms.length := by rw [← Array.length_toList]; exact IntsAre.length isI
  obtain ⟨cc, tt, mro⟩ := F.called_set.mro
  have mk1 := F.called_set.made
  have mk2 := F.called_set.sub
  refine wpAny_call (codeAny_of_tree ?_)
  show wpAny _ _ (callAny (.type "set") _) _ _ _
  refine wpAny_pure ⟨Code.quiet_builtin _ (by decide +kernel), ?_⟩
  refine codeAny_builtin F.entry_type_call ?_
  rw [Around.under_plain (weight_type_call_type "set" [.ref lst] []) rfl]
  have n1 := F.called_set.notType
  have n2 := F.called_set.canCreate
  have n3 := F.typeCall_set_1 (.ref lst)
  repeat (any_goals (first | assumption | wp_step))
  refine codeAny_mono (code_set_led1 (.ref lst) (E := E) (Q₁ := fun ob sh => ob = .ref s.heap.objs.size ∧ sh = { s with heap := s.heap.push (newS w) }) ⟨rfl, rfl⟩) fun res s1 hres => ?_
  cases res with
  | error e => exact hres
  | ok fl =>
    cases fl with
    | ret ob =>
      obtain ⟨rfl, rfl⟩ := hres
      have atS : (s.heap.push (newS w)).get? s.heap.objs.size = some (newS w) := Heap.get?_push_size _ rfl
      have tyS : Shared.TypeIs { s with heap := s.heap.push (newS w) } (.ref s.heap.objs.size) "set" := ⟨_, atS, rfl⟩
      have li := F.called_set.init.lookup
      have bi := F.called_set.init.bind (.ref s.heap.objs.size)
      repeat (any_goals (first | assumption | wp_step))
      refine codeAny_mono (codeAny_call_builtin (R := wants (fun r sh => r = .none ∧ ∃ hp' tk c, sh = { s with heap := hp', toks := tk } ∧ SetR w hp' s.heap.objs.size (fun j => decide (j ∈ ms)) c ∧ c ≤ ms.length ∧ KeepsL s.heap hp') E) F.called_set.init.plain F.entry_set_init (check_set_init_1 tyS ?_)) fun res2 s2 hres2 => ?_
      · obtain ⟨oL, hoL, hcL, nL, hdL⟩ := isL
        obtain ⟨c0, d0, dt0, sl0⟩ := oL
        simp only at hcL hdL
        subst hcL hdL
        have oldL : (s.heap.push (newS w)).get? lst = some { cls := .type "list", dict := d0, data := .seq arr nL, slots := sl0 } := Heap.get?_push_of_some _ hoL
        have sl1 := F.sub_list_set
        have sl2 := F.sub_list_frozenset
        have nd1 : (Value.type "list" == Value.type "dict") = false := by decide
        have lstAt : (s.heap.push (newS w)).IsList lst arr := ⟨_, oldL, rfl, nL, rfl⟩
        unfold Builtin.«set.__init__» noKeywords Builtin.Frozenset.updateFrom
        generalize hI : pyIter = it
        wp_walk
        subst hI
        refine wpAny_pyIter_list lstAt ?_
        refine wpAny_bind (wpAny_runValue ?_)
        have ltL : lst < s.heap.objs.size := Heap.lt_size hoL
        have noH3 : A.in1.in1.in1.handled = none := by simp [noH]
        have neL : lst ≠ (s.heap.push (newS w)).objs.size := by
          rw [Heap.size_push]; exact Nat.ne_of_lt (Nat.lt_succ_of_lt ltL)
        have apart : s.heap.objs.size ∉ [(s.heap.push (newS w)).objs.size, lst] := by
          rw [Heap.size_push]
          simp only [List.mem_cons, List.mem_singleton, List.not_mem_nil, or_false, not_or]
          exact ⟨Nat.ne_of_lt (Nat.lt_succ_self _), Nat.ne_of_gt ltL⟩
        have each : ∀ (i : Nat) (v : Value), arr[i]? = some v → ∃ z t, ms[i]? = some z ∧ v = .int z t := fun i v hv => by
          have hi : i < ms.length := by rw [← szA]; exact (Array.getElem?_eq_some_iff.mp hv).1
          obtain ⟨t, e⟩ := PyProof.Rows.IntsAre.int_at isI i v (by rw [Array.getElem?_toList]; exact hv)
          refine ⟨ms[i], t, List.getElem?_eq_getElem hi, ?_⟩
          rw [e, List.getD_eq_getElem?_getD, List.getElem?_eq_getElem hi] <;> rfl
        refine set_update_ints ((Walks.list noH3 _ lst neL arr).toS) s.heap.objs.size apart ms szA few each (arr.size - 0) 0 _ (by omega) (Nat.zero_le _) ⟨⟨_, Heap.get?_push_size _ rfl, rfl, rfl⟩, (lstAt.push _)⟩ ?start ?fin
        case start =>
          exact ⟨0, Nat.le_refl 0, setR_new_at (Heap.get?_push_of_some _ atS)⟩
        case fin =>
          intro s3 c3 mv le3 set3
          obtain ⟨hp3, gn, dr, tk3, os3⟩ := s3
          have e1 : gn = s.gens := mv.gens
          have e2 : dr = s.drawn := mv.drawn
          have e3 : os3 = s.os := mv.os
          subst e1 e2 e3
          show wpAny _ _ _ _ _ _
          refine wpAny_pure ?_
          show wpAny _ _ (ret Value.none) _ _ _
          rw [szA] at le3
          refine wpAny_pure ⟨rfl, hp3, tk3, c3, rfl, set3, le3, fun b o e => ?_⟩
          have b0 : b < s.heap.objs.size := Heap.lt_size e
          refine mv.heap b o ?_ (Heap.get?_push_of_some _ (Heap.get?_push_of_some _ e))
          simp only [List.mem_cons, List.mem_singleton, List.not_mem_nil, or_false, not_or]
          refine ⟨Nat.ne_of_lt b0, ?_⟩
          rw [Heap.size_push]; exact Nat.ne_of_lt (Nat.lt_succ_of_lt b0)
      · cases res2 with
        | error e => exact hres2
        | ok fl2 =>
          cases fl2 with
          | ret r =>
            obtain ⟨rfl, hp', tk, c, rfl, q1, q2, q3⟩ := hres2
            repeat (any_goals (first | assumption | wp_step))
            exact k _ _ _ q1 q2 q3
          | _ => exact hres2.elim
    | _ => exact hres.elim
end
end L2

namespace L2
open PySem PySem.Spec PyProof.Rows
/-- sorted(a set of ints), of any size -/
theorem sorted_setA {P : Program} {w : World} {A : Around} {E : Value → Shared → Prop} {s : Shared} {a : Addr} {S : Int → Bool} {n : Nat} {Q : Value → Shared → Prop} (R : SetR w s.heap a S n) (noH : A.handled = none)
    (k : ∀ s2 p (out : Array Value) (c : Nat) (ms : List Int), KeepsL s.heap s2.heap → s2.gens = s.gens → s2.os = s.os → s.heap.objs.size ≤ p → s2.heap.get? p = some (seqObj "list" out c) → IntsAre out.toList ms → ms.Pairwise (· < ·) → (∀ z, z ∈ ms ↔ S z = true) → Q (.ref p) s2) :
    wpAny (model P w) A (call (.builtin "sorted") [.ref a]) Q E s := by
  obtain ⟨ob, els, ep, tb, oa, ex, da, good, nd, mem, few, fits, cnt, ris, led⟩ := R
  refine Calls.call_function_entry kind_sorted plain_sorted entry_sorted (args_sorted1 _) ?_
  unfold Builtin.«sorted»
  refine wpAny_bind (m := checkCount "sorted" 1 1 _) (wpAny_pure ?_)
  refine wpAny_bind (collect_set (A := A.in1) noH ⟨ob, oa, ex.1, da⟩ fits few ris led fun s1 vs keep big e1 e2 pm => ?_)
  have lv : vs.length = els.size := by rw [pm.length_eq, List.length_map, Array.length_toList]
  have iv : IntsAre vs (vs.map Builtin.Re.reRawOf) := ints_of vs fun v hv => by
    obtain ⟨e, he, q⟩ := List.mem_map.mp (pm.mem_iff.mp hv)
    obtain ⟨z, tk, h1, _⟩ := good e he
    exact ⟨z, tk, q ▸ h1⟩
  have pv : (vs.map Builtin.Re.reRawOf).Perm (els.toList.map keyOf) := by
    have q := pm.map Builtin.Re.reRawOf
    rwa [List.map_map] at q
  have lz : vs.length ≤ sizeLine := by
    unfold scanBound at few
    rw [lv, sizeLine_eq]; omega
  refine wpAny_bind (wpAny_newList ?_ lz)
  have at1 : (s1.heap.push (seqObj "list" vs.toArray 0)).get? s1.heap.objs.size = some (seqObj "list" vs.toArray 0) := Heap.get?_push_size _ rfl
  refine wpAny_bind (wpAny_holding (wpAny_call_entry slot_list_sort ⟨_, at1, rfl⟩ entry_list_sort (SrtO.list_sort_ord SrtO.swo_int at1 lz (fun h2 => SrtO.ints_sortable iv h2) fun out h1 h2 => ⟨.none, rfl, ?_⟩) (args_list_sort _)))
  obtain ⟨k1, k2, k3⟩ := SrtO.ints_out iv h1 h2
  obtain ⟨c, hc⟩ := PyProof.Rows.sortedHeap_at (vs := vs) (out := out.toArray) at1
  have pn := k2.trans pv
  refine wpAny_pure ⟨_, rfl, k _ s1.heap.objs.size out.toArray c (out.map SrtO.iv) (fun b u e => ?_) e1 e2 big hc (by simpa using k1) (lt_of_le_nodup _ k3 (pn.nodup_iff.mpr nd)) fun z => by rw [pn.mem_iff, ← mem z]⟩
  have q := keep b u e
  have ltb := Heap.lt_size q
  show (sortedHeap (s1.heap.push (seqObj "list" vs.toArray 0)) s1.heap.objs.size vs out.toArray).get? b = some u
  rw [sortedHeap_old (Nat.ne_of_lt ltb) (by rw [size_push']; exact Nat.lt_succ_of_lt ltb)]
  exact Heap.get?_push_of_some _ q
/-- sorted(set(xs)), xs a list or a tuple of ints -/
def tSortSet (K : PySem.W.Frag) (ta : TE) : TE := fun σ H Q => ta σ H fun x H1 => ∃ (l : Addr) (ns : List Int), x = .ref l ∧ (SqL K H1 l (ns.map V.int) ∨ SqT K H1 l (ns.map V.int)) ∧ ns.length ≤ 4000 ∧
  ∀ (ms : List Int) p, ms.Pairwise (· < ·) → (∀ z, z ∈ ms ↔ z ∈ ns) → H1 p = none → Q (.ref p) (upd H1 p (.lst (ms.map V.int)))
theorem pe_sortSet {X : Cx} {a : Expr} {ta : TE} {p p2 q pos : Pos} (hg : Gl X "sorted") (hm : X.mg "sorted" = none) (hg2 : Gl X "set") (hm2 : X.mg "set" = none) (ha : PE X a ta) (hc : X.calm = true := by rfl)
    (na : starEach [a] X.env = (false, eval a X.env) :: starEach [] X.env := by rfl) : PE X (.Call (.Name "sorted" p) [.Call (.Name "set" p2) [a] [] q] [] pos) (tSortSet X.K ta) := by
  refine ⟨fun pins s σ H Q I h => ?_⟩
  refine Call_ (ld_blt I hg hm PyProof.Rows.boot_sorted ?_)
  refine PyProof.Rows.callWith_builtin1 (PyProof.Rows.args_cons ?_ rfl) rfl rfl
  refine Call_ (ld_blt I hg2 hm2 boot_set ?_)
  refine PyProof.Rows.callWith_type1 (PyProof.Rows.args_cons (thn (ha.run pins s σ H _ I h) fun v s1 ⟨x, H1, I1, r1, q1⟩ => PyProof.Rows.args_nil ?_) na) na rfl
  obtain ⟨l, ns, rfl, hq, hl, q1⟩ := q1
  cases r1
  have fin : ∀ (sx : Shared) (ad : Addr) (c : Nat), Inv X pins σ H1 sx → SetR X.w sx.heap ad (fun j => decide (j ∈ ns)) c → wpAny (model X.prog X.w) X.A (call (.builtin "sorted") [.ref ad]) (EP X pins σ Q) X.xe sx := by
    intro sx ad c I2 R
    refine sorted_setA R (I1.ok.hd hc) fun s2 p out c2 ms k g o hp hg hi hs hm => ?_
    have le : ms.length ≤ ns.length := M.nd_le (hs.imp fun {a b} h e => by omega) fun z hz => of_decide_eq_true ((hm z).mp hz)
    have hlen : (ms.map V.int).length ≤ sizeLine := by rw [List.length_map, sizeLine_eq]; omega
    have hn : H1 p = none := I2.hok.fresh hp
    have J : Inv X pins σ (upd H1 p (.lst (ms.map V.int))) { sx with heap := s2.heap, gens := s2.gens, drawn := s2.drawn, toks := s2.toks } :=
      I2.call (ch := []) (Un.laid k hp hn) (I2.hok.laid k hp ⟨hlen, out.toList, c2, vals_of_ints hi, hg⟩) (by rw [g]; exact I2.bare) (fun _ z => nomatch z)
    have e : s2 = { sx with heap := s2.heap, gens := s2.gens, drawn := s2.drawn, toks := s2.toks } := by
      cases s2
      cases sx
      cases o
      rfl
    rw [e]
    exact ⟨.ref p, _, J, rfl, q1 ms p hs (fun z => by rw [hm z, decide_eq_true_eq]) hn⟩
  rcases hq with hq | hq
  · obtain ⟨its, r, pl, hz⟩ := I1.list hq
    exact set_ofList ns (I1.ok.hd hc) pl.isList (by simpa using r.ints) (by unfold scanBound; omega) fun h' tk c R cl hk => PyProof.Rows.args_nil (fin _ _ c (I1.kept hk) R)
  · obtain ⟨its, r, pl, hz⟩ := I1.tuple hq
    exact call_set_tupI ns (I1.ok.hd hc) pl (by simpa using r.ints) (by unfold scanBound; omega) fun h' tk c R cl hk => PyProof.Rows.args_nil (fin _ _ c (I1.kept hk) R)
end L2
namespace M
open PySem PySem.Spec PyProof PyProof.Rows L2
def mSortSet (m : MTE) : MTE := fun env h Q => m env h fun x h1 => ∃ ns : List Int, ((∃ a, x = .ref a ∧ h1 a = some (.lst (ns.map .int))) ∨ x = .tup (ns.map .int)) ∧ ns.length ≤ 4000 ∧ ∀ (ms : List Int) p, ms.Pairwise (· < ·) → (∀ z, z ∈ ms ↔ z ∈ ns) → h1 p = none → Q (.ref p) (up h1 p (.lst (ms.map .int)))
theorem ie_sortSet {X : Cx} {Hb : Hp} {a : Expr} {ma : MTE} {p p2 q pos : Pos} (hm : X.mg "sorted" = none) (hm2 : X.mg "set" = none) (ha : IE X Hb a ma) (hg : Gl X "sorted" := by rfl) (hg2 : Gl X "set" := by rfl) (hc : X.calm = true := by rfl)
    (na : starEach [a] X.env = (false, eval a X.env) :: starEach [] X.env := by rfl) : IE X Hb (.Call (.Name "sorted" p) [.Call (.Name "set" p2) [a] [] q] [] pos) (mSortSet ma) := by
  refine pe_w (pe_sortSet hg hm hg2 hm2 ha hc na) fun σ H Q ⟨env, h, Q0, re, rh, m, f⟩ => ?_
  refine ⟨env, h, _, re, rh, m, fun x h1 ⟨ns, hx, l, q⟩ vx H1 t1 r1 rx => ?_⟩
  have f1 := Fin.mono t1 f
  have fin : ∀ (ms : List Int) p, ms.Pairwise (· < ·) → (∀ z, z ∈ ms ↔ z ∈ ns) → H1 p = none → Q (.ref p) (upd H1 p (.lst (ms.map V.int))) := fun ms p a1 a2 np =>
    f1 _ _ (q ms p a1 a2 (r1.free np)) _ _ (.new np) (r1.new np (ro_lst .of_ints)) rv_ref
  rcases hx with ⟨a, rfl, e⟩ | rfl
  · obtain ⟨ws, E, rs⟩ := r1.lst e
    rw [rs.ints] at E
    rw [rx.ref]
    exact ⟨a, ns, rfl, .inl (.of E), l, fin⟩
  · obtain ⟨a, vs, rfl, ta, rs⟩ := rx.tup
    rw [rs.ints] at ta
    exact ⟨a, ns, rfl, .inr ta, l, fin⟩
end M

namespace L2
open PySem PySem.Spec PyProof.Rows
section
variable {X : Cx} {e : Expr} {te : St → Hp → (Int → Int → Hp → Prop) → Prop}
def rgS (a b : Int) : Int := preSum (fun i => a + (i : Int)) (b - a).toNat
def tSumRg (te : St → Hp → (Int → Int → Hp → Prop) → Prop) : TE := fun σ H Q => te σ H fun a b H1 => 0 ≤ a ∧ a ≤ 1000000 ∧ 0 ≤ b ∧ b ≤ 1000000 ∧ Q (.int (rgS a b)) H1
theorem preSum_bd {a : Int} (a0 : 0 ≤ a) (a1 : a ≤ 1000000) : ∀ n : Nat, n ≤ 1000000 → 0 ≤ preSum (fun i => a + (i : Int)) n ∧ preSum (fun i => a + (i : Int)) n ≤ (n : Int) * 2000000
  | 0, _ => ⟨Int.le_refl 0, by show (0 : Int) ≤ ((0 : Nat) : Int) * 2000000; omega⟩
  | n + 1, h => by
    obtain ⟨c, d⟩ := preSum_bd a0 a1 n (by omega)
    show 0 ≤ preSum (fun i => a + (i : Int)) n + (a + (n : Int)) ∧ preSum (fun i => a + (i : Int)) n + (a + (n : Int)) ≤ ((n + 1 : Nat) : Int) * 2000000
    generalize preSum (fun i => a + (i : Int)) n = x at *
    omega
theorem pe_sumRg {p pos : Pos} (hc : X.calm = true) (hg : Gl X "sum") (hm : X.mg "sum" = none) (he : PRg X e te) (na : starEach [e] X.env = (false, eval e X.env) :: starEach [] X.env := by rfl) (hp : (backTo pos (starEach [] X.env)).any (·.1) = false := by rfl) : PE X (.Call (.Name "sum" p) [e] [] pos) (tSumRg te) := by
  refine ⟨fun pins s σ H Q I h => ?_⟩
  refine Call_ (ld_blt I hg hm boot_sum (PyProof.Rows.callWith_builtin1 (args_cons (thn (he pins s σ H _ I h) fun x s1 ⟨r, a, b, t, u, v, H1, ex, hr, I1, a0, a1, b0, b1, q⟩ => args_nil ?_) na) na hp))
  subst ex
  refine call_sum_walk (wpAny_pyIter_range hr (small_one (by omega) (by omega) (by omega) (by omega)) ?_)
  refine ⟨s1.heap.objs.size, _, _, (b - a).toNat, _, _, fun i => a + (i : Int), rfl, Walks.range (A := X.A.in1) (I1.ok.hd hc) s1.heap.objs.size a 1 (b - a).toNat, ?_, fun c hcm => ?_, fun i v hv => ?_, fun j hj => ?_, fun h' tk t' hk => ?_⟩
  · show IsRangeIter _ _ _ _ _
    rw [← rangeSize_nat a b]
    simpa using Heap.get?_push_size _ rfl
  · rw [List.mem_singleton.mp hcm, Heap.size_push]; exact Nat.lt_succ_self _
  · obtain ⟨t2, e2⟩ := hv
    exact ⟨t2, by rw [e2, Int.mul_one]⟩
  · have b1' := preSum_bd a0 a1 (j + 1) (by omega)
    refine ⟨⟨by show -(2 ^ 63) ≤ a + (j : Int); omega, by show a + (j : Int) < 2 ^ 63; omega⟩, ⟨by omega, by omega⟩⟩
  · refine ⟨.int (rgS a b), H1, (I1.kept (t' := tk) (h' := h') fun c o e => ?_), ⟨_, rfl⟩, q⟩
    exact hk c o (fun hm => Nat.ne_of_lt (Heap.lt_size e) (List.mem_singleton.mp hm)) (Heap.get?_push_of_some _ e)
end
end L2
namespace M
open PySem L2
/-! ### sum(range(b)), sum(range(a, b)) -/
theorem rgS_eq (a b : Int) : L2.rgS a b = (rgI a b).sum := by
  unfold L2.rgS rgI
  generalize (b - a).toNat = n
  induction n with
  | zero => rfl
  | succ n ih =>
    rw [List.range_succ, List.map_append, List.sum_append, ← ih]
    show preSum (fun i => a + (i : Int)) n + (a + (n : Int)) = _
    simp
def mSumR1 (b : MTE) : MTE := fun env h Q => b env h fun y h2 => ∃ j, y = .int j ∧ 0 ≤ j ∧ j ≤ 1000000 ∧ Q (.int (rgI 0 j).sum) h2
def mSumR2 (a b : MTE) : MTE := fun env h Q => a env h fun x h1 => b env h1 fun y h2 => ∃ i j, x = .int i ∧ y = .int j ∧ 0 ≤ i ∧ i ≤ 1000000 ∧ 0 ≤ j ∧ j ≤ 1000000 ∧ Q (.int (rgI i j).sum) h2
section
variable {X : Cx} {Hb : Hp} {a b : Expr} {ma mb : MTE} {pos p p2 pa : Pos}
theorem ie_sumR1 (hm : X.mg "sum" = none) (hr : X.mg "range" = none) (hb : IE X Hb b mb) (hc : X.calm = true := by rfl) (hg : Gl X "sum" := by rfl) (hg2 : Gl X "range" := by rfl) (nb : starEach [b] X.env = (false, eval b X.env) :: starEach [] X.env := by rfl)
    (na2 : starEach [.Call (.Name "range" p2) [b] [] pa] X.env = (false, eval (.Call (.Name "range" p2) [b] [] pa) X.env) :: starEach [] X.env := by rfl) (hp : (backTo pos (starEach [] X.env)).any (·.1) = false := by rfl) : IE X Hb (.Call (.Name "sum" p) [.Call (.Name "range" p2) [b] [] pa] [] pos) (mSumR1 mb) := by
  refine pe_w (pe_sumRg hc hg hm (prg_1 hg2 hr hb nb) na2 hp) fun σ H Q ⟨env, h, Q0, re, rh, m, f⟩ => ?_
  refine ⟨env, h, _, re, rh, m, ?_⟩
  rintro d h1 q1 v H1 t1 r1 rx
  obtain ⟨j, rfl, j0, j1, q⟩ := q1
  rw [rx.int]
  refine ⟨j, rfl, by omega, by omega, j0, j1, ?_⟩
  rw [rgS_eq]
  exact f _ _ q _ _ t1 r1 rv_int
theorem ie_sumR2 (hm : X.mg "sum" = none) (hr : X.mg "range" = none) (ha : IE X Hb a ma) (hb : IE X Hb b mb) (hc : X.calm = true := by rfl) (hg : Gl X "sum" := by rfl) (hg2 : Gl X "range" := by rfl) (na : starEach [a, b] X.env = (false, eval a X.env) :: starEach [b] X.env := by rfl)
    (nb : starEach [b] X.env = (false, eval b X.env) :: starEach [] X.env := by rfl) (hp : (backTo pa (starEach [b] X.env)).any (·.1) = false := by rfl)
    (na2 : starEach [.Call (.Name "range" p2) [a, b] [] pa] X.env = (false, eval (.Call (.Name "range" p2) [a, b] [] pa) X.env) :: starEach [] X.env := by rfl) (hp2 : (backTo pos (starEach [] X.env)).any (·.1) = false := by rfl) : IE X Hb (.Call (.Name "sum" p) [.Call (.Name "range" p2) [a, b] [] pa] [] pos) (mSumR2 ma mb) := by
  refine pe_w (pe_sumRg hc hg hm (prg_2 hg2 hr ha hb na nb hp) na2 hp2) fun σ H Q ⟨env, h, Q0, re, rh, m, f⟩ => ?_
  refine ⟨env, h, _, re, rh, m, ?_⟩
  rintro d h1 q1 v H1 t1 r1 rx
  refine ⟨env, h1, _, re.mono t1, r1, q1, ?_⟩
  rintro d2 h2 ⟨i, j, rfl, rfl, i0, i1, j0, j1, q⟩ v2 H2 t2 r2 rx2
  rw [(rx.mono t2).int, rx2.int]
  refine ⟨i, j, rfl, rfl, i0, i1, j0, j1, ?_⟩
  rw [rgS_eq]
  exact f _ _ q _ _ (t1.trans t2) r2 rv_int
end
end M

namespace SrtR
open PySem PySem.Spec PyProof PyProof.Rows SrtO
section
variable {prog : Program} {w : World} {A : Around} {s : Shared} {E : Value → Shared → Prop}
/-- sorted(t, ..) of a tuple by keywords that say reverse=b -/
theorem sorted_ordKT {l : Addr} {vs : List Value} {b : Bool} {kw : List (Str × Value)} {ltv : Value → Value → Bool} {Q : Value → Shared → Prop} (hk : ∀ a, Builtin.«list.sort» ⟨[.ref a], kw⟩ = Builtin.«list.sort» ⟨[.ref a], [(Str.ofString "reverse", .bool b)]⟩)
    (ha1 : argsOk "sorted" ⟨[.ref l], kw⟩) (ha2 : ∀ a, argsOk "list.sort" ⟨[a], kw⟩) (O : Swo ltv) (hl : IsTup s.heap l vs.toArray) (hz : vs.length ≤ sizeLine)
    (hS : 2 ≤ vs.length → ∀ (h₁ : Heap) (a : Addr), h₁.get? a = some (seqObj "list" vs.toArray 0) → (∀ b o, s.heap.get? b = some o → b ≠ a ∧ h₁.get? b = some o) → SortableO prog w A.in1.in1 { s with heap := h₁ } a vs ltv)
    (h : ∀ out : List Value, Srtd ltv out → Stb ltv out (if b = true then vs.reverse else vs) → Q (.ref (s.heap.objs.size + 1)) { s with heap := sortedAll s.heap vs (if b = true then out.toArray.reverse else out.toArray) }) :
    wpAny (model prog w) A (call (.builtin "sorted") [.ref l] kw) Q E s := by
  refine call_function_entry_kw kind_sorted plain_sorted entry_sorted ha1 ?_
  unfold Builtin.«sorted»
  refine wpAny_bind (m := checkCount "sorted" 1 1 _) (wpAny_pure ?_)
  refine wpAny_bind (collect_tup hl ?_ hz)
  refine wpAny_bind (wpAny_newList ?_ hz)
  have hsz : ((s.heap.push (seqObj "list" #[] 0)).update s.heap.objs.size (Obj.mapSeq (· ++ vs.toArray))).objs.size = s.heap.objs.size + 1 := by
    rw [Heap.size_update, size_push']
  have hoL : (((s.heap.push (seqObj "list" #[] 0)).update s.heap.objs.size (Obj.mapSeq (· ++ vs.toArray))).push (seqObj "list" vs.toArray 0)).get? (s.heap.objs.size + 1) = some (seqObj "list" vs.toArray 0) := by
    rw [← hsz]; exact Heap.get?_push_size _ rfl
  have keep : ∀ b o, s.heap.get? b = some o → b ≠ s.heap.objs.size + 1 ∧ (((s.heap.push (seqObj "list" #[] 0)).update s.heap.objs.size (Obj.mapSeq (· ++ vs.toArray))).push (seqObj "list" vs.toArray 0)).get? b = some o := fun b o q => by
    have hlt : b < s.heap.objs.size := Heap.lt_size q
    refine ⟨Nat.ne_of_lt (Nat.lt_succ_of_lt hlt), Heap.get?_push_of_some _ ?_⟩
    rw [Heap.get?_update_ne _ _ _ _ (Nat.ne_of_lt hlt)]
    exact Heap.get?_push_of_some _ q
  show wpAny _ _ _ _ _ { s with heap := ((s.heap.push (seqObj "list" #[] 0)).update s.heap.objs.size (Obj.mapSeq (· ++ vs.toArray))).push (seqObj "list" vs.toArray 0) }
  rw [hsz]
  refine wpAny_bind (wpAny_holding (wpAny_call_entry_kw slot_list_sort ⟨_, hoL, rfl⟩ entry_list_sort ?_ (ha2 _)))
  rw [hk]
  refine list_sort_ordR O hoL hz (fun h2 => hS h2 _ _ hoL keep) fun out hs hb => ⟨_, rfl, ?_⟩
  exact wpAny_pure ⟨_, rfl, h out hs hb⟩
end
end SrtR
namespace L2
open PySem PySem.Spec PyProof.Rows
def rSortedKwT (K : PySem.W.Frag) (b : Bool) (zs0 : List V) : List V → List V → Hp → VK → Prop := fun vs zs H Q => ∃ (a : Addr) (ns : List Int), vs = [V.ref a] ∧ zs = zs0 ∧ SqT K H a (ns.map V.int) ∧
  ∀ (ns' : List Int) (p : Addr), ns'.Perm ns → OrdB b ns' → H p = none → Q (.ref p) (upd H p (.lst (ns'.map V.int)))
theorem cr_sortedRevT {X : Cx} {b : Bool} : CallRK X (.builtin "sorted") [Str.ofString "reverse"] (rSortedKwT X.K b [.bl b]) := by
  intro pins s σ H vs zs us ws Q I r rz h
  obtain ⟨a, ns, rfl, rfl, hs, q⟩ := h
  obtain rfl := Vals.ref1 r
  obtain ⟨w1, rfl, e1⟩ := vals1 rz
  obtain rfl : w1 = Value.bool b := e1
  obtain ⟨its, rv, hl, hz⟩ := I.tuple hs
  have hi := rv.ints
  refine SrtR.sorted_ordKT (fun _ => rfl) (PyProof.Rows.args_sorted_rev _ _) (fun _ => PyProof.Rows.args_list_sort_rev _ _) SrtO.swo_int hl (by rw [← rv.length]; exact hz) (fun h2 h₁ a' _ _ => SrtO.ints_sortable hi h2) fun out h1 h2 => ?_
  obtain ⟨ns', k1, k2, k3⟩ := SrtR.ints_outR hi h1 h2
  obtain ⟨ep, he'⟩ := PyProof.Rows.sortedAll_at s.heap its (if b = true then out.toArray.reverse else out.toArray)
  have hlen : (ns'.map V.int).length ≤ sizeLine := by
    rw [List.length_map, k2.length_eq]
    rw [List.length_map] at hz
    exact hz
  have e0 : ((if b = true then out.toArray.reverse else out.toArray).toList).toArray = (if b = true then out.toArray.reverse else out.toArray) := by rw [Array.toArray_toList]
  exact ⟨.ref _, upd H (s.heap.objs.size + 1) (.lst (ns'.map V.int)), I.laid (t' := s.toks) (fun _ _ => PyProof.Rows.sortedAll_old) (Nat.le_succ _) ⟨hlen, _, ep, vals_of_ints k1, by rw [e0]; exact he'⟩, rfl, q _ _ k2 k3 (I.hok.fresh (Nat.le_succ _))⟩
end L2
namespace M
open PySem L2 PySem.Spec PyProof PyProof.Rows
/-! ### sorted(t, reverse=True), t a tuple of ints -/
def mSortRev (m : MTE) : MTE := fun env h Q => m env h fun x h1 => ∃ ns : List Int, x = .tup (ns.map .int) ∧ ∀ (ms : List Int) p, ms.Perm ns → ms.Pairwise (· ≥ ·) → h1 p = none → Q (.ref p) (up h1 p (.lst (ms.map .int)))
section
variable {X : Cx} {Hb : Hp} {e : Expr} {me : MTE} {p pos kp cp : Pos} {ck : Nat}
theorem ie_sortRev (hm : X.mg "sorted" = none) (he : IE X Hb e me) (hg : Gl X "sorted" := by rfl)
    (na : starEach [e] X.env = (false, eval e X.env) :: starEach [] X.env := by rfl)
    (h1 : backTo pos (starEach [e] X.env) = (false, eval e X.env) :: backTo pos (starEach [] X.env) := by rfl) (hpl : (backTo pos (starEach [e] X.env)).any (·.1) = false := by rfl)
    (hall : (backToKw pos (keywordEach [⟨some (Str.ofString "reverse"), .Constant (.bool true) ck cp, kp⟩] X.env)).all (·.1.isSome) = true := by rfl) (hnone : (backToKw pos (keywordEach [⟨some (Str.ofString "reverse"), .Constant (.bool true) ck cp, kp⟩] X.env)).any (·.1.isNone) = false := by rfl)
    (hks : (backToKw pos (keywordEach [⟨some (Str.ofString "reverse"), .Constant (.bool true) ck cp, kp⟩] X.env)).filterMap (·.1) = [Str.ofString "reverse"] := by rfl) :
    IE X Hb (.Call (.Name "sorted" p) [e] [⟨some (Str.ofString "reverse"), .Constant (.bool true) ck cp, kp⟩] pos) (mSortRev me) := by
  refine pe_w (pe_callBK (cr_sortedRevT (b := true)) hg hm PyProof.Rows.boot_sorted (pa_cons he pa_nil na) (pk_cons pe_bl pk_nil) (he := h1) (hpl := hpl) (hall := hall) (hnone := hnone) (hks := hks)) fun σ H Q ⟨env, h, Q0, re, rh, m, f⟩ => ?_
  refine ⟨env, h, _, re, rh, m, ?_⟩
  rintro d h1 ⟨ns, rfl, q⟩ v H1 t1 r1 rx
  obtain ⟨a, vs, rfl, ta, rs⟩ := rx.tup
  rw [rs.ints] at ta
  exact ⟨a, ns, rfl, rfl, ta, fun ns' p h1 h2 np => f _ _ (q ns' p h1 h2 (r1.free np)) _ _ (t1.trans (.new np)) (r1.new np (ro_lst .of_ints)) rv_ref⟩
end
end M

namespace L2
open PySem PySem.Spec PyProof.Rows
section
variable {X : Cx}
/-- l.count(x), items of any depth -/
def rCountD (K : PySem.W.Frag) : V → List V → Hp → VK → Prop := fun x xs H Q => ∃ (a : Addr) (y : V) (d : PyData) (ds : List PyData), x = V.ref a ∧ xs = [y] ∧ Dp K H (V.ref a) (.list ds) ∧ Dp K H y d ∧
  SeqAt.shaped (.list ds) = true ∧ SeqAt.shaped d = true ∧ Q (.int ((ds.countP fun z => PyData.eqv z d : Nat) : Int)) H
theorem mt_countD (hu : X.A.units + 65 < cLine) : MtR X "list.count" (rCountD X.K) := by
  intro pins s σ H x xs v us Q I rx rxs h
  obtain ⟨a, y, d, ds, rfl, rfl, hl, hy, sl, sd, q⟩ := h
  cases rx
  cases rxs with
  | cons ry rt =>
    rename_i uy ut
    cases rt
    obtain ⟨bs, r1⟩ := Dp.reads I d y uy hy ry
    have hxs : PyData.canLayAll0 ds = true := SeqAt.canLay_of_shaped sl
    have hroom : X.A.units + 1 + min (PyData.depthAll ds) d.depth < cLine := room_in_shaped sd hu
    cases hl with
    | lst hs ha =>
      obtain ⟨its, rv, ⟨⟨cls, dd, data, sls⟩, n, ho, hc, hdn, hdt⟩, hlen⟩ := I.list hs
      simp only at hc hdt
      subst hc hdt
      obtain ⟨as, h4⟩ := Dp.readsAll I ds _ its ha rv
      have hmap : its.map (SeqAt.readOf s.heap) = ds := SeqAt.readsAll_map ds its as hxs h4
      refine call_meets PySem.F.slot_list_count ⟨_, ho, rfl⟩ PySem.F.entry_list_count (PySem.F.args_list_count_2 _ _)
        (SeqAt.list_countAt a its.toArray n dd sls uy (fun u => PyData.eqv (SeqAt.readOf s.heap u) d)) ⟨ho, SeqAt.items_eqAt (vs := its.toArray) (show ReadsAll s.heap its.toArray.toList ds as from h4) r1 hxs (SeqAt.canLay_of_shaped sd) hroom, ?_⟩
      refine ⟨.int _, H, I.tok _, ⟨_, rfl⟩, ?_⟩
      rw [show its.toArray.toList.countP (fun u => PyData.eqv (SeqAt.readOf s.heap u) d) = ds.countP fun z => PyData.eqv z d from by rw [← hmap, List.countP_map]; rfl]
      exact q
end
/-- list(range(i, j, c)) -/
def rgCV (i c : Int) (n : Nat) : List V := (List.range n).map fun m => V.int (i + (m : Nat) * c)
theorem vals_rgC {a c : Int} {n : Nat} {acc : Array Value} (h : ItemsOf (fun i v => ∃ t, v = .int (a + i * c) t) acc n) : Vals (rgCV a c n) acc.toList := by
  have e : acc.toList.length = n := by rw [Array.length_toList]; exact h.1
  unfold rgCV
  rw [← e]
  refine vals_of_get acc.toList _ fun j u hj => ?_
  obtain ⟨t, rfl⟩ := h.2 j u (by rw [← hj, Array.getElem?_toList])
  exact ⟨t, rfl⟩
section
variable {X : Cx}
def tLstRg3 (ta : TA) : TE := fun σ H Q => ta σ H fun vs H1 => ∃ (i j c : Int) (n : Nat), vs = [.int i, .int j, .int c] ∧ RgC i j c n ∧ (n ≤ 2 ^ 24 ∧ ∀ q, H1 q = none → Q (.ref q) (upd H1 q (.lst (rgCV i c n))))
theorem prg_3 {a b c : Expr} {ta : TA} {p pos : Pos} (hg : Gl X "range") (hm : X.mg "range" = none) (ha : PA X [a, b, c] ta)
    (hs : starEach [a, b, c] X.env = (false, eval a X.env) :: starEach [b, c] X.env := by rfl) (hpl : (backTo pos (starEach [b, c] X.env)).any (·.1) = false := by rfl)
    (pins : List (Addr × Obj)) (s : Shared) (σ : St) (H : Hp) (Q : Int → Int → Nat → Hp → Prop) (I : Inv X pins σ H s) (h : ta σ H fun vs H1 => ∃ (i j c : Int) (n : Nat), vs = [.int i, .int j, .int c] ∧ RgC i j c n ∧ Q i c n H1) :
    wpAny (model X.prog X.w) X.A (eval (.Call (.Name "range" p) [a, b, c] [] pos) X.env) (fun x s' => ∃ r i j c n t u v H', x = .ref r ∧ IsRange s'.heap r i j c t u v ∧ RgC i j c n ∧ Inv X pins σ H' s' ∧ Q i c n H') X.xe s := by
  refine Call_ (ld_blt I hg hm boot_range (PyProof.Rows.callWith_type1 (thn (ha.run pos pins s σ H _ I h) fun us s1 ⟨vs, H1, I1, r1, q1⟩ => ?_) hs hpl))
  obtain ⟨i, j, k, n, e, hr, q⟩ := q1
  subst e
  cases r1 with
  | cons r rr =>
    cases rr with
    | cons r' rr =>
      cases rr with
      | cons r'' rr =>
        cases rr
        obtain ⟨t, rfl⟩ := r
        obtain ⟨t', rfl⟩ := r'
        obtain ⟨t'', rfl⟩ := r''
        exact call_range_3 hr.1 ⟨_, i, j, k, n, _, _, _, H1, rfl, IsRange.new _ _ _ _ _ _ _, hr, I1.kept fun b u e => Heap.get?_push_of_some _ e, q⟩ (.inl (PyProof.noPylong_small hr.2.1))
theorem pe_listRg3 {a b c : Expr} {ta : TA} {p p2 pos pa : Pos} (hc : X.calm = true) (hg : Gl X "list") (hm : X.mg "list" = none) (hg2 : Gl X "range") (hm2 : X.mg "range" = none) (ha : PA X [a, b, c] ta)
    (hs : starEach [a, b, c] X.env = (false, eval a X.env) :: starEach [b, c] X.env := by rfl) (hpl : (backTo pa (starEach [b, c] X.env)).any (·.1) = false := by rfl)
    (na2 : starEach [.Call (.Name "range" p2) [a, b, c] [] pa] X.env = (false, eval (.Call (.Name "range" p2) [a, b, c] [] pa) X.env) :: starEach [] X.env := by rfl) (hp2 : (backTo pos (starEach [] X.env)).any (·.1) = false := by rfl) :
    PE X (.Call (.Name "list" p) [.Call (.Name "range" p2) [a, b, c] [] pa] [] pos) (tLstRg3 ta) := by
  refine ⟨fun pins s σ H Q I h => ?_⟩
  refine Call_ (ld_blt I hg hm boot_list (PyProof.Rows.callWith_type1 (args_cons (thn (prg_3 hg2 hm2 ha hs hpl pins s σ H (fun i c n H1 => n ≤ 2 ^ 24 ∧ ∀ q, H1 q = none → Q (.ref q) (upd H1 q (.lst (rgCV i c n)))) I ?_) fun x s1 ⟨r, i, j, k, n, t, u, v, H1, ex, hr, ok, I1, z, q⟩ => args_nil ?_) na2) na2 hp2))
  · exact h
  · subst ex
    refine call_list_range (n := n) (I1.ok.hd hc) hr ok.2.2.1 ok.2.2.2 z fun h' tk acc c' hk e' hi => ?_
    refine ⟨.ref s1.heap.objs.size, upd H1 s1.heap.objs.size (.lst (rgCV i k n)), I1.laid hk (Nat.le_refl _) (show ObjOk X.prog X.w _ _ _ (.lst (rgCV i k n)) from ⟨?_, acc.toList, c', vals_rgC hi, ?_⟩), rfl, q _ (I1.hok.fresh (Nat.le_refl _))⟩
    · show ((List.range n).map _).length ≤ _
      rw [List.length_map, List.length_range, sizeLine_eq]; omega
    · rw [Array.toArray_toList]; exact e'
end
end L2
namespace M
open PySem PySem.Spec PyProof PyProof.Rows L2
section
variable {X : Cx} {pins : List (Addr × Obj)} {σ : L2.St} {H : Hp} {s : Shared} {a : Addr}
/-- d.setdefault(k, x) -/
theorem n_setd {A : Around} {E : Value → Shared → Prop} {xs : List (NestedKey × Addr × V)} {k : NestedKey} {b : Addr} {d : V} {r : Value} {Q : Value → Shared → Prop} (hu : A.units + 64 < cLine) (I : Inv X pins σ H s) (e : H a = some (nob a xs)) (hk : ∀ x ∈ xs, RV X.K H (kD x.1) (.ref x.2.1))
    (rk : RV X.K H (kD k) (.ref b)) (pk : plainK k = true) (dk : k.depth ≤ 8) (rv : RelV d r) (z : xs.length < sizeLine)
    (h1 : ∀ v, valV (vw xs) k = some v → ∀ w' s', Inv X pins σ H s' → RelV v w' → Q w' s')
    (h2 : valV (vw xs) k = none → ∀ s', Inv X pins σ (upd H a (nob a (putN xs k b d))) s' → Q r s') : wpAny (model X.prog X.w) A (call (.builtin "dict.setdefault") [.ref a, .ref b, r]) Q E s := by
  obtain ⟨ys, pr, dd, z', hs, pks⟩ := nob_keyed I (.inl e) hk
  have hl : ys.length = xs.length := (Paired.length pr).symm
  have r0 := np_val pr k
  refine call_setdefault_heap (knd := nestedKind X.prog X.w) (hsz := by rw [hl]; exact z') (roomN hu) ⟨nested_is I rk rfl, dk⟩ hs dd (fun p hp => ?_) fun hn h' dd' hs' => ?_
  · rw [hp] at r0
    cases hv : valV (vw xs) k with
    | none => rw [hv] at r0; exact r0.elim
    | some v => rw [hv] at r0; exact h1 v hv _ _ (I.tok _) r0
  · rw [hn] at r0
    cases hv : valV (vw xs) k with
    | some v => rw [hv] at r0; exact r0.elim
    | none =>
      refine h2 hv _ ?_
      obtain ⟨q, _, _, hq, _⟩ := id dd'
      refine d_write I (by rw [e]; exact True.intro) hs' ⟨q, hq⟩ (nob_ok (desc_of (Nat.le_trans putN_len z) hs (fun x hx => ?_) (np_put pr k b rv) dd'))
      rcases mem_putN hx with ⟨y, hy, e1, _⟩ | ⟨e1, _⟩
      · rw [← e1]; exact pks y hy
      · rw [e1]; exact ⟨pk, dk⟩
end
def tSetdN (K : PySem.W.Frag) (td ty tx : TE) : TE := fun σ H Q => td σ H fun x H1 => ∃ a, x = .ref a ∧ (∃ xs, RdN H1 a xs) ∧ ty σ H1 fun y H2 => tx σ H2 fun z H3 => ∃ b xs k, y = .ref b ∧ H3 a = some (nob a xs) ∧ (∀ x ∈ xs, RV K H3 (kD x.1) (.ref x.2.1)) ∧ RV K H3 (kD k) (.ref b) ∧ plainK k = true ∧ k.depth ≤ 8 ∧ xs.length < sizeLine ∧
  (∀ v, valV (vw xs) k = some v → Q v H3) ∧ (valV (vw xs) k = none → Q z (upd H3 a (nob a (putN xs k b z))))
section
variable {X : Cx} {o e f : Expr} {apos cpos : Pos} {td ty tx : TE}
theorem pe_setdN (hu : X.A.units + 64 < cLine) (ho : PE X o td) (he : PE X e ty) (hf : PE X f tx) (m : M2 X o "setdefault" apos e f cpos) : PE X (.Call (.Attribute o "setdefault" apos) [e, f] [] cpos) (tSetdN X.K td ty tx) := by
  refine ⟨fun pins s σ H Q I h => ?_⟩
  refine wpAny_Call_method m.base m.few m.line PySem.F.plainAttrs_dict PySem.F.slot_dict_setdefault PySem.F.type_dict_setdefault (thn (ho.run pins s σ H _ I h) fun u s1 ⟨x, H1, I1, rx, a, ex, ⟨xs0, d⟩, q1⟩ => ?_)
  subst ex
  obtain rfl : u = Value.ref a := rx
  obtain ⟨t1, t2⟩ := nob_type I1 d
  refine ⟨t1, t2, ?_⟩
  rw [m.trees]
  refine Calls.callWith_builtin rfl (Calls.evalArgs_plain (Calls.spliced_cons (thn (he.run pins s1 σ H1 _ I1 q1) fun iv s2 ⟨y, H2, I2, ry, q2⟩ =>
    Calls.spliced_cons (thn (hf.run pins s2 σ H2 _ I2 q2) fun fv s3 ⟨z, H3, I3, rz, b, xs, k, ey, g, hk, rk, pk, dk, zz, qa, qb⟩ => Calls.spliced_nil ?_))))
  subst ey
  obtain rfl : iv = Value.ref b := ry
  exact n_setd hu I3 g hk rk pk dk rz zz (fun v hv w' s4 I4 rw' => ⟨v, H3, I4, rw', qa v hv⟩) fun hn s4 I4 => ⟨z, _, I4, rz, qb hn⟩
end
def mSetdN (o i f : MTE) : MTE := fun env h Q => o env h fun x h1 => ∃ a, x = .ref a ∧ (∃ kvs, isDN h1 a kvs) ∧ i env h1 fun y h2 => f env h2 fun z h3 => ∃ kvs k, h3 a = some (.dN kvs) ∧ tupK y k ∧ plainK k = true ∧ kvs.length < sizeLine ∧
  (∀ d, dG kvs k = some d → Q d h3) ∧ (dG kvs k = none → Q z (up h3 a (.dN (dPutG kvs k z))))
section
variable {X : Cx} {Hb : Hp} {o e f : Expr} {mo me mf : MTE} {apos cpos : Pos}
theorem ie_setdN (hu : X.A.units + 64 < cLine) (ho : IE X Hb o mo) (hi : IE X Hb e me) (hf : IE X Hb f mf) (m2 : M2 X o "setdefault" apos e f cpos) : IE X Hb (.Call (.Attribute o "setdefault" apos) [e, f] [] cpos) (mSetdN mo me mf) := by
  refine pe_w (pe_setdN hu ho hi hf m2) fun σ H Q ⟨env, h, Q0, re, rh, m, fi⟩ => ?_
  refine ⟨env, h, _, re, rh, m, ?_⟩
  rintro x h1 ⟨a, rfl, ⟨kvs0, en0⟩, q1⟩ vx H1 t1 r1 rx
  obtain ⟨xs0, E0, _⟩ := r1.rdN en0
  refine ⟨a, rx.ref, ⟨xs0, E0⟩, env, h1, _, re.mono t1, r1, q1, fun y h2 q2 vy H2 t2 r2 ry => ?_⟩
  refine ⟨env, h2, _, (re.mono t1).mono t2, r2, q2, ?_⟩
  rintro z h3 ⟨kvs, k, ea, tk, pk, zl, qa, qb⟩ vz H3 t3 r3 rz
  obtain ⟨xs, E, rn⟩ := r3.dN ea
  obtain ⟨b, rfl, rk⟩ := tup_ref tk (ry.mono t3)
  have hl := rkvG_len rn.kv
  rw [vw, List.length_map] at hl
  have tt := t1.trans (t2.trans t3)
  refine ⟨b, xs, k, rfl, E, rn.2.2, rk, pk, tk.2.1, by rw [← hl]; exact zl, fun v hv => ?_, fun hn => ?_⟩
  · rcases rkvG_get rn.kv (k := k) with ⟨e1, e2⟩ | ⟨d', v', e1, e2, rv⟩
    · rw [e2] at hv; cases hv
    · rw [e2] at hv; cases hv
      exact fi d' h3 (qa d' e1) _ H3 tt r3 rv
  · rcases rkvG_get rn.kv (k := k) with ⟨e1, e2⟩ | ⟨d', v', e1, e2, rv⟩
    · have t4 : TL H3 (upd H3 a (nob a (putN xs k b vz))) := .put E (fun _ z => by cases z) (fun _ _ z => by cases z)
      refine fi z _ (qb e1) vz _ (tt.trans t4) (r3.put t4 ⟨putN xs k b vz, rfl, ?_⟩) (rz.mono t4)
      have kv := (rkvG_put (k := k) rn.kv rz).mono t4
      rw [← vw_put (b := b)] at kv
      refine ⟨by rw [kv.1, vw, List.map_map]; rfl, by have := kv.2; rw [vw, List.map_map] at this; exact this, fun w hw => ?_⟩
      rcases mem_putN hw with ⟨y, hy, e1, e2⟩ | ⟨e1, e2⟩
      · rw [← e1, ← e2]; exact (rn.2.2 y hy).mono t4
      · rw [e1, e2]; exact rk.mono t4
    · rw [e2] at hn; cases hn
end
/-! ### list.insert -/
def rInsert : MRM := fun x xs h Q => match x, xs with
  | .ref a, [.int i, y] => ∃ ds, h a = some (.lst ds) ∧ ds.length < sizeLine ∧ 0 ≤ i ∧ i < 2 ^ 63 ∧ Q .non (up h a (.lst (ds.take i.toNat ++ [y] ++ ds.drop i.toNat)))
  | _, _ => False
theorem q_ins {a : Addr} {i : Int} {y : D} {h : MH} {Q : MQ} : rInsert (.ref a) [.int i, y] h Q = (∃ ds, h a = some (.lst ds) ∧ ds.length < sizeLine ∧ 0 ≤ i ∧ i < 2 ^ 63 ∧ Q .non (up h a (.lst (ds.take i.toNat ++ [y] ++ ds.drop i.toNat)))) := rfl
section
variable {X : Cx}
theorem mi_insert : MtI X "list.insert" rInsert := by
  refine ⟨_, mt_insert, fun x xs h Q0 vx vs H Q q rh rx rs f => ?_⟩
  unfold rInsert at q
  split at q
  · obtain ⟨ds, e, z, i0, i1, q⟩ := q
    obtain ⟨v, w, rfl, r1, r2⟩ := rs.two
    obtain ⟨ws, E, rt⟩ := rh.lst e
    rw [rx.ref, r1.int]
    have t : ∀ ws', TL H (upd H _ (.lst ws')) := fun ws' => .put E (fun _ z => by cases z) (fun _ _ z => by cases z)
    exact ⟨_, ws, _, w, rfl, rfl, E, by rw [← rt.length]; exact z, i0, i1, f _ _ q _ _ (t _) (rh.put (t _) ⟨_, rfl, (((rt.take _).append (.cons r2 .nil)).append (rt.drop _)).mono (t _)⟩) rv_non⟩
  · exact q.elim
end
/-! ### lists of int lists -/
def psC (c : List Int) : PyData := .list (c.map .int)
theorem psC_lay (c : List Int) : (psC c).canLay0 = true ∧ (psC c).depth ≤ 1 := by
  have h : PyData.canLayAll0 (c.map .int) = true ∧ PyData.depthAll (c.map .int) = 0 := by
    induction c with
    | nil => exact ⟨rfl, rfl⟩
    | cons a r ih => exact ⟨by rw [List.map_cons, PyData.canLayAll0, ih.1]; rfl, by rw [List.map_cons, PyData.depthAll, ih.2]; simp [PyData.depth]⟩
  exact ⟨by rw [psC, PyData.canLay0]; exact h.1, by rw [psC, PyData.depth, h.2]; omega⟩
theorem psC_eqv (c c' : List Int) : PyData.eqv (psC c) (psC c') = decide (c = c') := by
  rw [psC, psC, PyData.eqv]
  induction c generalizing c' with
  | nil => cases c' <;> simp [PyData.eqvAll]
  | cons a r ih => cases c' with
    | nil => simp [PyData.eqvAll]
    | cons b r' => rw [List.map_cons, List.map_cons, PyData.eqvAll, ih, PyData.eqv]; by_cases e : a = b <;> simp [e]
/-- lists of ints, by their objects -/
inductive LL (h : MH) : List D → List (List Int) → Prop
  | nil : LL h [] []
  | cons {p : Addr} {c : List Int} {ds : List D} {cs : List (List Int)} : h p = some (.lst (c.map .int)) → LL h ds cs → LL h (.ref p :: ds) (c :: cs)
theorem LL.dps {h : MH} {ds : List D} {cs : List (List Int)} (l : LL h ds cs) : DPs h ds (cs.map psC) := by
  induction l with
  | nil => exact .nil
  | cons e _ ih => exact .cons (.lst e (dps_ints _)) ih
theorem LL.len {h : MH} {ds : List D} {cs : List (List Int)} (l : LL h ds cs) : ds.length = cs.length := by
  induction l with
  | nil => rfl
  | cons e _ ih => simp [ih]
theorem LL.snoc {h : MH} {ds : List D} {cs : List (List Int)} {p : Addr} {c : List Int} (l : LL h ds cs) (e : h p = some (.lst (c.map .int))) : LL h (ds ++ [.ref p]) (cs ++ [c]) := by
  induction l with
  | nil => exact .cons e .nil
  | cons e _ ih => exact .cons e ih
theorem LL.get {h : MH} {ds : List D} {cs : List (List Int)} (l : LL h ds cs) : ∀ {i : Nat} {c : List Int}, cs[i]? = some c → ∃ p, ds[i]? = some (.ref p) ∧ h p = some (.lst (c.map .int)) := by
  induction l with
  | nil => intro i c e; cases e
  | cons e _ ih => intro i c q; cases i with
    | zero => cases q; exact ⟨_, rfl, e⟩
    | succ i => exact ih q
theorem LL.mono {h h' : MH} {ds : List D} {cs : List (List Int)} (l : LL h ds cs) (k : ∀ p c, D.ref p ∈ ds → h p = some (.lst c) → h' p = some (.lst c)) : LL h' ds cs := by
  induction l with
  | nil => exact .nil
  | cons e _ ih => exact .cons (k _ _ (List.mem_cons_self ..) e) (ih fun p c m => k p c (List.mem_cons_of_mem _ m))
theorem LL.nin {h : MH} {es : List D} {cs : List (List Int)} {p : Addr} (l : LL h es cs) (e : h p = some (.lst es)) : ∀ q, D.ref q ∈ es → q ≠ p := by
  rintro q hq rfl
  have : ∀ {es cs}, LL h es cs → D.ref q ∈ es → ∃ c : List Int, h q = some (.lst (c.map .int)) := fun l => by
    induction l with
    | nil => intro z; cases z
    | cons e _ ih =>
      intro z
      rcases List.mem_cons.mp z with z | z
      · cases z; exact ⟨_, e⟩
      · exact ih z
  obtain ⟨c, e2⟩ := this l hq
  rw [e] at e2
  have e2 := MO.lst.inj (Option.some.inj e2)
  rw [e2] at hq
  obtain ⟨i, _, z⟩ := List.mem_map.mp hq
  cases z
theorem LL.fr {h h' : MH} {es : List D} {cs : List (List Int)} (l : LL h es cs) (f : Fr [] h h') : LL h' es cs := l.mono fun _ _ _ e => f.at0 e
theorem psCs_shaped (cs : List (List Int)) : SeqAt.shaped (.list (cs.map psC)) = true := by
  have h : PyData.canLayAll0 (cs.map psC) = true ∧ PyData.depthAll (cs.map psC) ≤ 1 := by
    induction cs with
    | nil => exact ⟨rfl, by rw [List.map_nil, PyData.depthAll]; omega⟩
    | cons a r ih => have := psC_lay a; exact ⟨by rw [List.map_cons, PyData.canLayAll0, ih.1, this.1]; rfl, by rw [List.map_cons, PyData.depthAll]; omega⟩
  exact shaped_of (n := 2) (by rw [PyData.canLay0]; exact h.1) (by rw [PyData.depth]; omega) (by decide)
theorem psC_shaped (c : List Int) : SeqAt.shaped (psC c) = true := shaped_of (psC_lay c).1 (psC_lay c).2 (by decide)
def rInL (neg : Bool) : MR2 := fun x y h Q => match x, y with
  | .ref b, .ref a => ∃ ds cs c, h a = some (.lst ds) ∧ LL h ds cs ∧ h b = some (.lst (c.map .int)) ∧ Q (.bl (if neg then !decide (c ∈ cs) else decide (c ∈ cs))) h
  | _, _ => False
theorem any_psC (cs : List (List Int)) (c : List Int) : ((cs.map psC).any fun z => PyData.eqv z (psC c)) = decide (c ∈ cs) := by
  induction cs with
  | nil => rfl
  | cons a r ih => rw [List.map_cons, List.any_cons, ih, psC_eqv]; simp [eq_comm]
theorem count_psC (cs : List (List Int)) (c : List Int) : ((cs.map psC).countP fun z => PyData.eqv z (psC c)) = cs.count c := by
  rw [List.countP_map, List.count]
  refine List.countP_congr fun z _ => ?_
  show PyData.eqv (psC z) (psC c) = true ↔ _
  rw [psC_eqv]; simp
def rCountL : MRM := fun x xs h Q => match x, xs with
  | .ref a, [.ref b] => ∃ ds cs c, h a = some (.lst ds) ∧ LL h ds cs ∧ h b = some (.lst (c.map .int)) ∧ Q (.int ((cs.count c : Nat) : Int)) h
  | _, _ => False
def rIndexLL : MRM := fun x xs h Q => match x, xs with
  | .ref a, [.ref b] => ∃ ds cs c j, h a = some (.lst ds) ∧ LL h ds cs ∧ h b = some (.lst (c.map .int)) ∧ cs[j]? = some c ∧ (∀ m, m < j → cs[m]? ≠ some c) ∧ Q (.int ((j : Nat) : Int)) h
  | _, _ => False
theorem q_notInL {a b : Addr} {h : MH} {Q : MQ} : rInL true (.ref b) (.ref a) h Q = (∃ ds cs c, h a = some (.lst ds) ∧ LL h ds cs ∧ h b = some (.lst (c.map .int)) ∧ Q (.bl (!decide (c ∈ cs))) h) := rfl
theorem q_countL {a b : Addr} {h : MH} {Q : MQ} : rCountL (.ref a) [.ref b] h Q = (∃ ds cs c, h a = some (.lst ds) ∧ LL h ds cs ∧ h b = some (.lst (c.map .int)) ∧ Q (.int ((cs.count c : Nat) : Int)) h) := rfl
theorem q_indexLL {a b : Addr} {h : MH} {Q : MQ} : rIndexLL (.ref a) [.ref b] h Q = (∃ ds cs c j, h a = some (.lst ds) ∧ LL h ds cs ∧ h b = some (.lst (c.map .int)) ∧ cs[j]? = some c ∧ (∀ m, m < j → cs[m]? ≠ some c) ∧ Q (.int ((j : Nat) : Int)) h) := rfl
section
variable {X : Cx}
theorem om_notInL (hu : X.A.units + 65 < cLine) : OpM X (compareOp .NotIn) (rInL true) := by
  refine ⟨_, op_notInD hu, fun x y h Q0 vx vy H Q q rh rx ry f => ?_⟩
  unfold rInL at q
  split at q
  · obtain ⟨ds, cs, c, e, l, eb, q⟩ := q
    refine ⟨psC c, cs.map psC, (DP.lst eb (dps_ints c)).dp rh rx, (DP.lst e l.dps).dp rh ry, psC_shaped c, psCs_shaped cs, ?_⟩
    rw [any_psC]
    exact fin_at f q rh rv_bl
  · exact q.elim
theorem mi_countL (hu : X.A.units + 65 < cLine) : MtI X "list.count" rCountL := by
  refine ⟨_, mt_countD hu, fun x xs h Q0 vx vs H Q q rh rx rs f => ?_⟩
  unfold rCountL at q
  split at q
  · obtain ⟨ds, cs, c, e, l, eb, q⟩ := q
    obtain ⟨v, rfl, ry⟩ := rs.one
    have d1 := (DP.lst e l.dps).dp rh rx
    rw [rx.ref] at d1 ⊢
    refine ⟨_, v, psC c, cs.map psC, rfl, rfl, d1, (DP.lst eb (dps_ints c)).dp rh ry, psCs_shaped cs, psC_shaped c, ?_⟩
    rw [count_psC]
    exact fin_at f q rh rv_int
  · exact q.elim
theorem mi_indexLL (hu : X.A.units + 65 < cLine) : MtI X "list.index" rIndexLL := by
  refine ⟨_, mt_indexD hu, fun x xs h Q0 vx vs H Q q rh rx rs f => ?_⟩
  unfold rIndexLL at q
  split at q
  · obtain ⟨ds, cs, c, j, e, l, eb, ej, nj, q⟩ := q
    obtain ⟨v, rfl, ry⟩ := rs.one
    have d1 := (DP.lst e l.dps).dp rh rx
    rw [rx.ref] at d1 ⊢
    refine ⟨_, v, psC c, cs.map psC, j, psC c, rfl, rfl, d1, (DP.lst eb (dps_ints c)).dp rh ry, psCs_shaped cs, psC_shaped c, by rw [List.getElem?_map, ej]; rfl, by rw [psC_eqv]; simp, fun m z hm hz => ?_, fin_at f q rh rv_int⟩
    rw [List.getElem?_map] at hz
    obtain ⟨c', e1, rfl⟩ := Option.map_eq_some_iff.mp hz
    rw [psC_eqv]
    exact decide_eq_false fun z => nj m hm (by rw [e1, z])
  · exact q.elim
end
/-! ### list(range(a, b, c)) -/
def rgIC (i c : Int) (n : Nat) : List Int := (List.range n).map fun m => i + (m : Nat) * c
def mLstR3 (t : MTA) : MTE := fun env h Q => t env h fun xs h1 => ∃ i j c n, xs = [.int i, .int j, .int c] ∧ RgC i j c n ∧ n ≤ 2 ^ 24 ∧ ∀ p, h1 p = none → Q (.ref p) (up h1 p (.lst ((rgIC i c n).map .int)))
section
variable {X : Cx} {Hb : Hp} {a b c : Expr} {ms : MTA} {pos p p2 pa : Pos}
theorem ie_lstR3 (hm : X.mg "list" = none) (hr : X.mg "range" = none) (ha : IA X Hb [a, b, c] ms) (hc : X.calm = true := by rfl) (hg : Gl X "list" := by rfl) (hg2 : Gl X "range" := by rfl)
    (hs : starEach [a, b, c] X.env = (false, eval a X.env) :: starEach [b, c] X.env := by rfl) (hpl : (backTo pa (starEach [b, c] X.env)).any (·.1) = false := by rfl)
    (na2 : starEach [.Call (.Name "range" p2) [a, b, c] [] pa] X.env = (false, eval (.Call (.Name "range" p2) [a, b, c] [] pa) X.env) :: starEach [] X.env := by rfl) (hp2 : (backTo pos (starEach [] X.env)).any (·.1) = false := by rfl) :
    IE X Hb (.Call (.Name "list" p) [.Call (.Name "range" p2) [a, b, c] [] pa] [] pos) (mLstR3 ms) := by
  refine pe_w (pe_listRg3 hc hg hm hg2 hr ha hs hpl na2 hp2) fun σ H Q ⟨env, h, Q0, re, rh, m, f⟩ => ?_
  refine ⟨env, h, _, re, rh, m, ?_⟩
  rintro xs h1 ⟨i, j, c, n, rfl, ok, z, q⟩ vs H1 t1 r1 rs
  obtain ⟨v1, ws, rfl, ra, rs⟩ := rs.inv
  obtain ⟨v2, v3, rfl, rb, rc⟩ := rs.two
  rw [ra.int, rb.int, rc.int]
  refine ⟨i, j, c, n, rfl, ok, z, fun p np => ?_⟩
  rw [show rgCV i c n = (rgIC i c n).map V.int by unfold rgCV rgIC; rw [List.map_map]; rfl]
  exact f _ _ (q p (r1.free np)) _ _ (t1.trans (.new np)) (r1.new np (ro_lst .of_ints)) rv_ref
end
end M

namespace L2
open PySem PySem.Spec PyProof.Rows
/-- the values of a dict, locked from here on -/
def iValsL (td : TE) : TI := fun σ H R => td σ H fun x H1 => ∃ d kvs, x = .ref d ∧ ((H1 d = some (.dK kvs) ∧ ∀ o, R (Itd d o kvs) (upd H1 d (.frz o (.dK kvs)))) ∨ ∃ o, H1 d = some (.frz o (.dK kvs)) ∧ R (Itd d o kvs) H1)
section
variable {X : Cx} {tg e : Expr} {td : TE} {apos cpos : Pos}
theorem pi_valuesL (he : PE X e td) (hbase : attributeBase e "values" X.env (eval e X.env) = eval e X.env := by rfl) (hline : (apos.endLine == cpos.line) = true := by rfl) : PI X tg (.Call (.Attribute e "values" apos) [] [] cpos) (iValsL td) := by
  refine ⟨fun pins s σ H R I h => ?_⟩
  refine wpAny_Call_method (T := "dict") (id := "dict.values") hbase rfl hline F.plainAttrs_dict F.slot_dict_values F.type_dict_values (thn (he.run pins s σ H _ I h) fun u s1 ⟨x, H0, I0, rx, d, kvs, ex, q0⟩ => ?_)
  subst ex
  obtain rfl : u = Value.ref d := rx
  obtain ⟨o, H1, I1, hd, q⟩ : ∃ o H1, Inv X pins σ H1 s1 ∧ H1 d = some (.frz o (.dK kvs)) ∧ R (Itd d o kvs) H1 := by
    rcases q0 with ⟨hd, q⟩ | ⟨o, hd, q⟩
    · obtain ⟨od, I1⟩ := I0.lock hd True.intro
      exact ⟨od, _, I1, upd_same, q od⟩
    · exact ⟨o, _, I0, hd, q⟩
  obtain ⟨hs, hgd, hx, es, ep, vs, hdt, hsz, kv, hm⟩ := I1.frzK hd
  have hl : kvs.length = vs.length := Paired.length kv
  refine ⟨hm.dictOf.typeIs, hm.dictOf.mapOf.noDict, ?_⟩
  have I2 : Inv X pins σ H1 { s1 with heap := s1.heap.push { cls := .type "dict_values", data := .fields #[.ref d] } } := I1.kept (t' := s1.toks) fun b ob q => Heap.get?_push_of_some _ q
  have fin : wpAny (model X.prog X.w) X.A (pyIter (.ref s1.heap.objs.size)) (PIE X pins σ tg R) X.xe { s1 with heap := s1.heap.push { cls := .type "dict_values", data := .fields #[.ref d] } } := by
    refine wpAny_pyIter_values (d := d) (knd := mixKind X.prog X.w) ⟨_, Heap.get?_push_size _ rfl, rfl, rfl⟩ (hm.push _) (pi_one (tk := s1.toks) I2 _ (turn_vals _ hdt) ⟨_, Heap.get?_push_size _ rfl, rfl, ?_⟩ q)
    rw [hl] <;> rfl
  show wpAny _ _ (callWith cpos (.builtin "dict.values") [.ref d] [] []) _ X.xe s1
  exact method_meetsIn F.slot_dict_values F.entry_dict_values rfl (PySem.evalArgs_none ⟨rfl, hm.dictOf.typeIs, F.args_dict_values_1 _, _, meets_dict_values (mixKind X.prog X.w) d hs, ⟨vs, hm.dictOf⟩, fin⟩)
end
end L2
namespace M
open PySem PySem.Spec PyProof PyProof.Rows L2
/-! ### d.setdefault(k, x), keys ints and texts -/
def mSetdK (o i f : MTE) : MTE := fun env h Q => o env h fun x h1 => ∃ a, x = .ref a ∧ (∃ kvs, h1 a = some (.dK kvs)) ∧ i env h1 fun y h2 => f env h2 fun z h3 => ∃ kvs k, h3 a = some (.dK kvs) ∧ y = keyD k ∧ kvs.length < sizeLine ∧
  (∀ d, dV kvs k = some d → Q d h3) ∧ (dV kvs k = none → Q z (up h3 a (.dK (dPutK kvs k z))))
section
variable {X : Cx} {Hb : Hp} {o e f : Expr} {mo me mf : MTE} {apos cpos : Pos}
theorem ie_setdK (ho : IE X Hb o mo) (hi : IE X Hb e me) (hf : IE X Hb f mf) (m2 : M2 X o "setdefault" apos e f cpos) : IE X Hb (.Call (.Attribute o "setdefault" apos) [e, f] [] cpos) (mSetdK mo me mf) := by
  refine pe_w (pe_dsetd ho hi hf m2) fun σ H Q ⟨env, h, Q0, re, rh, m, fi⟩ => ?_
  refine ⟨env, h, _, re, rh, m, ?_⟩
  rintro x h1 ⟨a, rfl, ⟨kvs0, en0⟩, q1⟩ vx H1 t1 r1 rx
  obtain ⟨xs0, E0, _⟩ := r1.dK en0
  refine ⟨a, rx.ref, .inl ⟨xs0, .of E0⟩, env, h1, _, re.mono t1, r1, q1, fun y h2 q2 vy H2 t2 r2 ry => ?_⟩
  refine ⟨env, h2, _, (re.mono t1).mono t2, r2, q2, ?_⟩
  rintro z h3 ⟨kvs, k, ea, rfl, zl, qa, qb⟩ vz H3 t3 r3 rz
  obtain ⟨ws, E, rn⟩ := r3.dK ea
  have hl := rkvG_len rn
  have tt := t1.trans (t2.trans t3)
  refine ⟨ws, k, E, keyD_rv (ry.mono t3), by rw [← hl]; exact zl, fun v hv => ?_, fun hn => ?_⟩
  · rcases rkvG_get rn (k := k) with ⟨e1, e2⟩ | ⟨d', v', e1, e2, rv⟩
    · rw [e2] at hv; cases hv
    · rw [e2] at hv; cases hv
      exact fi d' h3 (qa d' e1) _ H3 tt r3 rv
  · rcases rkvG_get rn (k := k) with ⟨e1, e2⟩ | ⟨d', v', e1, e2, rv⟩
    · have t4 : TL H3 (upd H3 a (.dK (putK ws k vz))) := .put E (fun _ z => by cases z) (fun _ _ z => by cases z)
      exact fi z _ (qb e1) vz _ (tt.trans t4) (r3.put t4 ⟨putK ws k vz, rfl, (rkvG_put (k := k) rn rz).mono t4⟩) (rz.mono t4)
    · rw [e2] at hn; cases hn
end
/-! ### d.values() -/
def srcV (d : Addr) (kvs : List (Key × D)) (ws : List (Key × V)) (od : Obj) : MSrc := ⟨kvs.length, fun i => match kvs[i]? with
  | some kv => kv.2
  | none => .non, fun h' => h' d = some (.fK kvs ws od)⟩
def mVals (td : MTE) : MTI := fun env h R => td env h fun x h1 => ∃ d kvs, x = .ref d ∧ ((h1 d = some (.dK kvs) ∧ ∀ ws od, R (srcV d kvs ws od) (up h1 d (.fK kvs ws od))) ∨ ∃ ws od, h1 d = some (.fK kvs ws od) ∧ R (srcV d kvs ws od) h1)
section
variable {X : Cx} {Hb : Hp} {tg e : Expr} {m : MTE} {apos cpos : Pos}
theorem so_V {K : PySem.W.Frag} {H : Hp} {d : Addr} {kvs : List (Key × D)} {ws : List (Key × V)} {od : Obj} (rk : RKV K H kvs ws) : SrcOk K H (srcV d kvs ws od) (Itd d od ws) where
  go := fun i h H' t r ok hi => ⟨(r.fK ok).1, by rw [← rkvG_len (r.fK ok).2]; exact hi⟩
  stop := fun h H' t r ok => ⟨(r.fK ok).1, by rw [← rkvG_len (r.fK ok).2]; exact Nat.le_refl _⟩
  yld := fun i h H' t r ok hi x H2 y => by
    obtain ⟨rfl, k, e1⟩ := y
    refine ⟨.refl _, r, ?_⟩
    have hi : i < kvs.length := hi
    have rs := rk.2
    obtain ⟨v, e2, rv⟩ := rs.get (i := i) (d := kvs[i].2) (by rw [List.getElem?_map, List.getElem?_eq_getElem hi]; rfl)
    rw [List.getElem?_map, e1] at e2
    cases e2
    show RV K _ (match kvs[i]? with
      | some kv => kv.2
      | none => .non) _
    rw [List.getElem?_eq_getElem hi]
    exact rv.mono t
theorem ii_vals (he : IE X Hb e m) (hbase : attributeBase e "values" X.env (eval e X.env) = eval e X.env := by rfl) (hline : (apos.endLine == cpos.line) = true := by rfl) : II X Hb tg (.Call (.Attribute e "values" apos) [] [] cpos) (mVals m) := by
  refine pi_w (pi_valuesL he hbase hline) fun σ H R ⟨env, h, Q0, re, rh, mm, f⟩ => ?_
  refine ⟨env, h, _, re, rh, mm, ?_⟩
  rintro x h1 ⟨d, kvs, rfl, q⟩ v H1 t1 r1 rx
  rcases q with ⟨ed, q⟩ | ⟨ws, od, ed, q⟩
  · obtain ⟨ws, E, rk⟩ := r1.dK ed
    refine ⟨d, ws, rx.ref, .inl ⟨E, fun od => ?_⟩⟩
    have t2 : TL H1 (upd H1 d (.frz od (.dK ws))) := .lockK E
    exact f _ _ (q ws od) _ _ (t1.trans t2) (r1.put (m := .fK kvs ws od) t2 ⟨rfl, rk.mono t2⟩) (so_V (rk.mono t2))
  · obtain ⟨E, rk⟩ := r1.fK ed
    exact ⟨d, ws, rx.ref, .inr ⟨od, E, f _ _ q _ _ t1 r1 (so_V rk)⟩⟩
end
theorem srcV_n {d : Addr} {kvs : List (Key × D)} {ws : List (Key × V)} {od : Obj} : (srcV d kvs ws od).n = kvs.length := rfl
theorem srcV_item {d : Addr} {kvs : List (Key × D)} {ws : List (Key × V)} {od : Obj} {i : Nat} (h : i < kvs.length) : (srcV d kvs ws od).item i = kvs[i].2 := by
  show (match kvs[i]? with
      | some kv => kv.2
      | none => .non) = _
  rw [List.getElem?_eq_getElem h]
end M

namespace L2
open PySem PySem.Spec PyProof.Rows
section
variable {X : Cx}
/-- t.count(x), items of any depth -/
def rTCountD (K : PySem.W.Frag) : V → List V → Hp → VK → Prop := fun x xs H Q => ∃ (a : Addr) (y : V) (d : PyData) (ds : List PyData), x = V.ref a ∧ xs = [y] ∧ Dp K H (V.ref a) (.tuple ds) ∧ Dp K H y d ∧
  SeqAt.shaped (.tuple ds) = true ∧ SeqAt.shaped d = true ∧ Q (.int ((ds.countP fun z => PyData.eqv z d : Nat) : Int)) H
theorem mt_tcountD (hu : X.A.units + 65 < cLine) : MtR X "tuple.count" (rTCountD X.K) := by
  intro pins s σ H x xs v us Q I rx rxs h
  obtain ⟨a, y, d, ds, rfl, rfl, hl, hy, sl, sd, q⟩ := h
  cases rx
  cases rxs with
  | cons ry rt =>
    rename_i uy ut
    cases rt
    obtain ⟨bs, r1⟩ := Dp.reads I d y uy hy ry
    have hxs : PyData.canLayAll0 ds = true := SeqAt.canLay_of_shaped sl
    have hroom : X.A.units + 1 + min (PyData.depthAll ds) d.depth < cLine := room_in_shaped sd hu
    cases hl with
    | tup hs ha =>
      obtain ⟨its, rv, ⟨⟨cls, dd, data, sls⟩, ho, hc, n, hdt⟩, hlen⟩ := I.tuple hs
      simp only at hc hdt
      subst hc hdt
      obtain ⟨as, h4⟩ := Dp.readsAll I ds _ its ha rv
      have hmap : its.map (SeqAt.readOf s.heap) = ds := SeqAt.readsAll_map ds its as hxs h4
      refine call_meets PySem.F.slot_tuple_count ⟨_, ho, rfl⟩ PySem.F.entry_tuple_count (PySem.F.args_tuple_count_2 _ _)
        (SeqAt.tuple_countAt a its.toArray n dd sls uy (fun u => PyData.eqv (SeqAt.readOf s.heap u) d)) ⟨ho, SeqAt.items_eqAt (vs := its.toArray) (show ReadsAll s.heap its.toArray.toList ds as from h4) r1 hxs (SeqAt.canLay_of_shaped sd) hroom, ?_⟩
      refine ⟨.int _, H, I.tok _, ⟨_, rfl⟩, ?_⟩
      rw [show its.toArray.toList.countP (fun u => PyData.eqv (SeqAt.readOf s.heap u) d) = ds.countP fun z => PyData.eqv z d from by rw [← hmap, List.countP_map]; rfl]
      exact q
end
end L2
namespace M
open PySem PySem.Spec PyProof PyProof.Rows L2
/-- t.count(x) of any data: exact of ints -/
def rCountA : MRM := fun x xs h Q => match x, xs with
  | .tup ds, [y] => (∃ p ps, DP h y p ∧ DPs h ds ps ∧ SeqAt.shaped (.tuple ps) = true ∧ SeqAt.shaped p = true) ∧ ∀ k : Nat, (∀ (ns : List Int) (i : Int), ds = ns.map .int → y = .int i → k = ns.count i) → Q (.int (k : Nat)) h
  | _, _ => False
theorem dps_ints_inv {h : MH} : ∀ {ns : List Int} {ps : List PyData}, DPs h (ns.map .int) ps → ps = ns.map .int
  | [], _, .nil => rfl
  | n :: ns, _, .cons (.int _) r => by rw [dps_ints_inv r]; rfl
theorem mi_countA {X : Cx} (hu : X.A.units + 65 < cLine) : MtI X "tuple.count" rCountA := by
  refine ⟨_, mt_tcountD hu, fun x xs h Q0 vx vs H Q q rh rx rs f => ?_⟩
  unfold rCountA at q
  split at q
  · obtain ⟨⟨p, ps, d1, d2, s1, s2⟩, q⟩ := q
    obtain ⟨v, rfl, ry⟩ := rs.one
    obtain ⟨a, us, rfl, ta, _⟩ := id rx.tup
    refine ⟨_, v, p, ps, rfl, rfl, (DP.tup d2).dp rh rx, d1.dp rh ry, s1, s2, fin_at f (q _ fun ns i e1 e2 => ?_) rh rv_int⟩
    subst e1 e2
    rw [dps_ints_inv d2]
    cases d1
    rw [List.countP_map, List.count]
    refine List.countP_congr fun z _ => ?_
    rw [Function.comp_apply, PyData.eqv]
  · exact q.elim
theorem q_countA {ds : List D} {y : D} {h : MH} {Q : MQ} : rCountA (.tup ds) [y] h Q = ((∃ p ps, DP h y p ∧ DPs h ds ps ∧ SeqAt.shaped (.tuple ps) = true ∧ SeqAt.shaped p = true) ∧ ∀ k : Nat, (∀ (ns : List Int) (i : Int), ds = ns.map .int → y = .int i → k = ns.count i) → Q (.int (k : Nat)) h) := rfl
end M

namespace M
open PySem PySem.Spec PyProof PyProof.Rows L2
/-! ### k in d, k not in d, keys nested -/
section
variable {X : Cx}
def rInNV (K : PySem.W.Frag) (neg : Bool) : L2.R2 := fun x y H Q => ∃ a b xs k, x = .ref b ∧ y = .ref a ∧ RdN H a xs ∧ (∀ x ∈ xs, RV K H (kD x.1) (.ref x.2.1)) ∧ RV K H (kD k) (.ref b) ∧ k.depth ≤ 8 ∧ Q (.bl (if neg then !(valV (vw xs) k).isSome else (valV (vw xs) k).isSome)) H
theorem op_inN (hu : X.A.units + 64 < cLine) : OpR X (compareOp .In) (rInNV X.K false) := by
  rintro pins s σ H x y v u Q I rx ry ⟨a, b, xs, k, rfl, rfl, g, hk, rk, dk, q⟩
  obtain rfl : v = Value.ref b := rx
  obtain rfl : u = Value.ref a := ry
  obtain ⟨ys, pr, dd, z, hs, pk⟩ := nob_keyed I g hk
  refine wpAny_in_heap (knd := nestedKind X.prog X.w) (roomN hu) ⟨nested_is I rk rfl, dk⟩ hs dd ?_
  have e := (np_val pr k).isSome_eq
  rw [Option.isSome_map] at e
  rw [← e]
  exact ⟨.bl _, H, I.tok _, rfl, q⟩
theorem op_notInN (hu : X.A.units + 64 < cLine) : OpR X (compareOp .NotIn) (rInNV X.K true) := by
  rintro pins s σ H x y v u Q I rx ry ⟨a, b, xs, k, rfl, rfl, g, hk, rk, dk, q⟩
  obtain rfl : v = Value.ref b := rx
  obtain rfl : u = Value.ref a := ry
  obtain ⟨ys, pr, dd, z, hs, pk⟩ := nob_keyed I g hk
  refine wpAny_notIn_heap (knd := nestedKind X.prog X.w) (roomN hu) ⟨nested_is I rk rfl, dk⟩ hs dd ?_
  have e := (np_val pr k).isSome_eq
  rw [Option.isSome_map] at e
  rw [← e]
  exact ⟨.bl _, H, I.tok _, rfl, q⟩
def rInN (neg : Bool) : MR2 := fun x y h Q => match y with
  | .ref a => ∃ kvs k, isDN h a kvs ∧ tupK x k ∧ Q (.bl (if neg then !(dG kvs k).isSome else (dG kvs k).isSome)) h
  | _ => False
theorem in_some {K : PySem.W.Frag} {H : Hp} {kvs : List (NestedKey × D)} {ws : List (NestedKey × V)} (r : RKV K H kvs ws) (k : NestedKey) : (valV ws k).isSome = (dG kvs k).isSome := by
  rcases rkvG_get r (k := k) with ⟨e1, e2⟩ | ⟨d', v, e1, e2, _⟩
  · rw [e1, e2]; rfl
  · rw [e1, e2]; rfl
theorem om_inN (hu : X.A.units + 64 < cLine) : OpM X (compareOp .In) (rInN false) := by
  refine ⟨_, op_inN hu, fun x y h Q0 vx vy H Q q rh rx ry f => ?_⟩
  cases y <;> first | exact q.elim | skip
  rename_i a
  obtain ⟨kvs, k, en, tk, q⟩ := q
  obtain ⟨xs, E, rn⟩ := rh.rdN en
  obtain ⟨b, rfl, rk⟩ := tup_ref tk rx
  refine ⟨a, b, xs, k, rfl, ry.ref, E, rn.2.2, rk, tk.2.1, ?_⟩
  rw [in_some rn.kv]
  exact fin_at f q rh rv_bl
theorem om_notInN (hu : X.A.units + 64 < cLine) : OpM X (compareOp .NotIn) (rInN true) := by
  refine ⟨_, op_notInN hu, fun x y h Q0 vx vy H Q q rh rx ry f => ?_⟩
  cases y <;> first | exact q.elim | skip
  rename_i a
  obtain ⟨kvs, k, en, tk, q⟩ := q
  obtain ⟨xs, E, rn⟩ := rh.rdN en
  obtain ⟨b, rfl, rk⟩ := tup_ref tk rx
  refine ⟨a, b, xs, k, rfl, ry.ref, E, rn.2.2, rk, tk.2.1, ?_⟩
  rw [in_some rn.kv]
  exact fin_at f q rh rv_bl
end
theorem q_inN {x : D} {a : Addr} {h : MH} {Q : MQ} : rInN false x (.ref a) h Q = (∃ kvs k, isDN h a kvs ∧ tupK x k ∧ Q (.bl (dG kvs k).isSome) h) := rfl
theorem q_ninN {x : D} {a : Addr} {h : MH} {Q : MQ} : rInN true x (.ref a) h Q = (∃ kvs k, isDN h a kvs ∧ tupK x k ∧ Q (.bl (!(dG kvs k).isSome)) h) := rfl
end M

namespace Fl
/-! ### floors: plain -/
def nm (ring : List Int) (x : Int) : Int := ring.getD (x % (ring.length : Int)).toNat 0
def stp (l r : Int) : List Int := M.rgI (-l) (r + 1)
def win (ring : List Int) (h l r : Int) : List Int := (stp l r).map fun s => nm ring (h + s)
def insU (x : Int) : List Int → List Int
  | [] => [x]
  | y :: r => if x < y then x :: y :: r else if x = y then y :: r else y :: insU x r
def srtU (N : List Int) : List Int := N.foldr insU []
def oa (N : List Int) : List Int := N.map fun x => ((srtU N).idxOf x : Int)
def uqs {α : Type} [DecidableEq α] (a : List α) (k : α) : List α := if k ∈ a then a else a ++ [k]
def uq {α : Type} [DecidableEq α] (ks : List α) : List α := ks.foldl uqs []
def nb {α : Type} [DecidableEq α] (ks : List α) : List Int := ks.map fun k => ((uq ks).idxOf k : Int)
def kys (ring : List Int) (r : Nat) : List (List Int) := (List.range ring.length).map fun h => oa (win ring (h : Nat) r r)
def row (ring : List Int) (r : Nat) : List Int := nb (kys ring r)
def mn : List Int → Int
  | [] => 0
  | [x] => x
  | x :: y :: r => min x (mn (y :: r))
def fw (xs : List Int) : Int := mn (xs.map fun x => (xs.count x : Int))
def FlR (ring : List Int) (R : Nat) : Prop := (∀ r, r < R → 1 < fw (row ring r)) ∧ fw (row ring R) ≤ 1
def flo (ring : List Int) (R : Nat) : Int := ((List.range R).map fun r => fw (row ring r)).sum
theorem mn_le : ∀ {xs : List Int} {x : Int}, x ∈ xs → mn xs ≤ x
  | [y], x, h => by rw [List.mem_singleton.mp h]; exact Int.le_refl _
  | y :: z :: r, x, h => by
    unfold mn
    rcases List.mem_cons.mp h with rfl | h
    · omega
    · have := mn_le h; omega
theorem mn_mem : ∀ {xs : List Int}, xs ≠ [] → mn xs ∈ xs
  | [], h => absurd rfl h
  | [y], _ => List.mem_singleton.mpr rfl
  | y :: z :: r, _ => by
    have := mn_mem (xs := z :: r) (by simp)
    unfold mn
    rcases Int.le_total y (mn (z :: r)) with c | c
    · rw [Int.min_eq_left c]; exact List.mem_cons_self ..
    · rw [Int.min_eq_right c]; exact List.mem_cons_of_mem _ this
theorem mn_is {xs : List Int} {m : Int} (h1 : m ∈ xs) (h2 : ∀ y ∈ xs, m ≤ y) : m = mn xs := by
  have a := mn_le h1
  have b := h2 _ (mn_mem (List.ne_nil_of_mem h1))
  omega
/-! sorted, each once -/
theorem insU_mem {x z : Int} : ∀ {r : List Int}, z ∈ insU x r ↔ z = x ∨ z ∈ r
  | [] => by simp [insU]
  | y :: r => by
    unfold insU
    split
    · simp
    · split
      · rename_i e; subst e; simp
      · rw [List.mem_cons, insU_mem (r := r), List.mem_cons]
        constructor <;> rintro (h | h | h) <;> simp [h]
theorem insU_asc {x : Int} : ∀ {r : List Int}, r.Pairwise (· < ·) → (insU x r).Pairwise (· < ·)
  | [], _ => by simp [insU]
  | y :: r, p => by
    obtain ⟨p1, p2⟩ := List.pairwise_cons.mp p
    unfold insU
    split
    · rename_i c
      refine List.pairwise_cons.mpr ⟨fun z hz => ?_, p⟩
      rcases List.mem_cons.mp hz with rfl | hz
      · exact c
      · have := p1 z hz; omega
    · split
      · exact p
      · rename_i c d
        refine List.pairwise_cons.mpr ⟨fun z hz => ?_, insU_asc p2⟩
        rcases insU_mem.mp hz with rfl | hz
        · omega
        · exact p1 z hz
theorem srtU_asc (N : List Int) : (srtU N).Pairwise (· < ·) := by
  induction N with
  | nil => exact .nil
  | cons a r ih => exact insU_asc ih
theorem srtU_mem {N : List Int} {z : Int} : z ∈ srtU N ↔ z ∈ N := by
  induction N with
  | nil => rfl
  | cons a r ih => rw [show srtU (a :: r) = insU a (srtU r) from rfl, insU_mem, ih, List.mem_cons]
theorem asc_uniq : ∀ {xs ys : List Int}, xs.Pairwise (· < ·) → ys.Pairwise (· < ·) → (∀ z, z ∈ xs ↔ z ∈ ys) → xs = ys := by
  intro xs ys p q h
  have nd : ∀ {zs : List Int}, zs.Pairwise (· < ·) → zs.Nodup := fun p => p.imp fun {a b} x => by omega
  refine List.Perm.eq_of_pairwise (fun a b _ _ x y => by omega) p q ?_
  exact (List.perm_ext_iff_of_nodup (nd p) (nd q)).mpr h
theorem srtU_is {N S : List Int} (p : S.Pairwise (· < ·)) (m : ∀ z, z ∈ S ↔ z ∈ N) : S = srtU N := asc_uniq p (srtU_asc N) fun z => by rw [m, srtU_mem]
theorem idx_lt {S : List Int} (p : S.Pairwise (· < ·)) {a b : Int} (ha : a ∈ S) (hb : b ∈ S) : S.idxOf a < S.idxOf b ↔ a < b := by
  have la := List.idxOf_lt_length_of_mem ha
  have lb := List.idxOf_lt_length_of_mem hb
  have ea : S[S.idxOf a] = a := List.getElem_idxOf la
  have eb : S[S.idxOf b] = b := List.getElem_idxOf lb
  have P := List.pairwise_iff_getElem.mp p
  constructor
  · intro h; have := P _ _ la lb h; omega
  · intro h
    rcases Nat.lt_trichotomy (S.idxOf a) (S.idxOf b) with c | c | c
    · exact c
    · have : S[S.idxOf a] = S[S.idxOf b] := by simp only [c]
      omega
    · have := P _ _ lb la c; omega
theorem idx_map {α β : Type} [DecidableEq α] [DecidableEq β] {f : α → β} {x : α} : ∀ {S : List α}, (∀ y ∈ S, f y = f x → y = x) → (S.map f).idxOf (f x) = S.idxOf x
  | [], _ => rfl
  | y :: S, h => by
    rw [List.map_cons, List.idxOf_cons, List.idxOf_cons, idx_map fun z hz => h z (List.mem_cons_of_mem _ hz)]
    by_cases e : y = x
    · subst e; simp
    · have : ¬ f y = f x := fun z => e (h y (List.mem_cons_self ..) z)
      rw [show (f y == f x) = false from beq_eq_false_iff_ne.mpr this, show (y == x) = false from beq_eq_false_iff_ne.mpr e]
theorem oa_map {N : List Int} {f : Int → Int} (mono : ∀ x ∈ N, ∀ y ∈ N, x < y → f x < f y) : oa (N.map f) = oa N := by
  have e : srtU (N.map f) = (srtU N).map f := by
    symm
    refine srtU_is (List.pairwise_map.mpr ?_) fun z => ?_
    · refine List.Pairwise.imp_of_mem (fun {a b} ha hb x => mono a (srtU_mem.mp ha) b (srtU_mem.mp hb) x) (srtU_asc N)
    · simp only [List.mem_map, srtU_mem]
  unfold oa
  rw [e, List.map_map]
  refine List.map_congr_left fun x hx => ?_
  show (((List.map f (srtU N)).idxOf (f x) : Nat) : Int) = _
  rw [idx_map fun y hy z => ?_]
  have hy := srtU_mem.mp hy
  rcases Int.lt_trichotomy y x with c | c | c
  · have := mono y hy x hx c; omega
  · exact c
  · have := mono x hx y hy c; omega
/-- like order, place by place -/
def Pat (N M : List Int) : Prop := ∀ i j, i < N.length → j < N.length → (N.getD i 0 < N.getD j 0 ↔ M.getD i 0 < M.getD j 0)
theorem getD_lt {α : Type} {xs : List α} {i : Nat} (h : i < xs.length) (d : α) : xs.getD i d = xs[i] := by
  rw [List.getD_eq_getElem?_getD, List.getElem?_eq_getElem h]; rfl
theorem oa_of_pat {N M : List Int} (hl : N.length = M.length) (p : Pat N M) : oa N = oa M := by
  have em : M = N.map fun x => M.getD (N.idxOf x) 0 := by
    refine List.ext_getElem (by rw [List.length_map, hl]) fun k h1 h2 => ?_
    rw [List.getElem_map]
    have hk : k < N.length := by omega
    have hi := List.idxOf_lt_length_of_mem (List.getElem_mem hk)
    have e1 : N[N.idxOf N[k]] = N[k] := List.getElem_idxOf hi
    have p1 := p (N.idxOf N[k]) k hi hk
    have p2 := p k (N.idxOf N[k]) hk hi
    rw [getD_lt hi, getD_lt hk, e1, getD_lt h1] at p1 p2
    omega
  rw [em]
  refine (oa_map fun x hx y hy c => ?_).symm
  have hi := List.idxOf_lt_length_of_mem hx
  have hj := List.idxOf_lt_length_of_mem hy
  refine (p _ _ hi hj).mp ?_
  rw [getD_lt hi, getD_lt hj, List.getElem_idxOf hi, List.getElem_idxOf hj]
  exact c
theorem oa_len {N : List Int} : (oa N).length = N.length := List.length_map ..
theorem pat_of_oa {N M : List Int} (e : oa N = oa M) : Pat N M := by
  have hl : N.length = M.length := by rw [← oa_len, e, oa_len]
  intro i j hi hj
  have h1 : ∀ {K : List Int} {k : Nat} (h : k < K.length), (oa K).getD k 0 = ((srtU K).idxOf K[k] : Int) := fun {K k} h => by
    rw [getD_lt (by rw [oa_len]; exact h)]; unfold oa; rw [List.getElem_map]
  have h2 : ∀ {K : List Int} {k : Nat} (h : k < K.length), K[k] ∈ srtU K := fun h => srtU_mem.mpr (List.getElem_mem h)
  have a := idx_lt (srtU_asc N) (h2 hi) (h2 hj)
  have b := idx_lt (srtU_asc M) (h2 (k := i) (by omega)) (h2 (k := j) (by omega))
  have c1 := h1 hi
  have c2 := h1 hj
  have c3 := h1 (K := M) (k := i) (by omega)
  have c4 := h1 (K := M) (k := j) (by omega)
  rw [← e] at c3 c4
  rw [getD_lt hi, getD_lt hj, getD_lt (by omega), getD_lt (by omega)]
  omega
/-! numbered -/
theorem uqs_mem {α : Type} [DecidableEq α] {a : List α} {k z : α} : z ∈ uqs a k ↔ z ∈ a ∨ z = k := by
  unfold uqs
  split
  · rename_i h; constructor
    · exact .inl
    · rintro (h' | rfl)
      · exact h'
      · exact h
  · simp
theorem uq_snoc {α : Type} [DecidableEq α] (ks : List α) (k : α) : uq (ks ++ [k]) = uqs (uq ks) k := by
  unfold uq; rw [List.foldl_append]; rfl
theorem snocI {α : Type} {P : List α → Prop} (xs : List α) (nil : P []) (snoc : ∀ xs x, P xs → P (xs ++ [x])) : P xs := by
  have : ∀ n, ∀ xs : List α, xs.length = n → P xs := by
    intro n
    induction n with
    | zero => intro xs e; rw [List.length_eq_zero_iff.mp e]; exact nil
    | succ n ih =>
      intro xs e
      have ne : xs ≠ [] := fun z => by rw [z] at e; cases e
      rw [← List.dropLast_concat_getLast ne]
      exact snoc _ _ (ih _ (by rw [List.length_dropLast]; omega))
  exact this _ xs rfl
theorem uq_mem {α : Type} [DecidableEq α] {ks : List α} {z : α} : z ∈ uq ks ↔ z ∈ ks := by
  induction ks using snocI with
  | nil => rfl
  | snoc ks k ih => rw [uq_snoc, uqs_mem, ih]; simp
theorem uq_nodup {α : Type} [DecidableEq α] (ks : List α) : (uq ks).Nodup := by
  induction ks using snocI with
  | nil => exact List.nodup_nil
  | snoc ks k ih =>
    rw [uq_snoc]; unfold uqs
    split
    · exact ih
    · rename_i h
      exact List.nodup_append.mpr ⟨ih, by simp, fun a ha b hb => by rw [List.mem_singleton.mp hb]; exact fun z => h (z ▸ ha)⟩
theorem uq_len {α : Type} [DecidableEq α] (ks : List α) : (uq ks).length ≤ ks.length := by
  induction ks using snocI with
  | nil => exact Nat.le_refl _
  | snoc ks k ih =>
    rw [uq_snoc]; unfold uqs
    split
    · simp; omega
    · simp; omega
theorem idx_app {α : Type} [DecidableEq α] {a : List α} {k z : α} (h : z ∈ a) : (uqs a k).idxOf z = a.idxOf z := by
  unfold uqs
  split
  · rfl
  · rw [List.idxOf_append, if_pos h]
theorem idx_new {α : Type} [DecidableEq α] {a : List α} {k : α} (h : k ∉ a) : (uqs a k).idxOf k = a.length := by
  unfold uqs
  rw [if_neg h, List.idxOf_append, if_neg h]; simp
theorem nb_pat {α β : Type} [DecidableEq α] [DecidableEq β] {n : Nat} {f : Nat → α} {g : Nat → β} (p : ∀ i j, i < n → j < n → (f i = f j ↔ g i = g j)) : nb ((List.range n).map f) = nb ((List.range n).map g) := by
  have key : ∀ m, m ≤ n → (uq ((List.range m).map f)).length = (uq ((List.range m).map g)).length ∧ ∀ i, i < m → (uq ((List.range m).map f)).idxOf (f i) = (uq ((List.range m).map g)).idxOf (g i) := by
    intro m
    induction m with
    | zero => exact fun _ => ⟨rfl, fun i h => absurd h (Nat.not_lt_zero _)⟩
    | succ m ih =>
      intro hm
      obtain ⟨l, q⟩ := ih (by omega)
      rw [List.range_succ, List.map_append, List.map_append, List.map_singleton, List.map_singleton, uq_snoc, uq_snoc]
      have mem : f m ∈ uq ((List.range m).map f) ↔ g m ∈ uq ((List.range m).map g) := by
        rw [uq_mem, uq_mem, List.mem_map, List.mem_map]
        constructor <;> rintro ⟨i, hi, e⟩ <;> refine ⟨i, hi, ?_⟩ <;> have := List.mem_range.mp hi
        · exact (p i m (by omega) (by omega)).mp e
        · exact (p i m (by omega) (by omega)).mpr e
      have old : ∀ i, i < m → f i ∈ uq ((List.range m).map f) ∧ g i ∈ uq ((List.range m).map g) := fun i hi => ⟨uq_mem.mpr (List.mem_map.mpr ⟨i, List.mem_range.mpr hi, rfl⟩), uq_mem.mpr (List.mem_map.mpr ⟨i, List.mem_range.mpr hi, rfl⟩)⟩
      refine ⟨?_, fun i hi => ?_⟩
      · unfold uqs
        by_cases c : f m ∈ uq ((List.range m).map f)
        · rw [if_pos c, if_pos (mem.mp c), l]
        · rw [if_neg c, if_neg (fun z => c (mem.mpr z))]; simp [l]
      · by_cases c : i < m
        · rw [idx_app (old i c).1, idx_app (old i c).2, q i c]
        · obtain rfl : i = m := by omega
          by_cases d : f i ∈ uq ((List.range i).map f)
          · obtain ⟨j, hj, e⟩ := List.mem_map.mp (uq_mem.mp d)
            have hj := List.mem_range.mp hj
            have e2 := (p j i (by omega) (by omega)).mp e
            rw [idx_app d, idx_app (mem.mp d), ← e, ← e2, q j hj]
          · rw [idx_new d, idx_new (fun z => d (mem.mpr z)), l]
  unfold nb
  rw [List.map_map, List.map_map]
  refine List.map_congr_left fun i hi => ?_
  show ((_ : Nat) : Int) = _
  rw [Function.comp_apply, (key n (Nat.le_refl _)).2 i (List.mem_range.mp hi)]
theorem idx_inj {α : Type} [DecidableEq α] {U : List α} {x y : α} (hx : x ∈ U) (hy : y ∈ U) (e : U.idxOf x = U.idxOf y) : x = y := by
  have a := List.getElem_idxOf (List.idxOf_lt_length_of_mem hx)
  have b := List.getElem_idxOf (List.idxOf_lt_length_of_mem hy)
  rw [← a, ← b]; simp only [e]
theorem nb_count {α : Type} [DecidableEq α] [BEq α] [LawfulBEq α] {ks : List α} : (nb ks).map (fun x => ((nb ks).count x : Int)) = ks.map fun k => (ks.count k : Int) := by
  unfold nb
  rw [List.map_map]
  refine List.map_congr_left fun k hk => ?_
  show ((List.count _ (List.map _ ks) : Nat) : Int) = _
  rw [List.count, List.countP_map, List.count]
  congr 1
  refine List.countP_congr fun z hz => ?_
  rw [Function.comp_apply, beq_iff_eq, beq_iff_eq]
  constructor
  · intro e; exact idx_inj (uq_mem.mpr hz) (uq_mem.mpr hk) (Int.ofNat.inj e)
  · intro e; rw [e]
/-! rings -/
theorem rgI_get {a b : Int} {i : Nat} (h : i < (M.rgI a b).length) : (M.rgI a b)[i] = a + (i : Nat) := by
  simp only [M.rgI, List.getElem_map, List.getElem_range]
theorem rgI_len {a b : Int} : (M.rgI a b).length = (b - a).toNat := by unfold M.rgI; rw [List.length_map, List.length_range]
theorem rgI_in {a b z : Int} : z ∈ M.rgI a b ↔ a ≤ z ∧ z < b := by
  unfold M.rgI
  rw [List.mem_map]
  constructor
  · rintro ⟨i, hi, rfl⟩; have := List.mem_range.mp hi; omega
  · rintro ⟨h1, h2⟩; exact ⟨(z - a).toNat, List.mem_range.mpr (by omega), by omega⟩
theorem rgI_asc {a b : Int} : (M.rgI a b).Pairwise (· < ·) := by
  rw [List.pairwise_iff_getElem]; intro i j hi hj c; rw [rgI_get hi, rgI_get hj]; omega
theorem stp_in {l r z : Int} : z ∈ stp l r ↔ -l ≤ z ∧ z ≤ r := by unfold stp; rw [rgI_in]; omega
theorem stp_nd {l r : Int} : (stp l r).Nodup := (rgI_asc (a := -l) (b := r + 1)).imp fun {a b} x => by omega
theorem win_len {ring : List Int} {h l r : Int} : (win ring h l r).length = (stp l r).length := List.length_map ..
theorem key_iff {ring : List Int} {h g l r : Int} : oa (win ring h l r) = oa (win ring g l r) ↔ ∀ s, s ∈ stp l r → ∀ t, t ∈ stp l r → (nm ring (h + s) < nm ring (h + t) ↔ nm ring (g + s) < nm ring (g + t)) := by
  have at_ : ∀ {h : Int} {i : Nat} (hi : i < (stp l r).length), (win ring h l r).getD i 0 = nm ring (h + (stp l r)[i]) := fun {h i} hi => by
    rw [getD_lt (by rw [win_len]; exact hi)]; unfold win; rw [List.getElem_map]
  constructor
  · intro e s hs t ht
    obtain ⟨i, hi, rfl⟩ := List.getElem_of_mem hs
    obtain ⟨j, hj, rfl⟩ := List.getElem_of_mem ht
    have := pat_of_oa e i j (by rw [win_len]; exact hi) (by rw [win_len]; exact hj)
    rwa [at_ hi, at_ hj, at_ hi, at_ hj] at this
  · intro p
    refine oa_of_pat (by rw [win_len, win_len]) fun i j hi hj => ?_
    rw [win_len] at hi hj
    rw [at_ hi, at_ hj, at_ hi, at_ hj]
    exact p _ (List.getElem_mem hi) _ (List.getElem_mem hj)
theorem inj_nd {α : Type} {xs : List α} (nd : xs.Nodup) {i j : Nat} {hi : i < xs.length} {hj : j < xs.length} : xs[i] = xs[j] ↔ i = j := by
  constructor
  · intro e
    have P := List.pairwise_iff_getElem.mp nd
    rcases Nat.lt_trichotomy i j with c | c | c
    · exact absurd e (P i j hi hj c)
    · exact c
    · exact absurd e.symm (P j i hj hi c)
  · intro e; simp only [e]
section
variable {ring : List Int} (nd : ring.Nodup) (n0 : 0 < ring.length)
theorem nm_at (ring : List Int) (n0 : 0 < ring.length) (x : Int) : (x % (ring.length : Int)).toNat < ring.length := by
  have := Int.emod_nonneg x (show (ring.length : Int) ≠ 0 by omega)
  have := Int.emod_lt_of_pos x (show (0 : Int) < ring.length by omega)
  omega
include nd n0
theorem nm_eq {x y : Int} : nm ring x = nm ring y ↔ (x - y) % (ring.length : Int) = 0 := by
  have hx := nm_at ring n0 x
  have hy := nm_at ring n0 y
  unfold nm
  rw [getD_lt hx, getD_lt hy, inj_nd nd, ← Int.emod_eq_emod_iff_emod_sub_eq_zero]
  have := Int.emod_nonneg x (show (ring.length : Int) ≠ 0 by omega)
  have := Int.emod_nonneg y (show (ring.length : Int) ≠ 0 by omega)
  constructor <;> intro e <;> omega
theorem nm_all {x : Int} (hx : x ∈ ring) : ∃ m : Int, 0 ≤ m ∧ m < ring.length ∧ nm ring m = x := by
  obtain ⟨i, hi, e⟩ := List.getElem_of_mem hx
  refine ⟨i, by omega, by omega, ?_⟩
  unfold nm
  rw [Int.emod_eq_of_lt (by omega) (by omega), Int.toNat_natCast, getD_lt hi, e]
end
theorem nm_in {ring : List Int} (n0 : 0 < ring.length) (x : Int) : nm ring x ∈ ring := by
  unfold nm; rw [getD_lt (nm_at ring n0 x)]; exact List.getElem_mem _
/-- steps by name, of one name by step -/
def lw (ring : List Int) (h s t : Int) : Prop := nm ring (h + s) < nm ring (h + t) ∨ (nm ring (h + s) = nm ring (h + t) ∧ s < t)
theorem pw_idx {R : Int → Int → Prop} (asym : ∀ s t, R s t → ¬ R t s) : ∀ {c : List Int}, c.Pairwise R → c.Nodup → ∀ s t, s ∈ c → t ∈ c → (R s t ↔ c.idxOf s < c.idxOf t) := by
  intro c p nd s t hs ht
  have la := List.idxOf_lt_length_of_mem hs
  have lb := List.idxOf_lt_length_of_mem ht
  have ea : c[c.idxOf s] = s := List.getElem_idxOf la
  have eb : c[c.idxOf t] = t := List.getElem_idxOf lb
  have P := List.pairwise_iff_getElem.mp p
  constructor
  · intro h
    rcases Nat.lt_trichotomy (c.idxOf s) (c.idxOf t) with q | q | q
    · exact q
    · have : s = t := idx_inj hs ht q
      subst this; exact absurd h (asym _ _ h)
    · have := P _ _ lb la q
      rw [ea, eb] at this
      exact absurd h (asym _ _ this)
  · intro q
    have := P _ _ la lb q
    rwa [ea, eb] at this
theorem lw_asym {ring : List Int} {h s t : Int} (a : lw ring h s t) : ¬ lw ring h t s := by unfold lw at *; omega
def Sd (ring : List Int) (h : Int) (l r : Int) (c : List Int) : Prop := c.Perm (stp l r) ∧ c.Pairwise (lw ring h)
theorem sd_iff {ring : List Int} {h g l r : Int} {c c' : List Int} (a : Sd ring h l r c) (b : Sd ring g l r c') : c = c' ↔ ∀ s, s ∈ stp l r → ∀ t, t ∈ stp l r → (lw ring h s t ↔ lw ring g s t) := by
  have nd : c.Nodup := a.1.nodup_iff.mpr stp_nd
  have nd' : c'.Nodup := b.1.nodup_iff.mpr stp_nd
  constructor
  · rintro rfl s hs t ht
    rw [pw_idx (fun s t => lw_asym) a.2 nd s t (a.1.mem_iff.mpr hs) (a.1.mem_iff.mpr ht), pw_idx (fun s t => lw_asym) b.2 nd s t (a.1.mem_iff.mpr hs) (a.1.mem_iff.mpr ht)]
  · intro p
    refine List.Perm.eq_of_pairwise (le := lw ring h) (fun s t hs ht x y => absurd y (lw_asym x)) a.2 ?_ (a.1.trans b.1.symm)
    refine List.Pairwise.imp_of_mem (fun {s t} hs ht x => (p s (b.1.mem_iff.mp hs) t (b.1.mem_iff.mp ht)).mpr x) b.2
theorem lw_iff {ring : List Int} (nd : ring.Nodup) (n0 : 0 < ring.length) {h g l r : Int} : (∀ s, s ∈ stp l r → ∀ t, t ∈ stp l r → (lw ring h s t ↔ lw ring g s t)) ↔ ∀ s, s ∈ stp l r → ∀ t, t ∈ stp l r → (nm ring (h + s) < nm ring (h + t) ↔ nm ring (g + s) < nm ring (g + t)) := by
  have eqv : ∀ s t, nm ring (h + s) = nm ring (h + t) ↔ nm ring (g + s) = nm ring (g + t) := fun s t => by
    rw [nm_eq nd n0, nm_eq nd n0, show h + s - (h + t) = s - t by omega, show g + s - (g + t) = s - t by omega]
  constructor
  · intro p s hs t ht
    have a := p s hs t ht
    have b := p t ht s hs
    have c := eqv s t
    unfold lw at a b
    constructor <;> intro z
    · rcases Int.lt_trichotomy (nm ring (g + s)) (nm ring (g + t)) with q | q | q
      · exact q
      · have := c.mpr q; omega
      · have := a.mp (.inl z); omega
    · rcases Int.lt_trichotomy (nm ring (h + s)) (nm ring (h + t)) with q | q | q
      · exact q
      · have := c.mp q; omega
      · have := a.mpr (.inl z); omega
  · intro p s hs t ht
    have a := p s hs t ht
    have c := eqv s t
    unfold lw
    rw [a, c]
theorem kind_iff {ring : List Int} (nd : ring.Nodup) (n0 : 0 < ring.length) {h g l r : Int} {c c' : List Int} (a : Sd ring h l r c) (b : Sd ring g l r c') : c = c' ↔ oa (win ring h l r) = oa (win ring g l r) := by
  rw [sd_iff a b, lw_iff nd n0, key_iff]
/-- the law's kinds of each house -/
def Kds (ring : List Int) (r : Nat) (cs : List (List Int)) : Prop := cs.length = ring.length ∧ ∀ h, h < cs.length → Sd ring (h : Nat) r r (cs.getD h [])
theorem map_getD {α : Type} (cs : List α) (d : α) : cs = (List.range cs.length).map fun h => cs.getD h d := by
  refine List.ext_getElem (by simp) fun i h1 h2 => ?_
  rw [List.getElem_map, List.getElem_range, getD_lt h1]
theorem row_is {ring : List Int} (nd : ring.Nodup) (n0 : 0 < ring.length) {r : Nat} {cs : List (List Int)} (k : Kds ring r cs) : nb cs = row ring r := by
  obtain ⟨hl, k⟩ := k
  rw [map_getD cs []]
  unfold row kys
  rw [hl]
  exact nb_pat fun i j hi hj => kind_iff nd n0 (k i (by omega)) (k j (by omega))
theorem fw_is {ring : List Int} (nd : ring.Nodup) (n0 : 0 < ring.length) {r : Nat} {cs : List (List Int)} (k : Kds ring r cs) : mn (cs.map fun c => (cs.count c : Int)) = fw (row ring r) := by
  rw [← nb_count, row_is nd n0 k]; rfl
theorem row_len {ring : List Int} {r : Nat} : (row ring r).length = ring.length := by
  unfold row nb kys; rw [List.length_map, List.length_map, List.length_range]
/-! the rows come to an end -/
theorem keys_unlike {ring : List Int} (nd : ring.Nodup) (n0 : 0 < ring.length) : (kys ring ring.length).Nodup := by
  unfold kys
  refine List.pairwise_map.mpr (List.Pairwise.imp_of_mem (fun {h g} hh hg ne e => ne ?_) List.nodup_range)
  have hh := List.mem_range.mp hh
  have hg := List.mem_range.mp hg
  have p := key_iff.mp e
  have ne' : ring ≠ [] := fun z => by rw [z] at n0; exact absurd n0 (Nat.lt_irrefl _)
  obtain ⟨m, m0, m1, em⟩ := nm_all nd n0 (mn_mem ne')
  have least : ∀ x, mn ring ≤ nm ring x := fun x => mn_le (nm_in n0 x)
  have q := p (m - g) (stp_in.mpr ⟨by omega, by omega⟩) (m - h) (stp_in.mpr ⟨by omega, by omega⟩)
  rw [show (h : Int) + (m - h) = m by omega, show (g : Int) + (m - g) = m by omega, em] at q
  have l1 := least ((h : Int) + (m - g))
  have l2 := least ((g : Int) + (m - h))
  have e1 : nm ring ((g : Int) + (m - h)) = nm ring m := by rw [em]; omega
  rw [nm_eq nd n0, show (g : Int) + (m - h) - m = g - h by omega] at e1
  rcases Nat.lt_trichotomy h g with c | c | c
  · rw [Int.emod_eq_of_lt (by omega) (by omega)] at e1; omega
  · exact c
  · rw [← Int.add_emod_right, Int.emod_eq_of_lt (by omega) (by omega)] at e1; omega
theorem fw_end {ring : List Int} (nd : ring.Nodup) (n0 : 0 < ring.length) : fw (row ring ring.length) ≤ 1 := by
  unfold fw row
  rw [nb_count]
  have k0 : (kys ring ring.length) ≠ [] := fun z => by
    have := congrArg List.length z
    unfold kys at this
    rw [List.length_map, List.length_range] at this
    simp only [List.length_nil] at this; omega
  refine mn_le (List.mem_map.mpr ⟨_, List.head_mem k0, ?_⟩)
  rw [List.Nodup.count (keys_unlike nd n0), if_pos (List.head_mem k0)]; rfl
theorem flR_ex {ring : List Int} (nd : ring.Nodup) (n0 : 0 < ring.length) : ∃ R, R ≤ ring.length ∧ FlR ring R := by
  have : ∀ k, fw (row ring k) ≤ 1 → ∃ R, R ≤ k ∧ FlR ring R := by
    intro k
    induction k using Nat.strongRecOn with
    | _ k ih =>
      intro e
      by_cases c : ∀ r, r < k → 1 < fw (row ring r)
      · exact ⟨k, Nat.le_refl _, c, e⟩
      · have : ∃ r, r < k ∧ ¬ 1 < fw (row ring r) := Classical.byContradiction fun z => c fun r hr => Classical.byContradiction fun w => z ⟨r, hr, w⟩
        obtain ⟨r, hr, hf⟩ := this
        obtain ⟨R, h1, h2⟩ := ih r hr (by omega)
        exact ⟨R, by omega, h2⟩
  exact this _ (fw_end nd n0)
theorem flR_uniq {ring : List Int} {R S : Nat} (a : FlR ring R) (b : FlR ring S) : R = S := by
  rcases Nat.lt_trichotomy R S with c | c | c
  · have := b.1 R c; have := a.2; omega
  · exact c
  · have := a.1 S c; have := b.2; omega
end Fl

namespace Mk
open Fl
/-! ### marks: plain -/
abbrev Tn := List (Int × Int × Int)
/-- letters told by a house to a side -/
def lk (t : Tn) (h s : Int) : Int := ((t.filter fun x => decide (x.1 = h ∧ x.2.1 = s)).map fun x => x.2.2).sum
structure TnOk (t : Tn) : Prop where
  nd : (t.map fun x => (x.1, x.2.1)).Nodup
  ps : ∀ x, x ∈ t → 0 < x.2.2
  ln : t.length ≤ 200
def at2 (xs : List (Int × Int)) (i : Int) : Int × Int := xs.getD (i % (xs.length : Int)).toNat (0, 0)
def at1 (xs : List Int) (i : Int) : Int := xs.getD (i % (xs.length : Int)).toNat 0
def sb (ss : List (Int × Int)) (t : Tn) (h : Nat) : Int × Int :=
  let n : Int := ss.length
  (if 0 < lk t (((h : Int) - 1) % n) 1 then max (ss.getD h (0, 0)).1 ((at2 ss ((h : Int) - 1)).1 + 1) else (ss.getD h (0, 0)).1,
   if 0 < lk t (((h : Int) + 1) % n) (-1) then max (ss.getD h (0, 0)).2 ((at2 ss ((h : Int) + 1)).2 + 1) else (ss.getD h (0, 0)).2)
def sbL (ss : List (Int × Int)) (t : Tn) : List (Int × Int) := (List.range ss.length).map (sb ss t)
def hf (row : List Int) (t : Tn) (g s : Int) : Int × Int := if 0 < lk t g s then (lk t g s, row.getD g.toNat 0) else (0, 0)
/-- what a house's mark is made of -/
structure MKey where
  m : Int
  l : Int × Int
  r : Int × Int
  s : Int × Int
  o : List Int
deriving DecidableEq
def mkey (ring row : List Int) (t : Tn) (ss : List (Int × Int)) (h : Nat) : MKey :=
  let n : Int := ring.length
  ⟨row.getD h 0, hf row t (((h : Int) - 1) % n) 1, hf row t (((h : Int) + 1) % n) (-1), ss.getD h (0, 0), oa (win ring h (ss.getD h (0, 0)).1 (ss.getD h (0, 0)).2)⟩
def rb (ring row : List Int) (t : Tn) (ss : List (Int × Int)) : List Int := nb ((List.range ring.length).map (mkey ring row t ss))
/-- one turn on -/
def stp1 (ring : List Int) (x : List Int × List (Int × Int)) (t : Tn) : List Int × List (Int × Int) :=
  let ss := sbL x.2 t
  (rb ring x.1 t ss, ss)
def st0 (ring : List Int) : List Int × List (Int × Int) := (List.replicate ring.length 0, List.replicate ring.length (0, 0))
/-- behind so many turns -/
def stK (ring : List Int) (log : List Tn) (k : Nat) : List Int × List (Int × Int) := (log.take k).foldl (stp1 ring) (st0 ring)
def mks (ring : List Int) (log : List Tn) : List (List Int) := (List.range (log.length + 1)).map fun k => (stK ring log k).1
theorem stK_succ {ring : List Int} {log : List Tn} {k : Nat} (hk : k < log.length) : stK ring log (k + 1) = stp1 ring (stK ring log k) log[k] := by
  unfold stK
  rw [List.take_succ_eq_append_getElem hk, List.foldl_append]; rfl
theorem rb_len {ring row : List Int} {t : Tn} {ss : List (Int × Int)} : (rb ring row t ss).length = ring.length := by
  unfold rb nb; rw [List.length_map, List.length_map, List.length_range]
theorem sbL_len {ss : List (Int × Int)} {t : Tn} : (sbL ss t).length = ss.length := by unfold sbL; rw [List.length_map, List.length_range]
theorem stK_len {ring : List Int} {log : List Tn} : ∀ {k : Nat}, (stK ring log k).1.length = ring.length ∧ (stK ring log k).2.length = ring.length := by
  have : ∀ (l : List Tn) (x : List Int × List (Int × Int)), x.1.length = ring.length → x.2.length = ring.length → (l.foldl (stp1 ring) x).1.length = ring.length ∧ (l.foldl (stp1 ring) x).2.length = ring.length := by
    intro l
    induction l with
    | nil => intro x a b; exact ⟨a, b⟩
    | cons t l ih =>
      intro x a b
      rw [List.foldl_cons]
      exact ih _ rb_len (by show (sbL x.2 t).length = _; rw [sbL_len, b])
  intro k
  exact this _ _ (List.length_replicate ..) (List.length_replicate ..)
/-! told at most once -/
theorem lk_at {t : Tn} (ok : TnOk t) {x : Int × Int × Int} (hx : x ∈ t) : lk t x.1 x.2.1 = x.2.2 := by
  have : ∀ {t : Tn}, (t.map fun x => (x.1, x.2.1)).Nodup → x ∈ t → (t.filter fun y => decide (y.1 = x.1 ∧ y.2.1 = x.2.1)) = [x] := by
    intro t
    induction t with
    | nil => intro _ h; cases h
    | cons y t ih =>
      intro nd h
      rw [List.map_cons, List.nodup_cons] at nd
      rw [List.filter_cons]
      rcases List.mem_cons.mp h with rfl | h
      · rw [if_pos (by simp)]
        congr 1
        rw [List.filter_eq_nil_iff]
        intro z hz
        simp only [decide_eq_true_eq]
        intro e
        exact nd.1 (List.mem_map.mpr ⟨z, hz, by rw [e.1, e.2]⟩)
      · rw [if_neg, ih nd.2 h]
        simp only [decide_eq_true_eq]
        intro e
        exact nd.1 (List.mem_map.mpr ⟨x, h, by rw [e.1, e.2]⟩)
  unfold lk
  rw [this ok.nd hx]
  simp
theorem lk_no {t : Tn} {h s : Int} (no : ∀ x, x ∈ t → ¬ (x.1 = h ∧ x.2.1 = s)) : lk t h s = 0 := by
  unfold lk
  rw [show (t.filter fun x => decide (x.1 = h ∧ x.2.1 = s)) = [] from List.filter_eq_nil_iff.mpr fun x hx => by simpa using no x hx]
  rfl
theorem lk_nn {t : Tn} (ok : TnOk t) (h s : Int) : 0 ≤ lk t h s := by
  by_cases c : ∃ x, x ∈ t ∧ x.1 = h ∧ x.2.1 = s
  · obtain ⟨x, hx, rfl, rfl⟩ := c
    rw [lk_at ok hx]; have := ok.ps x hx; omega
  · rw [lk_no fun x hx e => c ⟨x, hx, e⟩]; exact Int.le_refl _
theorem lk_pos {t : Tn} (ok : TnOk t) {h s : Int} : 0 < lk t h s ↔ ∃ x, x ∈ t ∧ x.1 = h ∧ x.2.1 = s := by
  constructor
  · intro p
    exact Classical.byContradiction fun c => by rw [lk_no fun x hx e => c ⟨x, hx, e⟩] at p; omega
  · rintro ⟨x, hx, rfl, rfl⟩
    rw [lk_at ok hx]; exact ok.ps x hx
/-! numbers by the first alike -/
theorem nb_snoc {α : Type} [DecidableEq α] (ks : List α) (k : α) : nb (ks ++ [k]) = nb ks ++ [if k ∈ ks then ((uq ks).idxOf k : Int) else ((uq ks).length : Int)] := by
  unfold nb
  rw [uq_snoc, List.map_append, List.map_singleton]
  congr 1
  · refine List.map_congr_left fun z hz => ?_
    rw [idx_app (uq_mem.mpr hz)]
  · by_cases c : k ∈ ks
    · rw [if_pos c, idx_app (uq_mem.mpr c)]
    · rw [if_neg c, idx_new fun z => c (uq_mem.mp z)]
theorem uq_map {α β : Type} [DecidableEq α] [DecidableEq β] {f : α → β} (inj : ∀ x y, f x = f y → x = y) (ks : List α) : uq (ks.map f) = (uq ks).map f := by
  induction ks using snocI with
  | nil => rfl
  | snoc ks k ih =>
    rw [List.map_append, List.map_singleton, uq_snoc, uq_snoc, ih]
    unfold uqs
    have : f k ∈ (uq ks).map f ↔ k ∈ uq ks := by
      rw [List.mem_map]
      constructor
      · rintro ⟨x, hx, e⟩; rw [← inj _ _ e]; exact hx
      · intro h; exact ⟨k, h, rfl⟩
    by_cases c : k ∈ uq ks
    · rw [if_pos c, if_pos (this.mpr c)]
    · rw [if_neg c, if_neg (fun z => c (this.mp z)), List.map_append]; rfl
theorem nb_map {α β : Type} [DecidableEq α] [DecidableEq β] {f : α → β} (inj : ∀ x y, f x = f y → x = y) (ks : List α) : nb (ks.map f) = nb ks := by
  unfold nb
  rw [uq_map inj, List.map_map]
  refine List.map_congr_left fun k _ => ?_
  rw [Function.comp_apply, idx_map fun y _ e => inj _ _ e]
/-- one more than the greatest number -/
theorem nb_max {α : Type} [DecidableEq α] {ks : List α} {m : Int} (h1 : m ∈ nb ks ++ [-1]) (h2 : ∀ y, y ∈ nb ks ++ [-1] → y ≤ m) : m + 1 = ((uq ks).length : Int) := by
  have up : ∀ y, y ∈ nb ks ++ [-1] → y ≤ ((uq ks).length : Int) - 1 := by
    intro y hy
    rcases List.mem_append.mp hy with hy | hy
    · unfold nb at hy
      obtain ⟨k, hk, rfl⟩ := List.mem_map.mp hy
      have := List.idxOf_lt_length_of_mem (uq_mem.mpr hk)
      omega
    · rw [List.mem_singleton.mp hy]; omega
  have at_ : ((uq ks).length : Int) - 1 ∈ nb ks ++ [-1] := by
    by_cases c : (uq ks).length = 0
    · rw [c]; exact List.mem_append_right _ (by simp)
    · refine List.mem_append_left _ ?_
      have hl : (uq ks).length - 1 < (uq ks).length := by omega
      unfold nb
      refine List.mem_map.mpr ⟨(uq ks)[(uq ks).length - 1], uq_mem.mp (List.getElem_mem hl), ?_⟩
      have hi := List.idxOf_lt_length_of_mem (List.getElem_mem hl)
      have e : (uq ks)[(uq ks).idxOf (uq ks)[(uq ks).length - 1]] = (uq ks)[(uq ks).length - 1] := List.getElem_idxOf hi
      have := (inj_nd (uq_nodup ks)).mp e
      omega
  have a := up m h1
  have b := h2 _ at_
  omega
/-! orders -/
def mat (N : List Int) : List (List Int) := N.map fun x => N.map fun y => (if x < y then 1 else 0) - (if y < x then 1 else 0)
theorem mat_iff {N M : List Int} (hl : N.length = M.length) : mat N = mat M ↔ Pat N M := by
  have at_ : ∀ {K : List Int} {i j : Nat} (hi : i < K.length) (hj : j < K.length), (((mat K).getD i []).getD j 0) = (if K.getD i 0 < K.getD j 0 then 1 else 0) - (if K.getD j 0 < K.getD i 0 then 1 else 0) := fun {K i j} hi hj => by
    have l1 : i < (mat K).length := by unfold mat; rw [List.length_map]; exact hi
    have e1 : (mat K)[i] = K.map fun y => (if K[i] < y then 1 else 0) - (if y < K[i] then 1 else 0) := by simp only [mat, List.getElem_map]
    rw [getD_lt l1, e1, getD_lt (by rw [List.length_map]; exact hj), List.getElem_map, getD_lt hi, getD_lt hj]
  constructor
  · intro e i j hi hj
    have a := at_ hi hj
    have b := at_ (K := M) (i := i) (j := j) (by omega) (by omega)
    rw [e, b] at a
    by_cases c1 : N.getD i 0 < N.getD j 0 <;> by_cases c2 : M.getD i 0 < M.getD j 0 <;> simp only [c1, c2]
    · exfalso
      rw [if_neg c2, if_pos c1, if_neg (show ¬ N.getD j 0 < N.getD i 0 by omega)] at a
      split at a <;> omega
    · exfalso
      rw [if_pos c2, if_neg c1, if_neg (show ¬ M.getD j 0 < M.getD i 0 by omega)] at a
      split at a <;> omega
  · intro p
    refine List.ext_getElem (by unfold mat; rw [List.length_map, List.length_map, hl]) fun i h1 h2 => ?_
    have hi : i < N.length := by unfold mat at h1; rwa [List.length_map] at h1
    have hm : i < M.length := by omega
    have e1 : (mat N)[i] = N.map fun y => (if N[i] < y then 1 else 0) - (if y < N[i] then 1 else 0) := by simp only [mat, List.getElem_map]
    have e2 : (mat M)[i] = M.map fun y => (if M[i] < y then 1 else 0) - (if y < M[i] then 1 else 0) := by simp only [mat, List.getElem_map]
    rw [e1, e2]
    refine List.ext_getElem (by rw [List.length_map, List.length_map, hl]) fun j h3 h4 => ?_
    have hj : j < N.length := by rwa [List.length_map] at h3
    have hk : j < M.length := by omega
    rw [List.getElem_map, List.getElem_map]
    have a := p i j hi hj
    have b := p j i hj hi
    rw [getD_lt hi, getD_lt hj, getD_lt hm, getD_lt hk] at a b
    simp only [a, b]
theorem mat_oa {N M : List Int} (hl : N.length = M.length) : mat N = mat M ↔ oa N = oa M := by
  rw [mat_iff hl]
  exact ⟨oa_of_pat hl, pat_of_oa⟩
/-! alike -/
def hd (t : Tn) (n h : Nat) : Int × Int := (lk t (((h : Int) - 1) % n) 1, lk t (((h : Int) + 1) % n) (-1))
def Like (ring row : List Int) (t : Tn) (ss : List (Int × Int)) (h g : Nat) : Prop :=
  row.getD g 0 = row.getD h 0 ∧ hd t ring.length g = hd t ring.length h ∧ ss.getD g (0, 0) = ss.getD h (0, 0) ∧
  (0 < (hd t ring.length h).1 → at1 row ((g : Int) - 1) = at1 row ((h : Int) - 1)) ∧ (0 < (hd t ring.length h).2 → at1 row ((g : Int) + 1) = at1 row ((h : Int) + 1)) ∧
  mat (win ring g (ss.getD g (0, 0)).1 (ss.getD g (0, 0)).2) = mat (win ring h (ss.getD h (0, 0)).1 (ss.getD h (0, 0)).2)
theorem hf_iff {row : List Int} {t : Tn} (ok : TnOk t) {n : Nat} (hr : row.length = n) {x y s : Int} : hf row t (x % n) s = hf row t (y % n) s ↔ lk t (x % n) s = lk t (y % n) s ∧ (0 < lk t (y % n) s → at1 row x = at1 row y) := by
  have a := lk_nn ok (x % n) s
  have b := lk_nn ok (y % n) s
  unfold hf at1
  rw [hr]
  by_cases c1 : 0 < lk t (x % n) s <;> by_cases c2 : 0 < lk t (y % n) s
  · rw [if_pos c1, if_pos c2, Prod.mk.injEq]
    exact ⟨fun h => ⟨h.1, fun _ => h.2⟩, fun h => ⟨h.1, h.2 c2⟩⟩
  · rw [if_pos c1, if_neg c2, Prod.mk.injEq]
    exact ⟨fun h => by omega, fun h => by omega⟩
  · rw [if_neg c1, if_pos c2, Prod.mk.injEq]
    exact ⟨fun h => by omega, fun h => by omega⟩
  · rw [if_neg c1, if_neg c2]
    exact ⟨fun _ => ⟨by omega, fun h => absurd h c2⟩, fun _ => rfl⟩
theorem like_iff {ring row : List Int} {t : Tn} {ss : List (Int × Int)} (ok : TnOk t) (hr : row.length = ring.length) {h g : Nat} : Like ring row t ss h g ↔ mkey ring row t ss g = mkey ring row t ss h := by
  unfold Like mkey
  simp only [MKey.mk.injEq]
  rw [hf_iff ok hr, hf_iff ok hr]
  unfold hd
  simp only [Prod.mk.injEq]
  constructor
  · rintro ⟨a, ⟨b1, b2⟩, c, d, e, f⟩
    refine ⟨a, ⟨b1, d⟩, ⟨b2, e⟩, c, ?_⟩
    rw [c] at f ⊢
    exact (mat_oa (by rw [win_len, win_len])).mp f
  · rintro ⟨a, ⟨b1, d⟩, ⟨b2, e⟩, c, f⟩
    refine ⟨a, ⟨b1, b2⟩, c, d, e, ?_⟩
    rw [c] at f ⊢
    exact (mat_oa (by rw [win_len, win_len])).mpr f
/-! ### logs drawn -/
structure TnG (n : Nat) (t : Tn) : Prop where
  ok : TnOk t
  ln : t.length ≤ 2 * n
  vs : ∀ x, x ∈ t → 0 ≤ x.1 ∧ x.1 < n ∧ (x.2.1 = -1 ∨ x.2.1 = 1)
/-- houses of one mark tell alike -/
def Alk (row : List Int) (t : Tn) : Prop := ∀ i j : Nat, i < row.length → j < row.length → row.getD i 0 = row.getD j 0 → ∀ s, (s = -1 ∨ s = 1) → lk t i s = lk t j s
def tl1 (f g : Int) (i : Nat) : Tn := (if 0 < f then [((i : Int), -1, f)] else []) ++ (if 0 < g then [((i : Int), 1, g)] else [])
def tlK (row : List Int) (f g : Int → Int) (k : Nat) : Tn := (List.range k).flatMap fun i => tl1 (f (row.getD i 0)) (g (row.getD i 0)) i
theorem tl1_mem {f g : Int} {i : Nat} {x : Int × Int × Int} : x ∈ tl1 f g i ↔ (0 < f ∧ x = ((i : Int), -1, f)) ∨ (0 < g ∧ x = ((i : Int), 1, g)) := by
  unfold tl1
  rw [List.mem_append]
  by_cases c1 : 0 < f <;> by_cases c2 : 0 < g <;> simp [c1, c2]
theorem tlK_succ {row : List Int} {f g : Int → Int} {k : Nat} : tlK row f g (k + 1) = tlK row f g k ++ tl1 (f (row.getD k 0)) (g (row.getD k 0)) k := by
  unfold tlK
  rw [List.range_succ, List.flatMap_append, List.flatMap_cons, List.flatMap_nil, List.append_nil]
theorem tlK_mem {row : List Int} {f g : Int → Int} {k : Nat} {x : Int × Int × Int} : x ∈ tlK row f g k ↔ ∃ i, i < k ∧ ((0 < f (row.getD i 0) ∧ x = ((i : Int), -1, f (row.getD i 0))) ∨ (0 < g (row.getD i 0) ∧ x = ((i : Int), 1, g (row.getD i 0)))) := by
  unfold tlK
  rw [List.mem_flatMap]
  constructor
  · rintro ⟨i, hi, h⟩
    exact ⟨i, List.mem_range.mp hi, tl1_mem.mp h⟩
  · rintro ⟨i, hi, h⟩
    exact ⟨i, List.mem_range.mpr hi, tl1_mem.mpr h⟩
theorem tl1_len {f g : Int} {i : Nat} : (tl1 f g i).length ≤ 2 := by
  unfold tl1
  rw [List.length_append]
  by_cases c1 : 0 < f <;> by_cases c2 : 0 < g <;> simp [c1, c2]
theorem tlK_len {row : List Int} {f g : Int → Int} : ∀ k : Nat, (tlK row f g k).length ≤ 2 * k
  | 0 => Nat.le_refl _
  | k + 1 => by rw [tlK_succ, List.length_append]; have := tlK_len (row := row) (f := f) (g := g) k; have := @tl1_len (f (row.getD k 0)) (g (row.getD k 0)) k; omega
theorem tlK_ok {row : List Int} {f g : Int → Int} {k : Nat} (hk : k ≤ 64) (hf : ∀ x, f x ≤ 10) (hg : ∀ x, g x ≤ 10) : TnG k (tlK row f g k) := by
  refine ⟨⟨?_, ?_, ?_⟩, tlK_len k, ?_⟩
  · induction k with
    | zero => exact List.nodup_nil
    | succ k ih =>
      rw [tlK_succ, List.map_append]
      refine List.nodup_append.mpr ⟨ih (by omega), ?_, ?_⟩
      · generalize f (row.getD k 0) = u
        generalize g (row.getD k 0) = v
        unfold tl1
        by_cases c1 : 0 < u <;> by_cases c2 : 0 < v <;> simp [c1, c2]
      · intro a ha b hb
        obtain ⟨x, hx, rfl⟩ := List.mem_map.mp ha
        obtain ⟨y, hy, rfl⟩ := List.mem_map.mp hb
        obtain ⟨i, hi, e⟩ := tlK_mem.mp hx
        have e1 : x.1 = i := by rcases e with ⟨_, rfl⟩ | ⟨_, rfl⟩ <;> rfl
        have e2 : y.1 = k := by rcases tl1_mem.mp hy with ⟨_, rfl⟩ | ⟨_, rfl⟩ <;> rfl
        intro z
        have z := congrArg Prod.fst z
        have z : x.1 = y.1 := z
        omega
  · intro x hx
    obtain ⟨i, hi, e⟩ := tlK_mem.mp hx
    rcases e with ⟨a, rfl⟩ | ⟨a, rfl⟩ <;> exact a
  · have := tlK_len (row := row) (f := f) (g := g) k; omega
  · intro x hx
    obtain ⟨i, hi, e⟩ := tlK_mem.mp hx
    rcases e with ⟨a, rfl⟩ | ⟨a, rfl⟩
    · exact ⟨by show (0 : Int) ≤ i; omega, by show (i : Int) < k; omega, .inl rfl⟩
    · exact ⟨by show (0 : Int) ≤ i; omega, by show (i : Int) < k; omega, .inr rfl⟩
theorem tlK_lk {row : List Int} {f g : Int → Int} {k : Nat} (ok : TnOk (tlK row f g k)) {i : Nat} (hi : i < k) : lk (tlK row f g k) i (-1) = max (f (row.getD i 0)) 0 ∧ lk (tlK row f g k) i 1 = max (g (row.getD i 0)) 0 := by
  constructor
  · by_cases c : 0 < f (row.getD i 0)
    · have := lk_at ok (x := ((i : Int), -1, f (row.getD i 0))) (tlK_mem.mpr ⟨i, hi, .inl ⟨c, rfl⟩⟩)
      rw [show lk (tlK row f g k) i (-1) = f (row.getD i 0) from this]; omega
    · rw [lk_no]; omega
      rintro x hx ⟨e1, e2⟩
      obtain ⟨j, hj, e⟩ := tlK_mem.mp hx
      rcases e with ⟨a, rfl⟩ | ⟨a, rfl⟩
      · obtain rfl : j = i := by have e1 : (j : Int) = i := e1; omega
        exact c a
      · have e2 : (1 : Int) = -1 := e2; omega
  · by_cases c : 0 < g (row.getD i 0)
    · have := lk_at ok (x := ((i : Int), 1, g (row.getD i 0))) (tlK_mem.mpr ⟨i, hi, .inr ⟨c, rfl⟩⟩)
      rw [show lk (tlK row f g k) i 1 = g (row.getD i 0) from this]; omega
    · rw [lk_no]; omega
      rintro x hx ⟨e1, e2⟩
      obtain ⟨j, hj, e⟩ := tlK_mem.mp hx
      rcases e with ⟨a, rfl⟩ | ⟨a, rfl⟩
      · have e2 : (-1 : Int) = 1 := e2; omega
      · obtain rfl : j = i := by have e1 : (j : Int) = i := e1; omega
        exact c a
theorem tlK_alk {row : List Int} {f g : Int → Int} (ok : TnOk (tlK row f g row.length)) : Alk row (tlK row f g row.length) := by
  intro i j hi hj e s hs
  have a := tlK_lk ok hi
  have b := tlK_lk ok hj
  rcases hs with rfl | rfl
  · rw [a.1, b.1, e]
  · rw [a.2, b.2, e]
theorem stK_app {ring : List Int} {log : List Tn} {t : Tn} {k : Nat} (hk : k ≤ log.length) : stK ring (log ++ [t]) k = stK ring log k := by
  unfold stK
  rw [List.take_append_of_le_length hk]
theorem stK_snoc {ring : List Int} {log : List Tn} {t : Tn} : stK ring (log ++ [t]) (log.length + 1) = stp1 ring (stK ring log log.length) t := by
  rw [stK_succ (by rw [List.length_append, List.length_singleton]; omega), stK_app (Nat.le_refl _), List.getElem_append_right (Nat.le_refl _)]
  congr 1
  simp
/-- each turn as its row lets -/
def Cmp (ring : List Int) (log : List Tn) : Prop := ∀ k (hk : k < log.length), Alk (stK ring log k).1 log[k]
theorem Cmp.snoc {ring : List Int} {log : List Tn} {t : Tn} (c : Cmp ring log) (a : Alk (stK ring log log.length).1 t) : Cmp ring (log ++ [t]) := by
  intro k hk
  rw [List.length_append, List.length_singleton] at hk
  by_cases e : k < log.length
  · rw [stK_app (Nat.le_of_lt e), List.getElem_append_left e]; exact c k e
  · obtain rfl : k = log.length := by omega
    rw [stK_app (Nat.le_refl _), List.getElem_append_right (Nat.le_refl _)]
    simpa using a
/-- turns of keys in their order -/
def kyI (k : Nat) : Int × Int := (((k / 2 : Nat) : Int), 2 * ((k % 2 : Nat) : Int) - 1)
theorem kyI_inj {i j : Nat} (h : kyI i = kyI j) : i = j := by
  unfold kyI at h
  rw [Prod.mk.injEq] at h
  omega
theorem sub_ok {n : Nat} {t : Tn} (hn : n ≤ 64) (hs : (t.map fun x => (x.1, x.2.1)).Sublist ((List.range (2 * n)).map kyI)) (hp : ∀ x, x ∈ t → 0 < x.2.2 ∧ x.2.2 ≤ 10) : TnG n t := by
  have nd : ((List.range (2 * n)).map kyI).Nodup := List.Pairwise.map kyI (fun a b h z => h (kyI_inj z)) List.nodup_range
  have ln := hs.length_le
  rw [List.length_map, List.length_map, List.length_range] at ln
  refine ⟨⟨hs.nodup nd, fun x hx => (hp x hx).1, by omega⟩, ln, fun x hx => ?_⟩
  have : (x.1, x.2.1) ∈ (List.range (2 * n)).map kyI := hs.subset (List.mem_map.mpr ⟨x, hx, rfl⟩)
  obtain ⟨k, hk, e⟩ := List.mem_map.mp this
  have hk := List.mem_range.mp hk
  unfold kyI at e
  rw [Prod.mk.injEq] at e
  refine ⟨by omega, by omega, by omega⟩
def tlp (u v : Int) (i : Nat) : Nat → Tn
  | 0 => []
  | 1 => if 0 < u then [((i : Int), -1, u)] else []
  | _ => tl1 u v i
theorem tlp_a {u v : Int} {i : Nat} (c : 0 < u) : tlp u v i (0 + 1) = tlp u v i 0 ++ [((i : Int), -1, u)] := by
  show (if 0 < u then [((i : Int), -1, u)] else []) = _
  rw [if_pos c]; rfl
theorem tlp_b {u v : Int} {i : Nat} (c : ¬ 0 < u) : tlp u v i (0 + 1) = tlp u v i 0 := by
  show (if 0 < u then [((i : Int), -1, u)] else []) = _
  rw [if_neg c]; rfl
theorem tlp_c {u v : Int} {i : Nat} (c : 0 < v) : tlp u v i (1 + 1) = tlp u v i 1 ++ [((i : Int), 1, v)] := by
  show tl1 u v i = (if 0 < u then [((i : Int), -1, u)] else []) ++ _
  unfold tl1
  rw [if_pos c]
theorem tlp_d {u v : Int} {i : Nat} (c : ¬ 0 < v) : tlp u v i (1 + 1) = tlp u v i 1 := by
  show tl1 u v i = (if 0 < u then [((i : Int), -1, u)] else [])
  unfold tl1
  rw [if_neg c, List.append_nil]
theorem tlp_len {u v : Int} {i : Nat} : (tlp u v i 1).length ≤ 1 := by
  show (if 0 < u then [((i : Int), -1, u)] else []).length ≤ 1
  split <;> simp
/-- who is alone -/
def aln (row : List Int) : List Int := ((List.range row.length).filter fun i => decide (row.count (row.getD i 0) = 1)).map fun i => ((i : Nat) : Int)
theorem stK_take {ring : List Int} {log : List Tn} {k : Nat} (hk : k ≤ log.length) : stK ring (log.take k) (log.take k).length = stK ring log k := by
  unfold stK
  rw [List.length_take, Nat.min_eq_left hk, List.take_take, Nat.min_self]
theorem mks_last {ring : List Int} {log : List Tn} : mks ring log = ((List.range log.length).map fun k => (stK ring log k).1) ++ [(stK ring log log.length).1] := by
  unfold mks
  rw [List.range_succ, List.map_append]; rfl
theorem mks_len {ring : List Int} {log : List Tn} : (mks ring log).length = log.length + 1 := by unfold mks; rw [List.length_map, List.length_range]
theorem mks_at {ring : List Int} {log : List Tn} {k : Nat} (hk : k < (mks ring log).length) : (mks ring log)[k] = (stK ring log k).1 := by
  simp only [mks, List.getElem_map, List.getElem_range]
end Mk
namespace M
open PySem L2
local macro_rules | `(tactic| walk_at "m") => `(tactic| simp only [mVar, mC, mOp, mUn, mNil, mCons, mTup, mLst, mCa, mTest, mAnd, mOr, mNot, mAndV, mOrV, mNotV, mIfE, mChain, mSl, mNo, mPart, mBM, mCall, mCallV, mIsi, mLc, mIter, mRange1, mRange2, mRange3, mEnum, mZip, mZipM,
  q_add1, q_add2, q_add3, q_add4, q_sub, q_mul1, q_mul2, q_fdiv, q_fdivN, q_mod, q_modN, q_pow, q_shl, q_neg, q_lt, q_le, q_gt, q_ge, q_eq1, q_eq2, q_eq3, q_eq4, q_eq5, q_eq6, q_eq7, q_eq8, q_eq9, q_ne1, q_ne2, q_ne3, q_ne4, q_ne5, q_ne6, q_ne7, q_ne8, q_ne9, q_iadd, q_ix1, q_ix2, q_ix3, q_ix4, q_sl1, q_sl2, q_sl3, q_len1, q_len2, q_len3, q_len4, q_abs, q_max2, q_min2, q_int1, q_int2, q_tuple1, q_tuple2, q_tuple3, q_list1, q_list2, q_list3, q_sum, q_all, q_any, q_maxL, q_minL, q_maxA1, q_maxA2, q_minA1, q_minA2, q_sorted, q_is1, q_is2, q_is3, q_is4, q_in1, q_in2, q_in3, q_nin1, q_nin2, q_nin3, q_setL, q_app, q_ext, q_popAt, q_pop, q_ty1, q_ty2, q_ty3, q_ty4, q_ty5, q_ty6, q_ty7, q_tym1, q_isN1, q_isN2, q_isN3, q_isN4, q_isN5, q_isN6, q_step1, q_step2, inF_ints, flat_ints, mDisp0, mDisp1, mDispN, mDisp1V, mLstZip, mPairs, mDGetT, mDGet2T, mBMT, q_count, q_index, q_inP, q_indexL, q_sortedTp, q_sortedPs, mGetN, mGet2N, mDisp0N, mKeysN, mLockE, mDGet2K, q_dictN, q_dictKT, q_dictKL, q_lenN, q_sortedDI, MO.dN.injEq, mDisp0T, mDisp1T, mKeysF, mLC, q_dget, q_dgetS, q_dgetI, q_putS, q_putI, dV_cons, q_gtT1, q_gtT2, q_ltT1, q_ltT2, Sum.inr.injEq, kn_cells_at, kn_cells_digits, kn_cells_turn, kn_at_cells, kn_at_digits, kn_at_turn, kn_digits_cells, kn_digits_at, kn_digits_turn, kn_turn_cells, kn_turn_at, kn_turn_digits, Sum.inl.injEq, q_ty8, q_mulT, q_maxTup, q_strI, q_split, q_join, q_inSg, q_mulS, q_intT, q_slT, q_tymS, mTupR1, mLstR1, mLstR2, mLenSet, mSortSet, mSumR1, mSumR2, mSortRev, mSetdN, mLstR3, q_ins, q_notInL, q_countL, q_indexLL, q_countA, q_inN, q_ninN, mSetdK, mVals, MO.fK.injEq, mRev, mYes, mwipe, flatD, asg, asgs, at0, at1, at2, at3, at4, at5, ixN,
  mstart, List.length_map, List.map_cons, List.map_nil, List.length_cons, List.length_nil, List.cons_append, List.nil_append, List.append_nil, List.replicate_succ, List.replicate_zero, Nat.reduceAdd, Nat.reduceSub, Nat.zero_add, Nat.sub_zero, Int.cast_ofNat_Int, Int.reduceLE, Int.reduceLT, Int.reduceToNat, Int.toNat_zero, Int.toNat_one,
  List.getElem?_cons_zero, List.getElem?_cons_succ, List.set_cons_zero, List.set_cons_succ, Option.some.injEq, exists_eq_left', exists_eq_left, exists_eq_right, D.int.injEq, D.bl.injEq, D.str.injEq, D.ref.injEq, D.tup.injEq, MO.lst.injEq, MO.dK.injEq, MO.dT.injEq, true_and, and_true, if_true, if_false, ite_true, ite_false, reduceIte, Bool.not_true, Bool.not_false, Bool.false_eq_true, exists_and_left, and_assoc, ne_eq, not_false_eq_true, not_true_eq_false, List.cons.injEq, exists_const, exists_eq, exists_eq', srcR_item, srcR_n, srcD_n, srcD_item, srcE_n, srcE_item, srcZ_n, srcZ_item, Int.zero_add, Int.mul_one, isTy, String.reduceEq, String.reduceBEq, Bool.or_true, Bool.true_or, Bool.or_false, Bool.false_or, Bool.and_false, Bool.false_and, Bool.and_true, Bool.true_and, decide_true, decide_false, sizeLine_eq, up_same, up_up, Nat.reduceLeDiff, Nat.reduceLT, *])
local macro_rules | `(tactic| walk_at "n") => `(tactic| ((repeat (with_reducible refine seq_ ?_)); (with_reducible first | refine set_ ?_ | refine put_ ?_ | refine put2_ ?_ | refine putD_ ?_ | refine putDT_ ?_ | refine putN_ ?_ | refine lockT_ ?_ | refine drop_ ?_ | refine ret_ ?_ | refine if_ ?_ | refine par_ ?_ | refine par3_ ?_ | refine for_ ?_ | refine aug_ ?_ | refine asg_ ?_ | refine asgL_ ?_ | refine next_ ?_ | refine retN_ ?_ | refine brk_ ?_ | refine ct_ ?_); (try walk_at "m")))
local macro_rules | `(tactic| walk_at "r") => `(tactic| (walk_at "n"; repeat walk_at "n"))
local macro_rules | `(tactic| walk_at "w") => `(tactic| ((try walk_at "m"); walk_at "n"))
local macro_rules | `(tactic| walk_at "g") => `(tactic| repeat (first | walk_at "n" | walk_at "m"))
namespace Law
/-! ### the box -/
def Bx (h : MH) (a b : Addr) (t : Nat) : Prop := ∃ (xs : List Int) (s1 s2 : Int), h a = some (.lst [.ref b, .int s1, .int s2]) ∧ h b = some (.lst (xs.map .int)) ∧ a ≠ b ∧ xs.length ≤ 63 ∧ 0 ≤ s1 ∧ s1 < 2 ^ 62 ∧ 0 ≤ s2 ∧ s2 + t ≤ 2 ^ 60
theorem Bx.less {h : MH} {a b : Addr} {t u : Nat} (x : Bx h a b t) (l : u ≤ t) : Bx h a b u := let ⟨xs, s1, s2, e1, e2, n, k, a1, a2, a3, a4⟩ := x; ⟨xs, s1, s2, e1, e2, n, k, a1, a2, a3, by omega⟩
theorem Bx.fr {h h' : MH} {a b : Addr} {t : Nat} (x : Bx h a b t) (f : Fr [] h h') : Bx h' a b t := let ⟨xs, s1, s2, e1, e2, r⟩ := x; ⟨xs, s1, s2, f.at0 e1, f.at0 e2, r⟩
theorem Bx.put {h : MH} {a b p : Addr} {t : Nat} {o : MO} (x : Bx h a b t) (n : a ≠ p) (n2 : b ≠ p) : Bx (up h p o) a b t := let ⟨xs, s1, s2, e1, e2, r⟩ := x; ⟨xs, s1, s2, by rw [up_ne n]; exact e1, by rw [up_ne n2]; exact e2, r⟩
theorem Bx.ne {h : MH} {a b p : Addr} {t : Nat} (x : Bx h a b t) (n : h p = none) : a ≠ p ∧ b ≠ p := let ⟨_, _, _, e1, e2, _⟩ := x; ⟨ne_of e1 n, ne_of e2 n⟩
theorem Bx.nin {h : MH} {a b p : Addr} {t : Nat} (x : Bx h a b t) (n : h p = none) : p ∉ [a, b] := by
  have := x.ne n
  simp only [List.mem_cons, List.not_mem_nil, or_false]
  rintro (e | e)
  · exact this.1 e.symm
  · exact this.2 e.symm
theorem Bx.some {h : MH} {a b : Addr} {t : Nat} (x : Bx h a b t) : ∀ p ∈ [a, b], h p ≠ none := by
  obtain ⟨_, _, _, e1, e2, _⟩ := x
  intro p hp
  simp only [List.mem_cons, List.not_mem_nil, or_false] at hp
  rcases hp with rfl | rfl
  · rw [e1]; intro z; cases z
  · rw [e2]; intro z; cases z
def c_law_box : MSp := fun ds h Q _ => ∃ ns : List Int, ds = [.rl (ns.map .int)] ∧ ns.length ≤ 63 ∧ ∀ a b h', Fr [] h h' → h a = none → h b = none → Bx h' a b (2 ^ 59) → Q (.ref a) h'
def c_law_draw : MSp := fun ds h Q _ => ∃ (a b : Addr) (many : Int) (t : Nat), ds = [.ref a, .int many] ∧ Bx h a b (t + 1) ∧ 0 < many ∧ many < 2 ^ 200 ∧ ∀ r h', 0 ≤ r → r < many → Bx h' a b t → Fr [a, b] h h' → Q (.int r) h'
/-! ### floors -/
def tI (xs : List Int) : D := .tup (xs.map .int)
def c_order_around : MSp := fun ds h Q _ => ∃ (ring : List Int) (x l r : Int), ds = [tI ring, .int x, .int l, .int r] ∧ 0 < ring.length ∧ ring.length ≤ 64 ∧ -1000 ≤ l ∧ l ≤ 1000 ∧ -1000 ≤ r ∧ r ≤ 1000 ∧ ∀ h', Fr [] h h' → Q (tI (Fl.oa (Fl.win ring x l r))) h'
def c_kinds_at : MSp := fun ds h Q _ => ∃ (ring : List Int) (r : Nat), ds = [tI ring, .int (r : Nat)] ∧ 0 < ring.length ∧ ring.length ≤ 64 ∧ r ≤ 500 ∧ ∀ h', Fr [] h h' → Q (tI (Fl.row ring r)) h'
def c_fewest_of : MSp := fun ds h Q _ => ∃ (xs : List Int), ds = [tI xs] ∧ 0 < xs.length ∧ xs.length ≤ 5000 ∧ ∀ h', Fr [] h h' → Q (.int (Fl.fw xs)) h'
def papD (ring : List Int) (R : Nat) : D := .tup ((List.range R).map fun r => tI (Fl.row ring r))
def c_floor_paper : MSp := fun ds h Q _ => ∃ (ring : List Int) (R : Nat), ds = [tI ring] ∧ 0 < ring.length ∧ ring.length ≤ 64 ∧ R ≤ 64 ∧ Fl.FlR ring R ∧ ∀ h', Fr [] h h' → Q (papD ring R) h'
def c_floor : MSp := fun ds h Q _ => ∃ (ring : List Int) (R : Nat), ds = [tI ring] ∧ 0 < ring.length ∧ ring.length ≤ 64 ∧ R ≤ 64 ∧ Fl.FlR ring R ∧ ∀ h', Fr [] h h' → Q (.int (Fl.flo ring R)) h'
/-! the law's own -/
def c_law_kinds : MSp := fun ds h Q _ => ∃ (ring : List Int) (r : Nat), ds = [tI ring, .int (r : Nat)] ∧ 0 < ring.length ∧ ring.length ≤ 64 ∧ r ≤ 500 ∧ ∀ (p : Addr) (es : List D) (cs : List (List Int)) h', h p = none → h' p = some (.lst es) → LL h' es cs → Fl.Kds ring r cs → Fr [] h h' → Q (.ref p) h'
def c_law_rows : MSp := fun ds h Q _ => ∃ (ring : List Int) (R : Nat), ds = [tI ring] ∧ ring.Nodup ∧ 0 < ring.length ∧ ring.length ≤ 64 ∧ R ≤ 64 ∧ Fl.FlR ring R ∧ ∀ h', Fr [] h h' → Q (papD ring R) h'
/-! rings drawn -/
def fbk : Nat → Int → Int → Int
  | 0, _, f => f
  | k + 1, x, f => fbk k (x / 2) (2 * f + x % 2)
def c_law_from_behind : MSp := fun ds h Q _ => ∃ (x : Int), ds = [.int x, .int 64] ∧ 0 ≤ x ∧ x < 64 ∧ ∀ h', Fr [] h h' → Q (.int (fbk 6 x 0)) h'
def c_law_mixed_up : MSp := fun ds h Q _ => ∃ (a b p : Addr) (xs : List Int) (t : Nat), ds = [.ref a, .ref p] ∧ Bx h a b (t + xs.length) ∧ h p = some (.lst (xs.map .int)) ∧ p ≠ a ∧ p ≠ b ∧ xs.length ≤ 64 ∧ ∀ (q : Addr) (ys : List Int) h', ys.Perm xs → h q = none → h' q = some (.lst (ys.map .int)) → Bx h' a b t → Fr [a, b] h h' → Q (.ref q) h'
def c_law_places : MSp := fun ds h Q _ => ∃ (a b : Addr) (many : Nat) (t : Nat), ds = [.ref a, .int (many : Nat)] ∧ Bx h a b (t + 70) ∧ 0 < many ∧ many ≤ 64 ∧ ∀ (p : Addr) (ps : List Int) h', ps.length = many → ps.Nodup → h p = none → h' p = some (.lst (ps.map .int)) → Bx h' a b t → Fr [a, b] h h' → Q (.ref p) h'
def c_law_ring : MSp := fun ds h Q _ => ∃ (a b : Addr) (t : Nat), ds = [.ref a] ∧ Bx h a b (t + 80) ∧ ∀ (ring : List Int) h', ring.Nodup → 0 < ring.length → ring.length ≤ 64 → Bx h' a b t → Fr [a, b] h h' → Q (tI ring) h'
/-! ### numbered, of any keys that are tuples -/
def TK (k : NestedKey) : Prop := plainK k = true ∧ k.depth ≤ 8 ∧ ∃ ks, k = .tup ks
def c_numbered : MSp := fun ds h Q _ => ∃ (a : Addr) (ks : List NestedKey), ds = [.ref a] ∧ h a = some (.lst (ks.map kD)) ∧ (∀ k, k ∈ ks → TK k) ∧ ks.length ≤ 64 ∧ ∀ h', Fr [] h h' → Q (tI (Fl.nb ks)) h'
/-! ### marks -/
def trD (x : Int × Int × Int) : D := .tup [.int x.1, .int x.2.1, .int x.2.2]
def tnD (t : Mk.Tn) : D := .tup (t.map trD)
def lgD (l : List Mk.Tn) : D := .tup (l.map tnD)
def k2 (h s : Int) : NestedKey := .tup [.num h, .num s]
def tkv (t : Mk.Tn) : List (NestedKey × D) := t.map fun x => (k2 x.1 x.2.1, .int x.2.2)
def c_told_in : MSp := fun ds h Q _ => ∃ (t : Mk.Tn), ds = [tnD t] ∧ Mk.TnOk t ∧ ∀ (p : Addr) h', h p = none → h' p = some (.dN (tkv t)) → Fr [] h h' → Q (.ref p) h'
def c_sights_behind : MSp := fun ds h Q _ => ∃ (a d : Addr) (ss : List (Int × Int)) (t : Mk.Tn), ds = [.ref a, .ref d] ∧ h a = some (.lst (ss.map pD)) ∧ h d = some (.dN (tkv t)) ∧ Mk.TnOk t ∧ 0 < ss.length ∧ ss.length ≤ 64 ∧ ∀ (p : Addr) h', h p = none → h' p = some (.lst ((Mk.sbL ss t).map pD)) → Fr [] h h' → Q (.ref p) h'
def c_heard_from : MSp := fun ds h Q _ => ∃ (row : List Int) (d : Addr) (t : Mk.Tn) (g s : Int), ds = [tI row, .ref d, .int g, .int s] ∧ h d = some (.dN (tkv t)) ∧ Mk.TnOk t ∧ 0 ≤ g ∧ g < row.length ∧ Q (pD (Mk.hf row t g s)) h
def kM (x : Mk.MKey) : NestedKey := .tup [.num x.m, .tup [.tup [.num x.l.1, .num x.l.2], .tup [.num x.r.1, .num x.r.2]], .tup [.num x.s.1, .num x.s.2], .tup (x.o.map .num)]
def c_row_behind : MSp := fun ds h Q _ => ∃ (ring row : List Int) (d a : Addr) (t : Mk.Tn) (ss : List (Int × Int)), ds = [tI ring, tI row, .ref d, .ref a] ∧ h d = some (.dN (tkv t)) ∧ h a = some (.lst (ss.map pD)) ∧ Mk.TnOk t ∧ 0 < ring.length ∧ ring.length ≤ 64 ∧ row.length = ring.length ∧ ss.length = ring.length ∧ (∀ s, s ∈ ss → 0 ≤ s.1 ∧ s.1 ≤ 1000 ∧ 0 ≤ s.2 ∧ s.2 ≤ 1000) ∧ ∀ h', Fr [] h h' → Q (tI (Mk.rb ring row t ss)) h'
def c_marks : MSp := fun ds h Q _ => ∃ (ring : List Int) (log : List Mk.Tn), ds = [tI ring, lgD log] ∧ 0 < ring.length ∧ ring.length ≤ 64 ∧ log.length ≤ 500 ∧ (∀ t, t ∈ log → Mk.TnOk t) ∧ ∀ h', Fr [] h h' → Q (.tup ((Mk.mks ring log).map tI)) h'
/-! ### marks, the law's own -/
def c_law_order : MSp := fun ds h Q _ => ∃ (ring : List Int) (x : Int) (s : Int × Int), ds = [tI ring, .int x, pD s] ∧ 0 < ring.length ∧ ring.length ≤ 64 ∧ 0 ≤ s.1 ∧ s.1 ≤ 500 ∧ 0 ≤ s.2 ∧ s.2 ≤ 500 ∧ ∀ (p : Addr) (es : List D) h', h p = none → h' p = some (.lst es) → LL h' es (Mk.mat (Fl.win ring x s.1 s.2)) → (∀ r, D.ref r ∈ es → h r = none) → Fr [] h h' → Q (.ref p) h'
def c_law_told : MSp := fun ds h Q _ => ∃ (t : Mk.Tn) (g s : Int), ds = [tnD t, .int g, .int s] ∧ t.length ≤ 5000 ∧ ∀ h', Fr [] h h' → Q (.int (Mk.lk t g s)) h'
def c_law_behind : MSp := fun ds h Q _ => ∃ (ring row : List Int) (a : Addr) (ss : List (Int × Int)) (t : Mk.Tn), ds = [tI ring, tI row, .ref a, tnD t] ∧ h a = some (.lst (ss.map pD)) ∧ Mk.TnOk t ∧ 0 < ring.length ∧ ring.length ≤ 64 ∧ row.length = ring.length ∧ ss.length = ring.length ∧ (∀ s, s ∈ ss → 0 ≤ s.1 ∧ s.1 ≤ 400 ∧ 0 ≤ s.2 ∧ s.2 ≤ 400) ∧ ∀ (p : Addr) h', h p = none → h' p = some (.lst ((Mk.sbL ss t).map pD)) → Fr [] h h' → Q (.tup [tI (Mk.rb ring row t (Mk.sbL ss t)), .ref p]) h'
def c_law_marks : MSp := fun ds h Q _ => ∃ (ring : List Int) (log : List Mk.Tn), ds = [tI ring, lgD log] ∧ 0 < ring.length ∧ ring.length ≤ 64 ∧ log.length ≤ 300 ∧ (∀ t, t ∈ log → Mk.TnOk t) ∧ ∀ h', Fr [] h h' → Q (.tup ((Mk.mks ring log).map tI)) h'
/-! ### logs drawn -/
def c_law_small_ring : MSp := fun ds h Q _ => ∃ (a b : Addr) (t : Nat), ds = [.ref a, .int 11] ∧ Bx h a b (t + 80) ∧ ∀ (ring : List Int) h', ring.Nodup → 0 < ring.length → ring.length ≤ 11 → Bx h' a b t → Fr [a, b] h h' → Q (tI ring) h'
def c_law_any_log : MSp := fun ds h Q _ => ∃ (a b : Addr) (n t : Nat), ds = [.ref a, .int (n : Nat)] ∧ Bx h a b (t + 1000) ∧ 0 < n ∧ n ≤ 11 ∧ ∀ (log : List Mk.Tn) h', log.length ≤ 14 → (∀ x, x ∈ log → Mk.TnG n x) → Bx h' a b t → Fr [a, b] h h' → Q (lgD log) h'
def c_law_comparing_turn : MSp := fun ds h Q _ => ∃ (a b : Addr) (row : List Int) (t : Nat), ds = [.ref a, tI row] ∧ Bx h a b (t + 30) ∧ row.length ≤ 11 ∧ ∀ (x : Mk.Tn) h', Mk.TnG row.length x → Mk.Alk row x → Bx h' a b t → Fr [a, b] h h' → Q (tnD x) h'
def c_law_comparing_log : MSp := fun ds h Q _ => ∃ (a b : Addr) (ring : List Int) (many : Int) (t : Nat), ds = [.ref a, tI ring, .int many] ∧ Bx h a b (t + 1000) ∧ 0 < ring.length ∧ ring.length ≤ 11 ∧ 0 ≤ many ∧ many ≤ 20 ∧ ∀ (log : List Mk.Tn) h', log.length = many.toNat → (∀ x, x ∈ log → Mk.TnG ring.length x) → Mk.Cmp ring log → Bx h' a b t → Fr [a, b] h h' → Q (lgD log) h'
/-- ints, None, tuples of these -/
def Dd : Nat → D → Prop
  | 0, _ => False
  | n + 1, d => match d with
    | .non => True
    | .int _ => True
    | .tup ds => ds.length ≤ 100000 ∧ ∀ x ∈ ds, Dd n x
    | _ => False
def c_law_same : Nat → MSp
  | 0 => fun _ _ _ _ => False
  | n + 1 => fun ds h Q _ => ∃ d, ds = [d, d] ∧ Dd (n + 1) d ∧ ∀ h', Fr [] h h' → Q (.bl true) h'
def c_alone : MSp := fun ds h Q _ => ∃ (ring : List Int) (log : List Mk.Tn), ds = [tI ring, lgD log] ∧ 0 < ring.length ∧ ring.length ≤ 64 ∧ log.length ≤ 500 ∧ (∀ t, t ∈ log → Mk.TnOk t) ∧ ∀ h', Fr [] h h' → Q (tI (Mk.aln (Mk.stK ring log log.length).1)) h'
def c_law : MSp := fun ds h Q _ => ∃ ns : List Int, ds = [.rl (ns.map .int)] ∧ ns.length ≤ 63 ∧ ∀ h', Q (.bl true) h'
-- order_around: ['ring', 'house', 'left', 'right', 'many', 'names', 'places', 'place', 'name', 'step']
abbrev m_order_around : MTS :=
 (mSeq (mSet 4 (mCa rLen (mCons (mVar 0) mNil)))
 (mSeq (mSet 5 (mLc (mRange2 (mUn rNeg (mVar 2)) (mOp rAdd (mVar 3) (mC (.int 1)))) (.nm 9) mYes (mOp rIx (mVar 0) (mOp rMod (mOp rAdd (mVar 1) (mVar 9)) (mVar 4))) [9]))
 (mSeq (mSet 6 mDisp0)
 (mSeq (mFor (mEnum (mSortSet (mVar 5))) (.tp [(.nm 7), (.nm 8)]) (mPutD (mVar 7) (mVar 6) (mVar 8)))
 (mRet (mCa rTuple (mCons (mLc (mIter (mVar 5)) (.nm 8) mYes (mDGet (mVar 6) (mVar 8)) [8]) mNil)))))))
abbrev N_order_around : List Str := ["ring", "house", "left", "right", "many", "names", "places", "place", "name", "step"]
-- numbered: ['keys', 'numbers', 'key']
abbrev m_numbered : MTS :=
 (mSeq (mSet 1 mDisp0N)
 (mSeq (mFor (mIter (mVar 0)) (.nm 2) (mDrop (mSetdN (mVar 1) (mVar 2) (mCa rLenN (mCons (mVar 1) mNil)))))
 (mRet (mCa rTuple (mCons (mLc (mIter (mVar 0)) (.nm 2) mYes (mGetN (mVar 1) (mVar 2)) [2]) mNil)))))
abbrev N_numbered : List Str := ["keys", "numbers", "key"]
-- told_in: ['turn', 'house', 'side', 'letters']
abbrev m_told_in : MTS :=
 (mRet (mCa rDictN (mCons (mLc (mIter (mVar 0)) (.tp [(.nm 1), (.nm 2), (.nm 3)]) mYes (mTup (mCons (mTup (mCons (mVar 1) (mCons (mVar 2) mNil))) (mCons (mVar 3) mNil))) [1, 2, 3]) mNil)))
abbrev N_told_in : List Str := ["turn", "house", "side", "letters"]
-- sights_behind: ['sights', 'told', 'many', 'found', 'house', 'left', 'right', 'before', 'behind']
abbrev m_sights_behind : MTS :=
 (mSeq (mSet 2 (mCa rLen (mCons (mVar 0) mNil)))
 (mSeq (mSet 3 (mLst mNil))
 (mSeq (mFor (mRange1 (mVar 2)) (.nm 4) (mSeq (mAsg (mOp rIx (mVar 0) (mVar 4)) (.tp [(.nm 5), (.nm 6)]))
 (mSeq (mPar 7 8 (mOp rMod (mOp rSub (mVar 4) (mC (.int 1))) (mVar 2)) (mOp rMod (mOp rAdd (mVar 4) (mC (.int 1))) (mVar 2)))
 (mSeq (mIf (mTest (mOp (rInN false) (mTup (mCons (mVar 7) (mCons (mC (.int 1)) mNil))) (mVar 1))) (mSet 5 (mCa rMax2 (mCons (mVar 5) (mCons (mOp rAdd (mOp rIx (mOp rIx (mVar 0) (mVar 7)) (mC (.int 0))) (mC (.int 1))) mNil)))) mNext)
 (mSeq (mIf (mTest (mOp (rInN false) (mTup (mCons (mVar 8) (mCons (mUn rNeg (mC (.int 1))) mNil))) (mVar 1))) (mSet 6 (mCa rMax2 (mCons (mVar 6) (mCons (mOp rAdd (mOp rIx (mOp rIx (mVar 0) (mVar 8)) (mC (.int 1))) (mC (.int 1))) mNil)))) mNext)
 (mDrop (mBM "list" rAppend (mVar 3) (mCons (mTup (mCons (mVar 5) (mCons (mVar 6) mNil))) mNil))))))))
 (mRet (mVar 3)))))
abbrev N_sights_behind : List Str := ["sights", "told", "many", "found", "house", "left", "right", "before", "behind"]
-- heard_from: ['row', 'told', 'teller', 'side']
abbrev m_heard_from : MTS :=
 (mSeq (mIf (mTest (mOp (rInN true) (mTup (mCons (mVar 2) (mCons (mVar 3) mNil))) (mVar 1))) (mRet (mTup (mCons (mC (.int 0)) (mCons (mC (.int 0)) mNil)))) mNext)
 (mRet (mTup (mCons (mGetN (mVar 1) (mTup (mCons (mVar 2) (mCons (mVar 3) mNil)))) (mCons (mOp rIx (mVar 0) (mVar 2)) mNil)))))
abbrev N_heard_from : List Str := ["row", "told", "teller", "side"]
-- row_behind: ['ring', 'row', 'told', 'sights', 'many', 'keys', 'house', 'heard', 'left', 'right']
abbrev m_row_behind : MTS :=
 (mSeq (mSet 4 (mCa rLen (mCons (mVar 0) mNil)))
 (mSeq (mSet 5 (mLst mNil))
 (mSeq (mFor (mRange1 (mVar 4)) (.nm 6) (mSeq (mSet 7 (mTup (mCons (mCall c_heard_from noE (mCons (mVar 1) (mCons (mVar 2) (mCons (mOp rMod (mOp rSub (mVar 6) (mC (.int 1))) (mVar 4)) (mCons (mC (.int 1)) mNil))))) (mCons (mCall c_heard_from noE (mCons (mVar 1) (mCons (mVar 2) (mCons (mOp rMod (mOp rAdd (mVar 6) (mC (.int 1))) (mVar 4)) (mCons (mUn rNeg (mC (.int 1))) mNil))))) mNil))))
 (mSeq (mAsg (mOp rIx (mVar 3) (mVar 6)) (.tp [(.nm 8), (.nm 9)]))
 (mDrop (mBM "list" rAppend (mVar 5) (mCons (mTup (mCons (mOp rIx (mVar 1) (mVar 6)) (mCons (mVar 7) (mCons (mOp rIx (mVar 3) (mVar 6)) (mCons (mCall c_order_around noE (mCons (mVar 0) (mCons (mVar 6) (mCons (mVar 8) (mCons (mVar 9) mNil))))) mNil))))) mNil))))))
 (mRet (mCall c_numbered noE (mCons (mVar 5) mNil))))))
abbrev N_row_behind : List Str := ["ring", "row", "told", "sights", "many", "keys", "house", "heard", "left", "right"]
-- marks: ['ring', 'log', 'many', 'rows', 'sights', 'turn', 'told']
abbrev m_marks : MTS :=
 (mSeq (mSet 2 (mCa rLen (mCons (mVar 0) mNil)))
 (mSeq (mSet 3 (mLst (mCons (mOp rMulT (mTup (mCons (mC (.int 0)) mNil)) (mVar 2)) mNil)))
 (mSeq (mSet 4 (mOp rMul (mLst (mCons (mTup (mCons (mC (.int 0)) (mCons (mC (.int 0)) mNil))) mNil)) (mVar 2)))
 (mSeq (mFor (mIter (mVar 1)) (.nm 5) (mSeq (mSet 6 (mCall c_told_in noE (mCons (mVar 5) mNil)))
 (mSeq (mSet 4 (mCall c_sights_behind noE (mCons (mVar 4) (mCons (mVar 6) mNil))))
 (mDrop (mBM "list" rAppend (mVar 3) (mCons (mCall c_row_behind noE (mCons (mVar 0) (mCons (mOp rIx (mVar 3) (mUn rNeg (mC (.int 1)))) (mCons (mVar 6) (mCons (mVar 4) mNil))))) mNil))))))
 (mRet (mCa rTuple (mCons (mVar 3) mNil)))))))
abbrev N_marks : List Str := ["ring", "log", "many", "rows", "sights", "turn", "told"]
-- alone: ['ring', 'log', 'last', 'house', 'mark']
abbrev m_alone : MTS :=
 (mSeq (mSet 2 (mOp rIx (mCall c_marks noE (mCons (mVar 0) (mCons (mVar 1) mNil))) (mUn rNeg (mC (.int 1)))))
 (mRet (mCa rTuple (mCons (mLc (mEnum (mVar 2)) (.tp [(.nm 3), (.nm 4)]) (mTest (mOp rEq (mBMT rCount (mVar 2) (mCons (mVar 4) mNil)) (mC (.int 1)))) (mVar 3) [3, 4]) mNil))))
abbrev N_alone : List Str := ["ring", "log", "last", "house", "mark"]
-- _law_box: ['_law_script', '_law_seed', '_law_cell']
abbrev m_law_box : MTS :=
 (mSeq (mSet 1 (mC (.int 5)))
 (mSeq (mFor (mIter (mSl rSl (mVar 0) mNo (mPart (mC (.int 63))))) (.nm 2) (mSet 1 (mOp rMod (mOp rAdd (mOp rAdd (mOp rMul (mVar 1) (mC (.int 1009))) (mVar 2)) (mC (.int 7))) (mOp rAdd (mOp rPow (mC (.int 10)) (mC (.int 18))) (mC (.int 9))))))
 (mRet (mLst (mCons (mLc (mIter (mSl rSl (mVar 0) mNo (mPart (mC (.int 63))))) (.nm 2) (mTest (mOp rGeI (mCa rAbs (mCons (mVar 2) mNil)) (mOp rPow (mC (.int 10)) (mC (.int 18))))) (mCa rAbs (mCons (mVar 2) mNil)) [2]) (mCons (mVar 1) (mCons (mC (.int 0)) mNil)))))))
abbrev N_law_box : List Str := ["_law_script", "_law_seed", "_law_cell"]
-- _law_draw: ['_law_box_here', '_law_many', '_law_one', '_law_told_here']
abbrev m_law_draw : MTS :=
 (mSeq (mIf (mTest (mOp rNe (mOp rIx (mVar 0) (mC (.int 0))) (mLst mNil))) (mSeq (mSet 3 (mOp rMod (mOp rIx (mOp rIx (mVar 0) (mC (.int 0))) (mC (.int 0))) (mVar 1)))
 (mSeq (mPut rSetL (mOp rFdiv (mOp rIx (mOp rIx (mVar 0) (mC (.int 0))) (mC (.int 0))) (mVar 1)) (mOp rIx (mVar 0) (mC (.int 0))) (mC (.int 0)))
 (mSeq (mIf (mTest (mOp rEq (mOp rIx (mOp rIx (mVar 0) (mC (.int 0))) (mC (.int 0))) (mC (.int 0)))) (mDrop (mBM "list" rPopAt (mOp rIx (mVar 0) (mC (.int 0))) (mCons (mC (.int 0)) mNil))) mNext)
 (mRet (mVar 3))))) mNext)
 (mSeq (mAugS rIAdd (mVar 0) (mC (.int 2)) (mC (.int 1)))
 (mSeq (mSet 2 (mOp rMod (mOp rMul (mOp rAdd (mOp rAdd (mOp rIx (mVar 0) (mC (.int 1))) (mOp rMul (mOp rMul (mOp rIx (mVar 0) (mC (.int 2))) (mOp rIx (mVar 0) (mC (.int 2)))) (mC (.int 31)))) (mOp rIx (mVar 0) (mC (.int 2)))) (mC (.int 48271))) (mC (.int 2147483647))))
 (mRet (mOp rMod (mOp rFdiv (mOp rMod (mOp rMul (mVar 2) (mVar 2)) (mC (.int 2147483629))) (mC (.int 11))) (mVar 1))))))
abbrev N_law_draw : List Str := ["_law_box_here", "_law_many", "_law_one", "_law_told_here"]
-- _law_mixed_up: ['_law_box_here', '_law_things', '_law_made', '_law_thing']
abbrev m_law_mixed_up : MTS :=
 (mSeq (mSet 2 (mLst mNil))
 (mSeq (mFor (mIter (mVar 1)) (.nm 3) (mDrop (mBM "list" rInsert (mVar 2) (mCons (mCall c_law_draw noE (mCons (mVar 0) (mCons (mOp rAdd (mCa rLen (mCons (mVar 2) mNil)) (mC (.int 1))) mNil))) (mCons (mVar 3) mNil)))))
 (mRet (mVar 2))))
abbrev N_law_mixed_up : List Str := ["_law_box_here", "_law_things", "_law_made", "_law_thing"]
-- _law_from_behind: ['_law_number', '_law_most', '_law_found', '_law_size']
abbrev m_law_from_behind : MTS :=
 (mSeq (mSet 2 (mC (.int 0)))
 (mSeq (mSet 3 (mC (.int 1)))
 (mSeq (mWhile (mTest (mOp rLtI (mVar 3) (mVar 1))) (mSeq (mSet 2 (mOp rAdd (mOp rMul (mC (.int 2)) (mVar 2)) (mOp rMod (mVar 0) (mC (.int 2)))))
 (mSeq (mSet 0 (mOp rFdiv (mVar 0) (mC (.int 2))))
 (mSet 3 (mOp rMul (mC (.int 2)) (mVar 3))))))
 (mRet (mVar 2)))))
abbrev N_law_from_behind : List Str := ["_law_number", "_law_most", "_law_found", "_law_size"]
-- _law_places: ['_law_box_here', '_law_many', '_law_way', '_law_parts', '_law_size', '_law_block', '_law_k']
abbrev m_law_places : MTS :=
 (mSeq (mSet 2 (mCall c_law_draw noE (mCons (mVar 0) (mCons (mC (.int 6)) mNil))))
 (mSeq (mIf (mTest (mOp rLtI (mVar 2) (mC (.int 2)))) (mRet (mCall c_law_mixed_up noE (mCons (mVar 0) (mCons (mLstR1 (mVar 1)) mNil)))) mNext)
 (mSeq (mIf (mTest (mOp rEq (mVar 2) (mC (.int 2)))) (mRet (mLstR1 (mVar 1))) mNext)
 (mSeq (mIf (mTest (mOp rEq (mVar 2) (mC (.int 3)))) (mRet (mLstR3 (mCons (mOp rSub (mVar 1) (mC (.int 1))) (mCons (mUn rNeg (mC (.int 1))) (mCons (mUn rNeg (mC (.int 1))) mNil))))) mNext)
 (mSeq (mIf (mTest (mOp rEq (mVar 2) (mC (.int 4)))) (mSeq (mSet 3 (mLc (mRange2 (mC (.int 1)) (mOp rAdd (mVar 1) (mC (.int 1)))) (.nm 4) (mTest (mOp rEq (mOp rMod (mVar 1) (mVar 4)) (mC (.int 0)))) (mVar 4) [4]))
 (mSeq (mSet 4 (mOp rIx (mVar 3) (mCall c_law_draw noE (mCons (mVar 0) (mCons (mCa rLen (mCons (mVar 3) mNil)) mNil)))))
 (mSeq (mSet 5 (mCall c_law_mixed_up noE (mCons (mVar 0) (mCons (mLstR1 (mVar 4)) mNil))))
 (mRet (mLc (mRange1 (mVar 1)) (.nm 6) mYes (mOp rAdd (mOp rMul (mOp rIx (mVar 5) (mOp rMod (mVar 6) (mVar 4))) (mVar 1)) (mOp rFdiv (mVar 6) (mVar 4))) [6]))))) mNext)
 (mRet (mLc (mRange1 (mVar 1)) (.nm 6) mYes (mCall c_law_from_behind noE (mCons (mVar 6) (mCons (mC (.int 64)) mNil))) [6])))))))
abbrev N_law_places : List Str := ["_law_box_here", "_law_many", "_law_way", "_law_parts", "_law_size", "_law_block", "_law_k"]
-- _law_order: ['_law_ring', '_law_house', '_law_sight', '_law_many', '_law_names', '_law_step', '_law_one', '_law_other']
abbrev m_law_order : MTS :=
 (mSeq (mSet 3 (mCa rLen (mCons (mVar 0) mNil)))
 (mSeq (mSet 4 (mLc (mRange2 (mUn rNeg (mOp rIx (mVar 2) (mC (.int 0)))) (mOp rAdd (mOp rIx (mVar 2) (mC (.int 1))) (mC (.int 1)))) (.nm 5) mYes (mOp rIx (mVar 0) (mOp rMod (mOp rAdd (mVar 1) (mVar 5)) (mVar 3))) [5]))
 (mRet (mLc (mIter (mVar 4)) (.nm 6) mYes (mLc (mIter (mVar 4)) (.nm 7) mYes (mOp rSub (mCa rInt1 (mCons (mOp rLtI (mVar 6) (mVar 7)) mNil)) (mCa rInt1 (mCons (mOp rGtI (mVar 6) (mVar 7)) mNil))) [7]) [6]))))
abbrev N_law_order : List Str := ["_law_ring", "_law_house", "_law_sight", "_law_many", "_law_names", "_law_step", "_law_one", "_law_other"]
-- _law_told: ['_law_turn', '_law_house', '_law_side', '_law_one', '_law_which', '_law_letters']
abbrev m_law_told : MTS :=
 (mRet (mCa rSum (mCons (mLc (mIter (mVar 0)) (.tp [(.nm 3), (.nm 4), (.nm 5)]) (mTest (mOp rEq (mTup (mCons (mVar 3) (mCons (mVar 4) mNil))) (mTup (mCons (mVar 1) (mCons (mVar 2) mNil))))) (mVar 5) [3, 4, 5]) mNil)))
abbrev N_law_told : List Str := ["_law_turn", "_law_house", "_law_side", "_law_one", "_law_which", "_law_letters"]
-- _law_behind: ['_law_ring', '_law_row', '_law_sights', '_law_turn', '_law_many', '_law_left', '_law_heard', '_law_later', '_law_house', '_law_orders', '_law_made', '_law_near', '_law_right', '_law_found', '_law_other', '_law_like']
abbrev m_law_behind : MTS :=
 (mSeq (mSet 4 (mCa rLen (mCons (mVar 0) mNil)))
 (mSeq (mSet 5 (mLc (mRange1 (mVar 4)) (.nm 8) mYes (mCall c_law_told noE (mCons (mVar 3) (mCons (mOp rMod (mOp rSub (mVar 8) (mC (.int 1))) (mVar 4)) (mCons (mC (.int 1)) mNil)))) [8]))
 (mSeq (mSet 6 (mLc (mRange1 (mVar 4)) (.nm 8) mYes (mTup (mCons (mOp rIx (mVar 5) (mVar 8)) (mCons (mCall c_law_told noE (mCons (mVar 3) (mCons (mOp rMod (mOp rAdd (mVar 8) (mC (.int 1))) (mVar 4)) (mCons (mUn rNeg (mC (.int 1))) mNil)))) mNil))) [8]))
 (mSeq (mSet 7 (mLst mNil))
 (mSeq (mFor (mRange1 (mVar 4)) (.nm 8) (mSeq (mAsg (mOp rIx (mVar 2) (mVar 8)) (.tp [(.nm 11), (.nm 12)]))
 (mSeq (mIf (mTest (mOp rGtI (mOp rIx (mOp rIx (mVar 6) (mVar 8)) (mC (.int 0))) (mC (.int 0)))) (mSet 11 (mCa rMax2 (mCons (mVar 11) (mCons (mOp rAdd (mOp rIx (mOp rIx (mVar 2) (mOp rSub (mVar 8) (mC (.int 1)))) (mC (.int 0))) (mC (.int 1))) mNil)))) mNext)
 (mSeq (mIf (mTest (mOp rGtI (mOp rIx (mOp rIx (mVar 6) (mVar 8)) (mC (.int 1))) (mC (.int 0)))) (mSet 12 (mCa rMax2 (mCons (mVar 12) (mCons (mOp rAdd (mOp rIx (mOp rIx (mVar 2) (mOp rMod (mOp rAdd (mVar 8) (mC (.int 1))) (mVar 4))) (mC (.int 1))) (mC (.int 1))) mNil)))) mNext)
 (mDrop (mBM "list" rAppend (mVar 7) (mCons (mTup (mCons (mVar 11) (mCons (mVar 12) mNil))) mNil)))))))
 (mSeq (mSet 9 (mLc (mRange1 (mVar 4)) (.nm 8) mYes (mCall c_law_order noE (mCons (mVar 0) (mCons (mVar 8) (mCons (mOp rIx (mVar 7) (mVar 8)) mNil)))) [8]))
 (mSeq (mSet 10 (mLst mNil))
 (mSeq (mFor (mRange1 (mVar 4)) (.nm 8) (mSeq (mSet 13 (mLst mNil))
 (mSeq (mFor (mRange1 (mVar 8)) (.nm 14) (mSeq (mSet 15 (mAndV (mOp rEq (mOp rIx (mVar 1) (mVar 14)) (mOp rIx (mVar 1) (mVar 8))) (mAndV (mOp rEq (mOp rIx (mVar 6) (mVar 14)) (mOp rIx (mVar 6) (mVar 8))) (mOp rEq (mOp rIx (mVar 7) (mVar 14)) (mOp rIx (mVar 7) (mVar 8))))))
 (mSeq (mIf (mAnd (mTest (mVar 15)) (mTest (mOp rGtI (mOp rIx (mOp rIx (mVar 6) (mVar 8)) (mC (.int 0))) (mC (.int 0))))) (mSet 15 (mOp rEq (mOp rIx (mVar 1) (mOp rSub (mVar 14) (mC (.int 1)))) (mOp rIx (mVar 1) (mOp rSub (mVar 8) (mC (.int 1)))))) mNext)
 (mSeq (mIf (mAnd (mTest (mVar 15)) (mTest (mOp rGtI (mOp rIx (mOp rIx (mVar 6) (mVar 8)) (mC (.int 1))) (mC (.int 0))))) (mSet 15 (mOp rEq (mOp rIx (mVar 1) (mOp rMod (mOp rAdd (mVar 14) (mC (.int 1))) (mVar 4))) (mOp rIx (mVar 1) (mOp rMod (mOp rAdd (mVar 8) (mC (.int 1))) (mVar 4))))) mNext)
 (mIf (mAnd (mTest (mVar 15)) (mTest (mOp rEq (mOp rIx (mVar 9) (mVar 14)) (mOp rIx (mVar 9) (mVar 8))))) (mDrop (mBM "list" rAppend (mVar 13) (mCons (mOp rIx (mVar 10) (mVar 14)) mNil))) mNext)))))
 (mDrop (mBM "list" rAppend (mVar 10) (mCons (mOp rIx (mOp rAdd (mVar 13) (mLst (mCons (mOp rAdd (mCa rMaxA (mCons (mOp rAdd (mVar 10) (mLst (mCons (mUn rNeg (mC (.int 1))) mNil))) mNil)) (mC (.int 1))) mNil))) (mC (.int 0))) mNil))))))
 (mRet (mTup (mCons (mCa rTuple (mCons (mVar 10) mNil)) (mCons (mVar 7) mNil))))))))))))
abbrev N_law_behind : List Str := ["_law_ring", "_law_row", "_law_sights", "_law_turn", "_law_many", "_law_left", "_law_heard", "_law_later", "_law_house", "_law_orders", "_law_made", "_law_near", "_law_right", "_law_found", "_law_other", "_law_like"]
-- _law_marks: ['_law_ring', '_law_log', '_law_rows', '_law_sights', '_law_turn', '_law_row']
abbrev m_law_marks : MTS :=
 (mSeq (mPar 2 3 (mLst (mCons (mOp rMulT (mTup (mCons (mC (.int 0)) mNil)) (mCa rLen (mCons (mVar 0) mNil))) mNil)) (mOp rMul (mLst (mCons (mTup (mCons (mC (.int 0)) (mCons (mC (.int 0)) mNil))) mNil)) (mCa rLen (mCons (mVar 0) mNil))))
 (mSeq (mFor (mIter (mVar 1)) (.nm 4) (mSeq (mAsg (mCall c_law_behind noE (mCons (mVar 0) (mCons (mOp rIx (mVar 2) (mUn rNeg (mC (.int 1)))) (mCons (mVar 3) (mCons (mVar 4) mNil))))) (.tp [(.nm 5), (.nm 3)]))
 (mDrop (mBM "list" rAppend (mVar 2) (mCons (mVar 5) mNil)))))
 (mRet (mCa rTuple (mCons (mVar 2) mNil)))))
abbrev N_law_marks : List Str := ["_law_ring", "_law_log", "_law_rows", "_law_sights", "_law_turn", "_law_row"]
-- _law_small_ring: ['_law_box_here', '_law_most', '_law_many', '_law_places_here', '_law_gap', '_law_place']
abbrev m_law_small_ring : MTS :=
 (mSeq (mSet 2 (mOp rAdd (mC (.int 1)) (mCall c_law_draw noE (mCons (mVar 0) (mCons (mVar 1) mNil)))))
 (mSeq (mSet 3 (mCall c_law_places noE (mCons (mVar 0) (mCons (mVar 2) mNil))))
 (mSeq (mSet 4 (mOp rAdd (mC (.int 1)) (mCall c_law_draw noE (mCons (mVar 0) (mCons (mC (.int 9)) mNil)))))
 (mRet (mCa rTuple (mCons (mLc (mIter (mVar 3)) (.nm 5) mYes (mOp rAdd (mOp rMul (mVar 4) (mVar 5)) (mC (.int 5))) [5]) mNil))))))
abbrev N_law_small_ring : List Str := ["_law_box_here", "_law_most", "_law_many", "_law_places_here", "_law_gap", "_law_place"]
-- _law_any_log: ['_law_box_here', '_law_many', '_law_log', '_law_k', '_law_often', '_law_keys', '_law_key']
abbrev m_law_any_log : MTS :=
 (mSeq (mSet 2 (mLst mNil))
 (mSeq (mFor (mRange1 (mOp rIx (mLst (mCons (mCall c_law_draw noE (mCons (mVar 0) (mCons (mC (.int 7)) mNil))) (mCons (mCall c_law_draw noE (mCons (mVar 0) (mCons (mC (.int 15)) mNil))) mNil))) (mCa rInt1 (mCons (mOp rEq (mCall c_law_draw noE (mCons (mVar 0) (mCons (mC (.int 8)) mNil))) (mC (.int 0))) mNil)))) (.nm 3) (mSeq (mSet 4 (mOp rAdd (mC (.int 1)) (mCall c_law_draw noE (mCons (mVar 0) (mCons (mC (.int 4)) mNil)))))
 (mSeq (mSet 5 (mLc (mRange1 (mOp rMul (mC (.int 2)) (mVar 1))) (.nm 3) mYes (mTup (mCons (mOp rFdiv (mVar 3) (mC (.int 2))) (mCons (mOp rSub (mOp rMul (mC (.int 2)) (mOp rMod (mVar 3) (mC (.int 2)))) (mC (.int 1))) mNil))) [3]))
 (mDrop (mBM "list" rAppend (mVar 2) (mCons (mCa rTuple (mCons (mLc (mIter (mVar 5)) (.nm 6) (mTest (mOp rEq (mCall c_law_draw noE (mCons (mVar 0) (mCons (mVar 4) mNil))) (mC (.int 0)))) (mOp rAdd (mVar 6) (mTup (mCons (mOp rAdd (mC (.int 1)) (mCall c_law_draw noE (mCons (mVar 0) (mCons (mC (.int 3)) mNil)))) mNil))) [6]) mNil)) mNil))))))
 (mRet (mCa rTuple (mCons (mVar 2) mNil)))))
abbrev N_law_any_log : List Str := ["_law_box_here", "_law_many", "_law_log", "_law_k", "_law_often", "_law_keys", "_law_key"]
-- _law_comparing_turn: ['_law_box_here', '_law_row', '_law_telling', '_law_mark', '_law_turn', '_law_house', '_law_side', '_law_letters']
abbrev m_law_comparing_turn : MTS :=
 (mSeq (mSet 2 mDisp0)
 (mSeq (mFor (mIter (mSortSet (mVar 1))) (.nm 3) (mPutD (mTup (mCons (mOp rIx (mLst (mCons (mC (.int 0)) (mCons (mC (.int 0)) (mCons (mC (.int 1)) (mCons (mC (.int 2)) mNil))))) (mCall c_law_draw noE (mCons (mVar 0) (mCons (mC (.int 4)) mNil)))) (mCons (mOp rIx (mLst (mCons (mC (.int 0)) (mCons (mC (.int 0)) (mCons (mC (.int 1)) (mCons (mC (.int 2)) mNil))))) (mCall c_law_draw noE (mCons (mVar 0) (mCons (mC (.int 4)) mNil)))) mNil))) (mVar 2) (mVar 3)))
 (mSeq (mSet 4 (mLst mNil))
 (mSeq (mFor (mEnum (mVar 1)) (.tp [(.nm 5), (.nm 3)]) (mFor (mZip (mTup (mCons (mUn rNeg (mC (.int 1))) (mCons (mC (.int 1)) mNil))) (mDGet (mVar 2) (mVar 3))) (.tp [(.nm 6), (.nm 7)]) (mIf (mTest (mOp rGtI (mVar 7) (mC (.int 0)))) (mDrop (mBM "list" rAppend (mVar 4) (mCons (mTup (mCons (mVar 5) (mCons (mVar 6) (mCons (mVar 7) mNil)))) mNil))) mNext)))
 (mRet (mCa rTuple (mCons (mVar 4) mNil)))))))
abbrev N_law_comparing_turn : List Str := ["_law_box_here", "_law_row", "_law_telling", "_law_mark", "_law_turn", "_law_house", "_law_side", "_law_letters"]
-- _law_comparing_log: ['_law_box_here', '_law_ring', '_law_many', '_law_log', '_law_row', '_law_sights', '_law_k']
abbrev m_law_comparing_log : MTS :=
 (mSeq (mPar3 3 4 5 (mLst mNil) (mOp rMulT (mTup (mCons (mC (.int 0)) mNil)) (mCa rLen (mCons (mVar 1) mNil))) (mOp rMul (mLst (mCons (mTup (mCons (mC (.int 0)) (mCons (mC (.int 0)) mNil))) mNil)) (mCa rLen (mCons (mVar 1) mNil))))
 (mSeq (mFor (mRange1 (mVar 2)) (.nm 6) (mSeq (mDrop (mBM "list" rAppend (mVar 3) (mCons (mCall c_law_comparing_turn noE (mCons (mVar 0) (mCons (mVar 4) mNil))) mNil)))
 (mAsg (mCall c_law_behind noE (mCons (mVar 1) (mCons (mVar 4) (mCons (mVar 5) (mCons (mOp rIx (mVar 3) (mUn rNeg (mC (.int 1)))) mNil))))) (.tp [(.nm 4), (.nm 5)]))))
 (mRet (mCa rTuple (mCons (mVar 3) mNil)))))
abbrev N_law_comparing_log : List Str := ["_law_box_here", "_law_ring", "_law_many", "_law_log", "_law_row", "_law_sights", "_law_k"]
-- _law_same: ['_law_found', '_law_due', '_law_one', '_law_other']
abbrev m_law_same (n : Nat) : MTS :=
 (mSeq (mIf (mTest (mIsi "tuple" (mVar 1))) (mSeq (mIf (mOr (mNot (mTest (mIsi "tuple" (mVar 0)))) (mTest (mOp rNe (mCa rLen (mCons (mVar 0) mNil)) (mCa rLen (mCons (mVar 1) mNil))))) (mRet (mC (.bl false))) mNext)
 (mRet (mCa rAll (mCons (mLc (mZip (mVar 0) (mVar 1)) (.tp [(.nm 2), (.nm 3)]) mYes (mCall (c_law_same n) noE (mCons (mVar 2) (mCons (mVar 3) mNil))) [2, 3]) mNil)))) mNext)
 (mSeq (mIf (mTest (mIsi "str" (mVar 1))) (mRet (mAndV (mIsi "str" (mVar 0)) (mOp rEq (mVar 0) (mVar 1)))) mNext)
 (mSeq (mIf (mTest (mOp (rIs false) (mVar 1) (mC .non))) (mRet (mOp (rIs false) (mVar 0) (mC .non))) mNext)
 (mRet (mAndV (mIsi "int" (mVar 0)) (mAndV (mNotV (mTest (mIsi "bool" (mVar 0)))) (mOp rEq (mVar 0) (mVar 1))))))))
abbrev N_law_same : List Str := ["_law_found", "_law_due", "_law_one", "_law_other"]
-- law: ['_law_script', '_law_box_here', '_law_again', '_law_ring', '_law_log', '_law_rows', '_law_k', '_law_row', '_law_due', '_law_house', '_law_mark']
abbrev m_law : MTS :=
 (mSeq (mSet 1 (mCall c_law_box noE (mCons (mVar 0) mNil)))
 (mSeq (mFor (mRange1 (mC (.int 3))) (.nm 2) (mSeq (mSet 3 (mCall c_law_small_ring noE (mCons (mVar 1) (mCons (mC (.int 11)) mNil))))
 (mSeq (mSet 4 (mOp rIx (mLst (mCons (mCall c_law_any_log noE (mCons (mVar 1) (mCons (mCa rLen (mCons (mVar 3) mNil)) mNil))) (mCons (mCall c_law_comparing_log noE (mCons (mVar 1) (mCons (mVar 3) (mCons (mC (.int 6)) mNil)))) mNil))) (mCall c_law_draw noE (mCons (mVar 1) (mCons (mC (.int 2)) mNil)))))
 (mSeq (mSet 5 (mCall c_law_marks noE (mCons (mVar 3) (mCons (mVar 4) mNil))))
 (mFor (mEnum (mVar 5)) (.tp [(.nm 6), (.nm 7)]) (mSeq (mSet 8 (mCa rTuple (mCons (mLc (mEnum (mVar 7)) (.tp [(.nm 9), (.nm 10)]) (mTest (mOp rEq (mBMT rCount (mVar 7) (mCons (mVar 10) mNil)) (mC (.int 1)))) (mVar 9) [9, 10]) mNil)))
 (mIf (mNot (mTest (mCall (c_law_same 3) noE (mCons (mCall c_alone noE (mCons (mVar 3) (mCons (mSl rSl (mVar 4) mNo (mPart (mVar 6))) mNil))) (mCons (mVar 8) mNil))))) (mRet (mC (.bl false))) mNext)))))))
 (mRet (mOp rEq (mCall c_alone noE (mCons (mTup (mCons (mC (.int 3)) mNil)) (mCons (mTup mNil) mNil))) (mTup (mCons (mC (.int 0)) mNil))))))
abbrev N_law : List Str := ["_law_script", "_law_box_here", "_law_again", "_law_ring", "_law_log", "_law_rows", "_law_k", "_law_row", "_law_due", "_law_house", "_law_mark"]
theorem cut_to {xs : List D} {k : Nat} : cutD xs none (some (k : Int)) = xs.take k := by
  unfold cutD
  have e1 : HT.sIx xs.length 0 none = 0 := rfl
  have e2 : HT.sIx xs.length xs.length (some (k : Int)) = min k xs.length := by
    show (if (k : Int) < 0 then ((k : Int) + (xs.length : Int)).toNat else min (k : Int).toNat xs.length) = _
    rw [if_neg (by omega), Int.toNat_natCast]
  rw [e1, e2, List.drop_zero, Nat.sub_zero]
  by_cases h : k ≤ xs.length
  · rw [Nat.min_eq_left h]
  · rw [Nat.min_eq_right (by omega), List.take_of_length_le (Nat.le_refl _), List.take_of_length_le (by omega)]
theorem cut_from {xs : List D} {k : Nat} : cutD xs (some (k : Int)) none = xs.drop k := by
  unfold cutD
  have e1 : HT.sIx xs.length 0 (some (k : Int)) = min k xs.length := by
    show (if (k : Int) < 0 then ((k : Int) + (xs.length : Int)).toNat else min (k : Int).toNat xs.length) = _
    rw [if_neg (by omega), Int.toNat_natCast]
  have e2 : HT.sIx xs.length xs.length none = xs.length := rfl
  rw [e1, e2]
  by_cases h : k ≤ xs.length
  · rw [Nat.min_eq_left h, List.take_of_length_le (by rw [List.length_drop]; omega)]
  · rw [Nat.min_eq_right (by omega), List.drop_eq_nil_of_le (Nat.le_refl _), List.drop_eq_nil_of_le (by omega), List.take_nil]
theorem memI {x : D} {xs : List Int} (h : x ∈ xs.map D.int) : ∃ i, x = .int i ∧ i ∈ xs := let ⟨i, a, b⟩ := List.mem_map.mp h; ⟨i, b.symm, a⟩
theorem Fr.wk {S : List Addr} {h h1 : MH} (a : Fr [] h h1) : Fr S h h1 := a.mono (by simp)
/-! ### the box -/
theorem len_law_box : ∀ ds h Q E, c_law_box ds h Q E → ds.length = 1 := by rintro ds h Q E ⟨a, rfl, _⟩; rfl
theorem len_law_draw : ∀ ds h Q E, c_law_draw ds h Q E → ds.length = 2 := by rintro ds h Q E ⟨a, b, c, d, rfl, _⟩; rfl
theorem augS_ {r : MR2} {o i e : MTE} {D' : MEnds} {env : ME} {h : MH} (q : o env h fun x h1 => i env h1 fun y h2 => rIx x y h2 (fun z h3 => e env h3 fun w h4 => r z w h4 fun u h5 => rSetL x y u h5 fun h6 => D'.nx env h6) ∧ ∃ a, x = .ref a) : mAugS r o i e D' env h := q
theorem p_law_box : ∀ ds h Q E, c_law_box ds h Q E → m_law_box { nx := fun _ h' => Q .non h', rt := Q } (mstart N_law_box ds) h := by
  rintro ds h Q E ⟨ns, rfl, hl, q⟩
  have cp : CPow 10 18 := ⟨by decide, by decide, by decide⟩
  have hc : cutD (ns.map D.int) none (some 63) = ns.map D.int := by
    rw [show (63 : Int) = ((63 : Nat) : Int) from rfl, cut_to, List.take_of_length_le (by rw [List.length_map]; omega)]
  walk_at "n"
  walk_at "n"
  intro p1 np1
  generalize eX : up _ p1 _ = h1
  obtain ⟨e1, f1⟩ := new_facts eX np1
  clear eX
  refine forW (fun k env h' => ∃ (s : Int) (x2 : Option D), env = [some (.rl (ns.map .int)), some (.int s), x2] ∧ 0 ≤ s ∧ s < 2 ^ 62 ∧ h' = h1) ⟨5, _, rfl, by decide, by decide, rfl⟩ (fun _ _ _ z => by obtain ⟨_, _, _, _, _, rfl⟩ := z; exact e1) ?_ ?_
  · rintro k env h' hk ⟨s, x2, rfl, s0, s1, rfl⟩
    rw [srcD_n, List.length_map] at hk
    rw [srcD_item, getD_map hk]
    refine ⟨_, rfl, ?_⟩
    generalize ns[k] = c
    walk_at "n"
    rw [show (10 : Int) ^ 18 = 1000000000000000000 from rfl]
    exact ⟨mulOkR (by decide) (by decide), by decide, Int.emod_nonneg _ (by decide), by have := Int.emod_lt_of_pos (s * 1009 + c + 7) (show (0 : Int) < 1000000000000000000 + 9 by decide); omega⟩
  rintro env h' ⟨s, x2, rfl, s0, s1, rfl⟩
  dsimp only
  walk_at "n"
  intro p3 np3
  generalize eX : up _ p3 _ = h3
  obtain ⟨e3, f3⟩ := new_facts eX np3
  clear eX
  refine lcL ns .int (fun x => if decide ((10 : Int) ^ 18 ≤ (if x < 0 then -x else x)) = true then some (.int (if x < 0 then -x else x)) else none) (fun h4 f4 => f4.at0 e3) (by omega) (fun x h4 hx f4 => ?_) (fun p4 h4 f4 np4 e4 => ?_)
  · refine ⟨_, rfl, fun R r => ?_⟩
    have r := r h4 .refl
    walk_at "m"
    generalize (if x < 0 then -x else x) = z at r ⊢
    by_cases c : decide ((10 : Int) ^ 18 ≤ z) = true
    · rw [if_pos c] at r ⊢
      exact r
    · rw [if_neg c] at r ⊢
      exact r
  obtain ⟨xs, ex, lx⟩ : ∃ xs : List Int, h4 p4 = some (.lst (xs.map .int)) ∧ xs.length ≤ 63 := by
    rw [fm_if] at e4
    refine ⟨(ns.filter fun x => decide ((10 : Int) ^ 18 ≤ (if x < 0 then -x else x))).map fun x => if x < 0 then -x else x, by rw [e4, List.map_map]; rfl, ?_⟩
    rw [List.length_map]
    have := List.length_filter_le (fun x => decide ((10 : Int) ^ 18 ≤ (if x < 0 then -x else x))) ns
    omega
  intro p5 np5
  generalize eX : up _ p5 _ = h5
  obtain ⟨e5, f5⟩ := new_facts eX np5
  clear eX
  have f45 := f1.trans (f3.trans (f4.trans f5))
  exact q p5 p4 h5 f45 ((f1.trans (f3.trans f4)).free np5) ((f1.trans f3).free np4) ⟨xs, s, 0, e5, f5.at0 ex, Ne.symm (ne_of ex np5), lx, s0, s1, by decide, by decide⟩
theorem p_law_draw : ∀ ds h Q E, c_law_draw ds h Q E → m_law_draw { nx := fun _ h' => Q .non h', rt := Q } (mstart N_law_draw ds) h := by
  rintro ds h Q E ⟨a, b, many, t, rfl, ⟨xs, s1, s2, ea, eb, nab, xl, a1, a2, a3, a4⟩, m0, m1, q⟩
  have dm : DivOk many := divOk m0 m1
  have i0 : ∀ x y : D, atI [.ref b, x, y] 0 = some (.ref b) := fun x y => rfl
  have i1 : ∀ x y : D, atI [.ref b, x, y] 1 = some x := fun x y => rfl
  have i2 : ∀ x y : D, atI [.ref b, x, y] 2 = some y := fun x y => rfl
  walk_at "n"
  intro p np
  generalize eX : up _ p _ = h1
  obtain ⟨e1, f1⟩ := new_facts eX np
  clear eX
  have ea1 := f1.at0 ea
  have eb1 := f1.at0 eb
  refine neD_ll (xs := xs) (ys := []) eb1 e1 ?_
  refine ⟨_, rfl, ?_⟩
  clear e1 np ea eb
  cases xs with
  | cons x xs =>
    rw [show (!decide (x :: xs = [])) = true from rfl]
    have r0 := Int.emod_nonneg x (show many ≠ 0 by omega)
    have r1 := Int.emod_lt_of_pos x m0
    have eb1 : h1 b = some (.lst (.int x :: xs.map .int)) := eb1
    have i3 : ∀ (y : D) (ys : List D), atI (y :: ys) 0 = some y := fun y ys => atI_nat (j := 0) rfl
    walk_at "m"
    walk_at "n"
    walk_at "n"
    refine ⟨0, by rw [if_pos (by omega)], ?_⟩
    have ea2 : up h1 b (.lst (.int (x / many) :: xs.map .int)) a = some (.lst [.ref b, .int s1, .int s2]) := by rw [up_ne nab]; exact ea1
    have eb2 : up h1 b (.lst (.int (x / many) :: xs.map .int)) b = some (.lst (.int (x / many) :: xs.map .int)) := up_same
    have f2 : Fr [a, b] h1 (up h1 b (.lst (.int (x / many) :: xs.map .int))) := Fr.put (by simp)
    have eset : (D.int x :: xs.map D.int).set 0 (.int (x / many)) = .int (x / many) :: xs.map .int := rfl
    rw [eset]
    generalize up h1 b (.lst (.int (x / many) :: xs.map .int)) = h2 at ea2 eb2 f2 ⊢
    have f02 : Fr [a, b] h h2 := (Fr.wk f1).trans f2
    clear eb1 ea1 eset f1 f2
    walk_at "n"
    refine ite_ (fun c => ?_) (fun c => ?_)
    · walk_at "n"
      have xl' : xs.length + 1 < 2 ^ 62 := by rw [List.length_cons] at xl; omega
      refine ⟨by omega, xl', ?_⟩
      walk_at "n"
      refine q _ _ r0 r1 ⟨xs, s1, s2, by rw [up_ne nab]; exact ea2, up_same, nab, by rw [List.length_cons] at xl; omega, a1, a2, a3, by omega⟩ (f02.trans (Fr.put (by simp)))
    · walk_at "n"
      walk_at "n"
      exact q _ h2 r0 r1 ⟨(x / many) :: xs, s1, s2, ea2, eb2, nab, xl, a1, a2, a3, by omega⟩ f02
  | nil =>
    rw [show (!decide (([] : List Int) = [])) = false from rfl]
    walk_at "m"
    refine next_ ?_
    dsimp only
    refine seq_ (augS_ ?_)
    walk_at "m"
    have ea3 : up h1 a (.lst [.ref b, .int s1, .int (s2 + 1)]) a = some (.lst [.ref b, .int s1, .int (s2 + 1)]) := up_same
    have eb3 : up h1 a (.lst [.ref b, .int s1, .int (s2 + 1)]) b = some (.lst (([] : List Int).map .int)) := by rw [up_ne (Ne.symm nab)]; exact eb1
    have f3 : Fr [a, b] h (up h1 a (.lst [.ref b, .int s1, .int (s2 + 1)])) := (Fr.wk f1).trans (Fr.put (by simp))
    generalize up h1 a (.lst [.ref b, .int s1, .int (s2 + 1)]) = h3 at ea3 eb3 f3 ⊢
    clear ea1 eb1 f1
    walk_at "n"
    refine ⟨mulOkL (by omega) (by omega), mulOkR (by decide) (by decide), mulOkR (by decide) (by decide), ?_⟩
    generalize ((s1 + (s2 + 1) * (s2 + 1) * 31 + (s2 + 1)) * 48271) = z
    have u0 := Int.emod_nonneg z (show (2147483647 : Int) ≠ 0 by decide)
    have u1 := Int.emod_lt_of_pos z (show (0 : Int) < 2147483647 by decide)
    generalize z % 2147483647 = u at u0 u1 ⊢
    walk_at "n"
    exact ⟨mulOkL (by omega) (by omega), ⟨by decide, by decide⟩, q _ h3 (Int.emod_nonneg _ (by omega)) (Int.emod_lt_of_pos _ m0) ⟨[], s1, s2 + 1, ea3, eb3, nab, by decide, a1, a2, by omega, by omega⟩ f3⟩
/-! ### floors -/
theorem len_order_around : ∀ ds h Q E, c_order_around ds h Q E → ds.length = 4 := by rintro ds h Q E ⟨a, b, c, d, rfl, _⟩; rfl
theorem len_law_from_behind : ∀ ds h Q E, c_law_from_behind ds h Q E → ds.length = 2 := by rintro ds h Q E ⟨a, rfl, _⟩; rfl
theorem len_law_mixed_up : ∀ ds h Q E, c_law_mixed_up ds h Q E → ds.length = 2 := by rintro ds h Q E ⟨a, b, c, d, e, rfl, _⟩; rfl
theorem len_law_places : ∀ ds h Q E, c_law_places ds h Q E → ds.length = 2 := by rintro ds h Q E ⟨a, b, c, d, rfl, _⟩; rfl
/-- places of unlike things, as a dict -/
def plG {α κ : Type} (f : α → κ) (S : List α) : List (κ × D) := S.zipIdx.map fun p => (f p.1, D.int (p.2 : Nat))
theorem plG_snoc {α κ : Type} (f : α → κ) (S : List α) (x : α) : plG f (S ++ [x]) = plG f S ++ [(f x, D.int (S.length : Nat))] := by
  unfold plG; rw [List.zipIdx_append, List.map_append]; simp
theorem plG_len {α κ : Type} (f : α → κ) (S : List α) : (plG f S).length = S.length := by unfold plG; rw [List.length_map, List.length_zipIdx]
section
variable {α κ : Type} [DecidableEq α] [DecidableEq κ] {f : α → κ} (inj : ∀ x y, f x = f y → x = y)
include inj
theorem plG_get {S : List α} {x : α} : dG (plG f S) (f x) = if x ∈ S then some (.int (S.idxOf x : Nat)) else none := by
  induction S using Fl.snocI with
  | nil => rfl
  | snoc S y ih =>
    unfold dG at ih ⊢
    rw [plG_snoc, List.find?_append, Option.map_or, ih, List.idxOf_append]
    by_cases c : x ∈ S
    · simp [c]
    · by_cases e : x = y
      · subst e; simp [c]
      · have : ¬ f y = f x := fun z => e (inj _ _ z).symm
        simp [c, e, this]
theorem plG_put {S : List α} {x : α} (h : x ∉ S) : dPutG (plG f S) (f x) (.int (S.length : Nat)) = plG f (S ++ [x]) := by
  unfold dPutG
  rw [if_neg, plG_snoc]
  intro z
  have e := plG_get inj (S := S) (x := x)
  rw [if_neg h] at e
  unfold dG at e
  rw [Option.map_eq_none_iff, List.find?_eq_none] at e
  obtain ⟨kv, h1, h2⟩ := List.any_eq_true.mp z
  exact e kv h1 h2
end
abbrev plD (S : List Int) : List (Key × D) := plG (fun x => (Sum.inl x : Key)) S
theorem plD_put {S : List Int} (nd : S.Nodup) {k : Nat} (hk : k < S.length) : dPutK (plD (S.take k)) (Sum.inl S[k]) (.int (k : Nat)) = plD (S.take (k + 1)) := by
  have no : S[k] ∉ S.take k := by
    intro z
    obtain ⟨j, hj, e⟩ := List.getElem_of_mem z
    rw [List.length_take] at hj
    rw [List.getElem_take] at e
    have := (Fl.inj_nd nd).mp e
    omega
  have := plG_put (f := fun x => (Sum.inl x : Key)) (fun x y z => Sum.inl.inj z) no
  rw [show (S.take k).length = k by rw [List.length_take]; omega, ← List.take_succ_eq_append_getElem hk] at this
  exact this
theorem plD_get {S : List Int} {x : Int} (hx : x ∈ S) : dV (plD S) (Sum.inl x) = some (.int (S.idxOf x : Nat)) := by
  have := plG_get (f := fun x => (Sum.inl x : Key)) (fun x y z => Sum.inl.inj z) (S := S) (x := x)
  rw [if_pos hx] at this
  exact this
theorem nm_atI {ring : List Int} (n0 : 0 < ring.length) (x : Int) : atI (ring.map D.int) (x % (ring.length : Int)) = some (.int (Fl.nm ring x)) := by
  have h1 := Fl.nm_at ring n0 x
  have h2 := Int.emod_nonneg x (show (ring.length : Int) ≠ 0 by omega)
  have e : x % (ring.length : Int) = (((x % (ring.length : Int)).toNat : Nat) : Int) := by omega
  rw [e]
  refine atI_nat ?_
  rw [List.getElem?_map, List.getElem?_eq_getElem h1]
  unfold Fl.nm
  rw [Fl.getD_lt h1]; rfl
theorem win_fm (ring : List Int) (x l r : Int) : (List.range (r + 1 - -l).toNat).filterMap (fun k => some (D.int (Fl.nm ring (x + (-l + (k : Nat)))))) = (Fl.win ring x l r).map .int := by
  rw [fm_some]
  unfold Fl.win Fl.stp rgI
  rw [List.map_map, List.map_map]; rfl
theorem p_order_around : ∀ ds h Q E, c_order_around ds h Q E → m_order_around { nx := fun _ h' => Q .non h', rt := Q } (mstart N_order_around ds) h := by
  rintro ds h Q E ⟨ring, x, l, r, rfl, n0, n64, l0, l1, r0, r1, q⟩
  have dv : DivOk (ring.length : Int) := divOk (by omega) (by omega)
  unfold tI
  walk_at "n"
  walk_at "n"
  refine ⟨by omega, by omega, by omega, by omega, ?_⟩
  refine lcP (fun k => some (.int (Fl.nm ring (x + (-l + (k : Nat)))))) (fun _ _ => trivial) (by rw [srcR_n]; omega) (fun k h' hk f => ⟨_, rfl, fun R r => ?_⟩) (fun p h1 f1 np e1 => ?_)
  · rw [srcR_item, Int.mul_one]
    have g := nm_atI n0 (x + (-l + (k : Nat)))
    have r := r h' .refl
    have nn : (0 : Int) < ring.length := by omega
    walk_at "m"
  rw [srcR_n, win_fm] at e1
  have len : (Fl.win ring x l r).length ≤ 2001 := by rw [Fl.win_len]; unfold Fl.stp; rw [Fl.rgI_len]; omega
  have qq : ∀ (S : List Int), S.Pairwise (· < ·) → (∀ z, z ∈ S ↔ z ∈ Fl.win ring x l r) → ∀ h', Fr [] h h' → Q (tI ((Fl.win ring x l r).map fun z => ((S.idxOf z : Nat) : Int))) h' := fun S a b h' f => by
    have := q h' f
    unfold Fl.oa at this
    rwa [← Fl.srtU_is a b] at this
  clear q
  generalize Fl.win ring x l r = N at e1 len qq
  walk_at "n"
  intro p2 np2
  generalize eX : up _ p2 _ = h2
  obtain ⟨e2, f2⟩ := new_facts eX np2
  clear eX
  walk_at "n"
  refine ⟨N, ?_, by omega, fun S p3 asc mem np3 => ?_⟩
  · exact .inl (f2.at0 e1)
  have e3 : up h2 p3 (.lst (S.map .int)) p3 = some (.lst (S.map .int)) := up_same
  have f3 : Fr [] h2 (up h2 p3 (.lst (S.map .int))) := .new np3
  generalize up h2 p3 (.lst (S.map .int)) = h3 at e3 f3 ⊢
  have nd : S.Nodup := asc.imp fun {a b} z => by omega
  have sl : S.length ≤ 2001 := Nat.le_trans (nodup_le nd fun z hz => (mem z).mp hz) len
  have fa := f1.trans (f2.trans f3)
  refine forW (fun k env h' => ∃ x7 x8, env = [some (D.tup (ring.map .int)), some (.int x), some (.int l), some (.int r), some (.int (ring.length : Nat)), some (.ref p), some (.ref p2), x7, x8, none] ∧ h' p2 = some (.dK (plD (S.take k))) ∧ h' p3 = some (.lst (S.map .int)) ∧ h' p = some (.lst (N.map .int)) ∧ Fr [] h h')
    ⟨_, _, rfl, f3.at0 e2, e3, f3.at0 (f2.at0 e1), fa⟩ (fun _ _ _ w => by obtain ⟨_, _, _, _, w, _⟩ := w; exact w) ?_ ?_
  · rintro k env h' hk ⟨x7, x8, rfl, g2, g3, g1, ff⟩
    have hk : k < S.length := by rw [srcE_n, List.length_map] at hk; exact hk
    refine ⟨_, by rw [srcE_item, getD_map hk]; rfl, ?_⟩
    have pp := plD_put nd hk
    have hp2 := f1.free np2
    have pl : (plD (S.take k)).length ≤ 2001 := by rw [plG_len, List.length_take]; omega
    walk_at "n"
    exact ⟨by omega, by rw [up_ne (Ne.symm (ne_of e2 np3))]; exact g3, by rw [up_ne (ne_of e1 np2)]; exact g1, ff.over hp2⟩
  · rintro env h' ⟨x7, x8, rfl, g2, g3, g1, ff⟩
    rw [srcE_n, List.length_map, List.take_length] at g2
    have qq := qq S asc mem
    walk_at "n"
    refine lcL N .int (fun z => some (.int ((S.idxOf z : Nat) : Int))) (fun h4 f4 => f4.at0 g1) (by omega) (fun z h4 hz f4 => ⟨_, rfl, fun R r => ?_⟩) (fun p4 h4 f4 np4 e4 => ?_)
    · have pg := plD_get ((mem z).mpr hz)
      have g2 := f4.at0 g2
      have r := r h4 .refl
      walk_at "m"
    · refine tup_fin e4 ?_
      have := qq h4 (ff.trans f4)
      unfold tI at this
      rwa [List.map_map] at this
/-! int tuples as keys -/
def ixD {α : Type} [DecidableEq α] (U : List α) (z : α) : Int := (U.idxOf z : Nat)
def kT (c : List Int) : NestedKey := .tup (c.map .num)
theorem kT_inj : ∀ c c' : List Int, kT c = kT c' → c = c' := by
  intro c c' h
  unfold kT at h
  have h := NestedKey.tup.inj h
  exact List.map_inj_right (fun x y z => NestedKey.num.inj z) |>.mp h
theorem kD_T (c : List Int) : kD (kT c) = tI c := by
  unfold kT tI
  rw [kD]
  congr 1
  induction c with
  | nil => rfl
  | cons a r ih => rw [List.map_cons, kDs, ih, kD]; rfl
theorem tup_T (c : List Int) : tupK (tI c) (kT c) := by
  refine ⟨(kD_T c).symm, ?_, _, rfl⟩
  have : ∀ c : List Int, NestedKey.depthAll (c.map .num) ≤ 1 := fun c => by
    induction c with
    | nil => rw [List.map_nil, NestedKey.depthAll]; decide
    | cons a r ih => rw [List.map_cons, NestedKey.depthAll, NestedKey.depth]; omega
  have := this c
  unfold kT
  rw [NestedKey.depth]; omega
theorem plain_T (c : List Int) : plainK (kT c) = true := by
  have : ∀ c : List Int, plainKs (c.map .num) = true := fun c => by
    induction c with
    | nil => rfl
    | cons a r ih => rw [List.map_cons, plainKs, ih]; rfl
  unfold kT
  rw [plainK, this]
/-- the steps of one house, sorted by names -/
theorem sd_of {ring : List Int} {x l r : Int} {ps : List (Int × Int)} (pm : ps.Perm ((Fl.stp l r).map fun s => (Fl.nm ring (x + s), s))) (so : ps.Pairwise leP) : Fl.Sd ring x l r (ps.map (·.2)) := by
  have pm2 : (ps.map (·.2)).Perm (Fl.stp l r) := by
    have := pm.map (·.2)
    rw [List.map_map] at this
    rw [show (Fl.stp l r).map ((fun p : Int × Int => p.2) ∘ fun s => (Fl.nm ring (x + s), s)) = Fl.stp l r from List.map_id _] at this
    exact this
  refine ⟨pm2, ?_⟩
  have nd : (ps.map (·.2)).Nodup := pm2.nodup_iff.mpr Fl.stp_nd
  rw [List.nodup_iff_pairwise_ne] at nd
  rw [List.pairwise_map] at nd ⊢
  refine List.Pairwise.imp_of_mem (fun {a b} ha hb z => ?_) (so.and nd)
  have n1 : ∀ a, a ∈ ps → a.1 = Fl.nm ring (x + a.2) := fun a ha => by
    obtain ⟨s, _, e⟩ := List.mem_map.mp (pm.mem_iff.mp ha)
    rw [← e]
  have h1 := n1 a ha
  have h2 := n1 b hb
  obtain ⟨z, ne⟩ := z
  unfold leP at z
  unfold Fl.lw
  rw [← h1, ← h2]
  omega
theorem idx_first {α : Type} [DecidableEq α] {U : List α} {x : α} (hx : x ∈ U) : U[U.idxOf x]? = some x ∧ ∀ m, m < U.idxOf x → ¬ U[m]? = some x := by
  have hi := List.idxOf_lt_length_of_mem hx
  refine ⟨by rw [List.getElem?_eq_getElem hi, List.getElem_idxOf hi], fun m hm z => ?_⟩
  have := List.not_of_lt_findIdx (p := (· == x)) (xs := U) (i := m) hm
  obtain ⟨h1, h2⟩ := List.getElem?_eq_some_iff.mp z
  rw [h2] at this
  simp at this
theorem LL_at {h : MH} {es : List D} {cs : List (List Int)} (l : LL h es cs) {k : Nat} (hk : k < cs.length) : ∃ q, es.getD k .non = .ref q ∧ h q = some (.lst (cs[k].map .int)) := by
  obtain ⟨q, e1, e2⟩ := l.get (List.getElem?_eq_getElem hk)
  exact ⟨q, by rw [List.getD_eq_getElem?_getD, e1]; rfl, e2⟩
/-! rings drawn -/
theorem p_law_from_behind : ∀ ds h Q E, c_law_from_behind ds h Q E → m_law_from_behind { nx := fun _ h' => Q .non h', rt := Q } (mstart N_law_from_behind ds) h := by
  rintro ds h Q E ⟨x, rfl, x0, x1, q⟩
  walk_at "n"
  walk_at "n"
  refine seq_ (while_ (fun m env h' => h' = h ∧ ∃ (y f s : Int), env = [some (.int y), some (.int 64), some (.int f), some (.int s)] ∧ s * 2 ^ m = 64 ∧ 0 < s ∧ s ≤ 64 ∧ fbk m y f = fbk 6 x 0 ∧ 0 ≤ f ∧ f < s) 6 ⟨rfl, x, 0, 1, rfl, rfl, by decide, by decide, rfl, by decide, by decide⟩ ?_)
  rintro m env h' ⟨rfl, y, f, s, rfl, mk, s0, s1, e, f0, f1⟩
  walk_at "m"
  refine ite_ (fun c => ?_) (fun c => ?_)
  · obtain ⟨m', rfl⟩ : ∃ m', m = m' + 1 := ⟨m - 1, by
      rcases m with _ | m
      · rw [Int.pow_zero, Int.mul_one] at mk; omega
      · rfl⟩
    have e := PLift.up e
    have mk2 : 2 * s * 2 ^ m' = 64 := by rw [← mk, Int.pow_succ, Int.mul_comm 2 s, Int.mul_assoc, Int.mul_comm 2 (2 ^ m')]
    replace mk2 := PLift.up mk2
    clear mk
    have y0 := Int.emod_nonneg y (show (2 : Int) ≠ 0 by decide)
    have y1 := Int.emod_lt_of_pos y (show (0 : Int) < 2 by decide)
    refine seq_ ?_
    walk_at "n"
    refine ⟨mulOkR (by omega) (by omega), ?_⟩
    walk_at "n"
    refine ⟨⟨by decide, by decide⟩, ?_⟩
    walk_at "n"
    refine ⟨mulOkR (by omega) (by omega), m', by omega, mk2.down, by omega, ?_, e.down, by omega, by omega⟩
    have := mk2.down
    have p1 : (1 : Int) ≤ 2 ^ m' := by have := Nat.one_le_two_pow (n := m'); exact_mod_cast this
    have := Int.mul_le_mul_of_nonneg_left p1 (show 0 ≤ 2 * s by omega)
    omega
  · have m0 : m = 0 := by
      rcases m with _ | m
      · rfl
      · have p1 : (1 : Int) ≤ 2 ^ m := by have := Nat.one_le_two_pow (n := m); exact_mod_cast this
        rw [Int.pow_succ, Int.mul_comm (2 ^ m), ← Int.mul_assoc] at mk
        have := Int.mul_le_mul_of_nonneg_left p1 (show 0 ≤ s * 2 by omega)
        omega
    subst m0
    have qq := q h' .refl
    rw [← e] at qq
    walk_at "n"
    exact qq
theorem p_law_mixed_up : ∀ ds h Q E, c_law_mixed_up ds h Q E → m_law_mixed_up { nx := fun _ h' => Q .non h', rt := Q } (mstart N_law_mixed_up ds) h := by
  rintro ds h Q E ⟨a, b, p, xs, t, rfl, bx, ep, na, nb, xl, q⟩
  walk_at "n"
  intro p1 np1
  generalize eX : up _ p1 _ = h1
  obtain ⟨e1, f1⟩ := new_facts eX np1
  clear eX
  have ep1 := f1.at0 ep
  walk_at "n"
  refine forW (fun k env h' => ∃ (x3 : Option D) (ys : List Int), env = [some (.ref a), some (.ref p), some (.ref p1), x3] ∧ h' p1 = some (.lst (ys.map .int)) ∧ ys.Perm (xs.take k) ∧ h' p = some (.lst (xs.map .int)) ∧ Bx h' a b (t + xs.length - k) ∧ Fr [a, b] h h')
    ⟨_, [], rfl, e1, .refl _, ep1, bx.fr f1, Fr.wk f1⟩ (fun _ _ _ w => by obtain ⟨_, _, _, _, _, w, _⟩ := w; exact w) ?_ ?_
  · rintro k env h2 hk ⟨x3, ys, rfl, g1, pm, gp, bx2, ff⟩
    have hk : k < xs.length := by rw [srcD_n, List.length_map] at hk; exact hk
    have yl : ys.length = k := by rw [pm.length_eq, List.length_take]; omega
    refine ⟨_, by rw [srcD_item, getD_map hk]; rfl, ?_⟩
    have np1a : a ≠ p1 ∧ b ≠ p1 := bx.ne np1
    refine drop_ ?_
    walk_at "m"
    have nin : p1 ∉ [a, b] := bx.nin np1
    have nip : p ∉ [a, b] := by simp [na, nb]
    refine ⟨a, b, (k : Int) + 1, t + xs.length - k - 1, rfl, bx2.less (by omega), by omega, by omega, fun r h3 r0 r1 bx3 f3 => ?_⟩
    have g3 := f3 p1 _ nin g1
    have gp3 := f3 p _ nip gp
    refine ⟨_, g3, by rw [List.length_map, yl, sizeLine_eq]; omega, r0, by omega, ys.take r.toNat ++ [xs[k]] ++ ys.drop r.toNat, ?_, ?_, ?_, ?_, ?_⟩
    · rw [up_same]; simp [List.map_take, List.map_drop]
    · rw [List.take_succ_eq_append_getElem hk]
      have p1 : (ys.take r.toNat ++ [xs[k]] ++ ys.drop r.toNat).Perm (ys.take r.toNat ++ ys.drop r.toNat ++ [xs[k]]) := by
        rw [List.append_assoc, List.append_assoc]
        exact List.Perm.append_left _ List.perm_append_comm
      rw [List.take_append_drop] at p1
      exact p1.trans (pm.append_right _)
    · rw [up_ne (ne_of ep np1)]; exact gp3
    · rw [show t + xs.length - (k + 1) = t + xs.length - k - 1 by omega]; exact bx3.put np1a.1 np1a.2
    · exact (ff.trans f3).over np1
  · rintro env h2 ⟨x3, ys, rfl, g1, pm, gp, bx2, ff⟩
    rw [srcD_n, List.length_map, List.take_length] at pm
    rw [srcD_n, List.length_map] at bx2
    have qq := q p1 ys h2 pm np1 g1 (bx2.less (by omega)) ff
    walk_at "n"
theorem fr_freeS {S : List Addr} {h h' : MH} {p : Addr} (f : Fr S h h') (k : ∀ q, q ∈ S → h' q ≠ none) (n : h' p = none) : h p = none := by
  cases e : h p with
  | none => rfl
  | some o =>
    by_cases c : p ∈ S
    · exact absurd n (k p c)
    · have := f p o c e
      rw [n] at this; cases this
def bh (x : Int) : Int := fbk 6 x 0
theorem bh_tab : ((List.range 64).map fun k => bh (k : Nat)).Nodup := by decide +kernel
theorem p_law_places : ∀ ds h Q E, c_law_places ds h Q E → m_law_places { nx := fun _ h' => Q .non h', rt := Q } (mstart N_law_places ds) h := by
  rintro ds h Q E ⟨a, b, many, t, rfl, bx, m0, m64, q⟩
  have rgp : (rgI 0 (many : Nat)).length = many := by unfold rgI; rw [List.length_map, List.length_range]; omega
  have rgn : (rgI 0 (many : Nat)).Nodup := Fl.rgI_asc.imp fun {a b} z => by omega
  walk_at "n"
  refine ⟨a, b, 6, t + 69, rfl, bx.less (by omega), by decide, by decide, fun w h1 w0 w1 bx1 f1 => ?_⟩
  walk_at "m"
  walk_at "n"
  refine ite_ (fun c => ?_) (fun c => ?_)
  · walk_at "n"
    refine ⟨RgOk.of_le (by omega) (by omega) (by omega) (by omega), fun p np => ⟨a, b, p, rgI 0 (many : Nat), t, rfl, (bx1.put (bx1.ne np).1 (bx1.ne np).2).less (by omega), up_same, Ne.symm (bx1.ne np).1, Ne.symm (bx1.ne np).2, by omega, fun q' ys h2 pm nq e bx2 f2 => ?_⟩⟩
    have nq1 : h1 q' = none := (Fr.new (o := .lst ((rgI 0 (many : Nat)).map .int)) np).free nq
    exact q q' ys h2 (by rw [pm.length_eq, rgp]) (pm.nodup_iff.mpr rgn) (fr_freeS f1 bx1.some nq1) e bx2 (f1.trans ((Fr.wk (Fr.new np)).trans f2))
  walk_at "n"
  walk_at "n"
  refine ite_ (fun c2 => ?_) (fun c2 => ?_)
  · walk_at "n"
    refine ⟨RgOk.of_le (by omega) (by omega) (by omega) (by omega), fun p np => ?_⟩
    exact q p _ _ rgp rgn (fr_freeS f1 bx1.some np) up_same ((bx1.put (bx1.ne np).1 (bx1.ne np).2).less (by omega)) (f1.trans (Fr.wk (Fr.new np)))
  walk_at "n"
  walk_at "n"
  refine ite_ (fun c3 => ?_) (fun c3 => ?_)
  · walk_at "n"
    refine ⟨((many : Int) - 1 - -1).toNat, RgC.neg (by omega) (by omega) (by omega) (by omega), by omega, fun p np => ?_⟩
    have n1 : ((many : Int) - 1 - -1).toNat = many := by omega
    rw [n1]
    refine q p (rgIC ((many : Int) - 1) (-1) many) _ (by unfold rgIC; rw [List.length_map, List.length_range]) ?_ (fr_freeS f1 bx1.some np) up_same ((bx1.put (bx1.ne np).1 (bx1.ne np).2).less (by omega)) (f1.trans (Fr.wk (Fr.new np)))
    unfold rgIC
    exact List.pairwise_map.mpr (List.nodup_range.imp fun {x y} ne z => ne (by omega))
  walk_at "n"
  walk_at "n"
  refine ite_ (fun c4 => ?_) (fun c4 => ?_)
  · walk_at "n"
    refine ⟨by omega, by omega, by omega, by omega, ?_⟩
    have mz : ∀ z : Nat, DivOk ((z : Int) + 1) → True := fun _ _ => trivial
    refine lcP (fun k => if decide ((many : Int) % (1 + (k : Nat)) = 0) = true then some (.int (1 + (k : Nat))) else none) (fun _ _ => trivial) (by rw [srcR_n]; omega) (fun k h2 hk f => ⟨_, rfl, fun R rr => ?_⟩) (fun p2 h2 f2 np2 e2 => ?_)
    · rw [srcR_n] at hk
      rw [srcR_item, Int.mul_one]
      have dv : DivOk (1 + (k : Int)) := divOk (by omega) (by omega)
      have rr := rr h2 .refl
      walk_at "m"
      by_cases cc : decide ((many : Int) % (1 + (k : Nat)) = 0) = true
      · rw [if_pos cc] at rr ⊢; exact ⟨by omega, rr⟩
      · rw [if_neg cc] at rr ⊢; exact ⟨by omega, rr⟩
    · rw [srcR_n, fm_if] at e2
      obtain ⟨zs, ez, z0, zm, zl⟩ : ∃ zs : List Int, h2 p2 = some (.lst (zs.map .int)) ∧ 0 < zs.length ∧ (∀ z, z ∈ zs → 1 ≤ z ∧ z ≤ many) ∧ zs.length ≤ 64 := by
        refine ⟨((List.range ((many : Int) + 1 - 1).toNat).filter fun (k : Nat) => decide ((many : Int) % (1 + (k : Int)) = 0)).map fun (k : Nat) => 1 + (k : Int), by rw [e2, List.map_map]; rfl, ?_, ?_, ?_⟩
        · rw [List.length_map]
          refine List.length_pos_of_mem (a := 0) (List.mem_filter.mpr ⟨List.mem_range.mpr (by omega), ?_⟩)
          simp [Int.emod_one]
        · intro z hz
          obtain ⟨k, hk, rfl⟩ := List.mem_map.mp hz
          have := List.mem_range.mp (List.mem_filter.mp hk).1
          omega
        · rw [List.length_map]
          have := List.length_filter_le (fun k : Nat => decide ((many : Int) % (1 + (k : Int)) = 0)) (List.range ((many : Int) + 1 - 1).toNat)
          rw [List.length_range] at this
          omega
      clear e2
      replace zm := PLift.up zm
      walk_at "n"
      refine ⟨a, b, zs.length, t + 68, rfl, (bx1.fr f2).less (by omega), by omega, by omega, fun v h3 v0 v1 bx3 f3 => ?_⟩
      have e3 := f3 p2 _ (bx1.nin np2) ez
      have hv : v.toNat < zs.length := by omega
      have z1 := zm.down _ (List.getElem_mem hv)
      have ev : atI (zs.map D.int) v = some (.int zs[v.toNat]) := by
        have := atI_nat (xs := zs.map D.int) (j := v.toNat) (v := .int zs[v.toNat]) (by rw [List.getElem?_map, List.getElem?_eq_getElem hv]; rfl)
        rwa [show ((v.toNat : Nat) : Int) = v by omega] at this
      generalize zs[v.toNat] = z at z1 ev
      walk_at "m"
      walk_at "n"
      refine ⟨RgOk.of_le (by omega) (by omega) (by omega) (by omega), fun p4 np4 => ?_⟩
      have l4 : (rgI 0 z).length = z.toNat := by unfold rgI; rw [List.length_map, List.length_range]; omega
      refine ⟨a, b, p4, rgI 0 z, t, rfl, (bx3.put (bx3.ne np4).1 (bx3.ne np4).2).less (by omega), up_same, Ne.symm (bx3.ne np4).1, Ne.symm (bx3.ne np4).2, by omega, fun p5 ys h5 pm np5 e5 bx5 f5 => ?_⟩
      have yl : ys.length = z.toNat := by rw [pm.length_eq, l4]
      have yn : ys.Nodup := pm.nodup_iff.mpr (Fl.rgI_asc.imp fun {a b} z => by omega)
      have yb : ∀ y, y ∈ ys → 0 ≤ y ∧ y < z := fun y hy => Fl.rgI_in.mp (pm.mem_iff.mp hy)
      have dv : DivOk z := divOk (by omega) (by omega)
      have ff : Fr [a, b] h h5 := f1.trans ((Fr.wk f2).trans (f3.trans ((Fr.wk (Fr.new np4)).trans f5)))
      replace yl := PLift.up yl
      replace l4 := PLift.up l4
      replace yb := PLift.up yb
      have mz : 0 < z := by omega
      walk_at "n"
      refine ⟨by omega, by omega, ?_⟩
      refine lcP (fun k => some (.int (ys.getD (k % z.toNat) 0 * many + (k : Nat) / z))) (fun _ _ => trivial) (by rw [srcR_n]; omega) (fun k h6 hk f => ⟨_, rfl, fun R rr => ?_⟩) (fun p6 h6 f6 np6 e6 => ?_)
      · rw [srcR_item, Int.mul_one, Int.zero_add]
        have e56 := f.at0 e5
        have hk2 : k % z.toNat < ys.length := by rw [yl.down]; exact Nat.mod_lt _ (by omega)
        have g : atI (ys.map D.int) ((k : Int) % z) = some (.int (ys.getD (k % z.toNat) 0)) := by
          rw [show (k : Int) % z = ((k % z.toNat : Nat) : Int) by rw [Int.natCast_emod]; congr 1; omega]
          refine atI_nat ?_
          rw [List.getElem?_map, List.getElem?_eq_getElem hk2, Fl.getD_lt hk2]; rfl
        have yb1 := yb.down (ys.getD (k % z.toNat) 0) (by rw [Fl.getD_lt hk2]; exact List.getElem_mem _)
        generalize ys.getD (k % z.toNat) 0 = y at g yb1 rr
        have rr := rr h6 .refl
        walk_at "m"
        exact mulOkR (by omega) (by omega)
      · rw [srcR_n, Int.toNat_natCast, fm_some] at e6
        have nf : h1 p6 = none := (f2.free (fr_freeS (f3.trans ((Fr.wk (Fr.new np4)).trans f5)) bx5.some np6))
        refine q p6 ((List.range many).map fun (k : Nat) => ys.getD (k % z.toNat) 0 * many + (k : Int) / z) h6 (by rw [List.length_map, List.length_range]) ?_ (fr_freeS f1 bx1.some nf) (by rw [e6, List.map_map]; rfl) ((bx5.fr f6).less (by omega)) (ff.trans (Fr.wk f6))
        refine List.pairwise_map.mpr (List.Pairwise.imp_of_mem (fun {i j} hi hj ne e => ne ?_) List.nodup_range)
        have hi := List.mem_range.mp hi
        have hj := List.mem_range.mp hj
        have hi2 : i % z.toNat < ys.length := by rw [yl.down]; exact Nat.mod_lt _ (by omega)
        have hj2 : j % z.toNat < ys.length := by rw [yl.down]; exact Nat.mod_lt _ (by omega)
        rw [Fl.getD_lt hi2, Fl.getD_lt hj2] at e
        have zi : (i : Int) / z = ((i / z.toNat : Nat) : Int) := by rw [Int.natCast_ediv]; congr 1; omega
        have zj : (j : Int) / z = ((j / z.toNat : Nat) : Int) := by rw [Int.natCast_ediv]; congr 1; omega
        rw [zi, zj] at e
        have di := Nat.div_add_mod i z.toNat
        have dj := Nat.div_add_mod j z.toNat
        have li := Nat.div_le_self i z.toNat
        have lj := Nat.div_le_self j z.toNat
        generalize i / z.toNat = qi at *
        generalize j / z.toNat = qj at *
        have ey : ys[i % z.toNat] = ys[j % z.toNat] := by
          generalize ys[i % z.toNat] = A at *
          generalize ys[j % z.toNat] = B at *
          rcases Int.lt_trichotomy A B with cc | cc | cc
          · have : (A + 1) * many ≤ B * many := Int.mul_le_mul_of_nonneg_right (by omega) (by omega)
            rw [Int.add_mul] at this; omega
          · exact cc
          · have : (B + 1) * many ≤ A * many := Int.mul_le_mul_of_nonneg_right (by omega) (by omega)
            rw [Int.add_mul] at this; omega
        rw [ey] at e
        have em := (Fl.inj_nd yn).mp ey
        rw [em] at di
        have : qi = qj := by omega
        rw [this] at di
        omega
  walk_at "n"
  walk_at "n"
  refine ⟨by omega, by omega, ?_⟩
  refine lcP (fun k => some (.int (bh (k : Nat)))) (fun _ _ => trivial) (by rw [srcR_n]; omega) (fun k h2 hk f => ⟨_, rfl, fun R rr => ?_⟩) (fun p2 h2 f2 np2 e2 => ?_)
  · rw [srcR_n] at hk
    rw [srcR_item, Int.mul_one, Int.zero_add]
    walk_at "m"
    exact ⟨_, rfl, by omega, by omega, fun h3 f3 => rr h3 f3⟩
  · rw [srcR_n, Int.toNat_natCast, fm_some] at e2
    refine q p2 ((List.range many).map fun k => bh (k : Nat)) h2 (by rw [List.length_map, List.length_range]) ?_ (fr_freeS f1 bx1.some np2) (by rw [e2, List.map_map]; rfl) ((bx1.fr f2).less (by omega)) (f1.trans (Fr.wk f2))
    have := bh_tab.sublist (List.Sublist.map (fun k : Nat => bh (k : Int)) (List.range_sublist.mpr m64))
    exact this
theorem mrgK_nodup {α : Type} (f : α → Key) (g : α → D) : ∀ (xs : List α) (acc : List (Key × D)), (acc.map (·.1) ++ xs.map f).Nodup → mrgK (xs.map fun x => (f x, g x)) acc = acc ++ xs.map fun x => (f x, g x)
  | [], acc, _ => by simp [mrgK]
  | x :: xs, acc, h => by
    have h0 : (acc.any fun kv => decide (kv.1 = f x)) = false := by
      rw [List.any_eq_false]
      intro kv hk e
      have e : kv.1 = f x := by simpa using e
      rw [List.nodup_append] at h
      exact h.2.2 kv.1 (List.mem_map.mpr ⟨kv, hk, rfl⟩) (f x) (by simp) e
    have : dPutK acc (f x) (g x) = acc ++ [(f x, g x)] := by
      unfold dPutK
      rw [h0]; rfl
    show mrgK (xs.map fun x => (f x, g x)) (dPutK acc (f x) (g x)) = _
    rw [this, mrgK_nodup f g xs _ (by simpa using h)]
    simp
theorem pw_nodup {xs : List Int} (h : xs.Pairwise (· < ·)) : xs.Nodup := h.imp (by intro a b h e; omega)
theorem nodup_map {α β : Type} {f : α → β} (fi : ∀ x y, f x = f y → x = y) {xs : List α} (h : xs.Nodup) : (xs.map f).Nodup := List.Pairwise.map f (fun a b h e => h (fi a b e)) h
theorem mrg_b {b : List (Int × Int)} (h : (b.map (·.1)).Pairwise (· < ·)) : mrgK (b.map fun p => (Sum.inl p.1, D.int p.2)) [] = b.map fun p => (Sum.inl p.1, D.int p.2) := by
  have := mrgK_nodup (fun p : Int × Int => (Sum.inl p.1 : Key)) (fun p => D.int p.2) b [] (by
    rw [List.map_nil, List.nil_append]
    have := nodup_map (f := fun i : Int => (Sum.inl i : Key)) (fun x y e => Sum.inl.inj e) (pw_nodup h)
    rwa [List.map_map] at this)
  simpa using this
theorem dV_in {b : List (Int × Int)} (h : (b.map (·.1)).Nodup) {p : Int × Int} (hp : p ∈ b) : dV (b.map fun p => (Sum.inl p.1, D.int p.2)) (Sum.inl p.1) = some (.int p.2) := by
  induction b with
  | nil => simp at hp
  | cons x b ih =>
    rw [List.map_cons, dV_cons]
    rw [List.map_cons, List.nodup_cons] at h
    rcases List.mem_cons.mp hp with rfl | hp
    · rw [if_pos rfl]
    · have ne : ¬ (Sum.inl x.1 : Key) = Sum.inl p.1 := fun e => h.1 (by rw [Sum.inl.inj e]; exact List.mem_map_of_mem hp)
      rw [if_neg ne]
      exact ih h.2 hp
theorem len_numbered : ∀ ds h Q E, c_numbered ds h Q E → ds.length = 1 := by rintro ds h Q E ⟨a, b, rfl, _⟩; rfl
theorem p_numbered : ∀ ds h Q E, c_numbered ds h Q E → m_numbered { nx := fun _ h' => Q .non h', rt := Q } (mstart N_numbered ds) h := by
  rintro ds h Q E ⟨a, ks, rfl, ea, tks, kl, q⟩
  replace tks := PLift.up tks
  have idk : ∀ x y : NestedKey, id x = id y → x = y := fun x y e => e
  walk_at "n"
  intro p1 np1
  generalize eX : up _ p1 _ = h1
  obtain ⟨e1, f1⟩ := new_facts eX np1
  clear eX
  have ea1 := f1.at0 ea
  walk_at "n"
  refine forW (fun k env h' => ∃ x2, env = [some (.ref a), some (.ref p1), x2] ∧ h' p1 = some (.dN (plG id (Fl.uq (ks.take k)))) ∧ h' a = some (.lst (ks.map kD)) ∧ Fr [] h h') ⟨_, rfl, e1, ea1, f1⟩ (fun _ _ _ w => by obtain ⟨_, _, _, w, _⟩ := w; exact w) ?_ ?_
  · rintro k env h' hk ⟨x2, rfl, g1, ga, ff⟩
    have hk : k < ks.length := by rw [srcD_n, List.length_map] at hk; exact hk
    refine ⟨_, by rw [srcD_item, getD_map hk]; rfl, ?_⟩
    have hp1 : h p1 = none := np1
    have ul := Fl.uq_len (ks.take k)
    rw [List.length_take] at ul
    have pl := plG_len (id : NestedKey → NestedKey) (Fl.uq (ks.take k))
    have ge : dG (plG id (Fl.uq (ks.take k))) ks[k] = _ := plG_get idk (S := Fl.uq (ks.take k)) (x := ks[k])
    have sn : Fl.uq (ks.take (k + 1)) = Fl.uqs (Fl.uq (ks.take k)) ks[k] := by rw [List.take_succ_eq_append_getElem hk, Fl.uq_snoc]
    have tk : tupK (kD ks[k]) ks[k] := ⟨rfl, (tks.down _ (List.getElem_mem hk)).2⟩
    have pk := (tks.down _ (List.getElem_mem hk)).1
    have isn : isDN h' p1 (plG id (Fl.uq (ks.take k))) := .inl g1
    refine drop_ ?_
    refine ⟨.ref p1, rfl, p1, rfl, ⟨_, isn⟩, ?_⟩
    walk_at "m"
    refine ⟨_, isn, ks[k], tk, pk, by omega, fun d hd => ?_, fun hn => ?_⟩
    · rw [ge] at hd
      by_cases c : ks[k] ∈ Fl.uq (ks.take k)
      · rw [show Fl.uqs (Fl.uq (ks.take k)) ks[k] = Fl.uq (ks.take k) from if_pos c]
      · rw [if_neg c] at hd; cases hd
    · rw [ge] at hn
      by_cases c : ks[k] ∈ Fl.uq (ks.take k)
      · rw [if_pos c] at hn; cases hn
      · have pp : dPutG (plG id (Fl.uq (ks.take k))) ks[k] _ = _ := plG_put idk c
        rw [show Fl.uqs (Fl.uq (ks.take k)) ks[k] = Fl.uq (ks.take k) ++ [ks[k]] from if_neg c]
        rw [plG_len]
        refine ⟨pp, by rw [up_ne (ne_of ea np1)]; exact ga, ff.over hp1⟩
  · rintro env h' ⟨x2, rfl, g1, ga, ff⟩
    rw [srcD_n, List.length_map, List.take_length] at g1
    walk_at "n"
    refine lcL ks kD (fun z => some (.int (ixD (Fl.uq ks) z))) (fun h4 f4 => f4.at0 ga) (by omega) (fun z h4 hz f4 => ⟨_, rfl, fun R r => ?_⟩) (fun p4 h4 f4 np4 e4 => ?_)
    · have pg : dG (plG id (Fl.uq ks)) z = some (.int (ixD (Fl.uq ks) z)) := by
        have := plG_get idk (S := Fl.uq ks) (x := z)
        rw [if_pos (Fl.uq_mem.mpr hz)] at this
        exact this
      have g2 : isDN h4 p1 (plG id (Fl.uq ks)) := .inl (f4.at0 g1)
      have r := r h4 .refl
      walk_at "m"
      exact ⟨_, g2, z, ⟨rfl, (tks.down z hz).2⟩, _, pg, r⟩
    · refine tup_fin e4 ?_
      have := q h4 (ff.trans f4)
      unfold tI Fl.nb at this
      rw [List.map_map] at this
      exact this
/-! ### marks -/
theorem len_told_in : ∀ ds h Q E, c_told_in ds h Q E → ds.length = 1 := by rintro ds h Q E ⟨a, rfl, _⟩; rfl
theorem len_sights_behind : ∀ ds h Q E, c_sights_behind ds h Q E → ds.length = 2 := by rintro ds h Q E ⟨a, b, c, d, rfl, _⟩; rfl
theorem len_heard_from : ∀ ds h Q E, c_heard_from ds h Q E → ds.length = 4 := by rintro ds h Q E ⟨a, b, c, d, e, rfl, _⟩; rfl
theorem len_row_behind : ∀ ds h Q E, c_row_behind ds h Q E → ds.length = 4 := by rintro ds h Q E ⟨a, b, c, d, e, f, rfl, _⟩; rfl
theorem len_marks : ∀ ds h Q E, c_marks ds h Q E → ds.length = 2 := by rintro ds h Q E ⟨a, b, rfl, _⟩; rfl
theorem k2_inj {h s g r : Int} (e : k2 h s = k2 g r) : h = g ∧ s = r := by
  unfold k2 at e
  simp only [NestedKey.tup.injEq, List.cons.injEq, NestedKey.num.injEq, and_true] at e
  exact e
theorem kD_2 {h s : Int} : kD (k2 h s) = .tup [.int h, .int s] := by
  unfold k2; rw [kD, kDs, kDs, kDs, kD, kD]
theorem tup_2 {h s : Int} : tupK (.tup [.int h, .int s]) (k2 h s) := ⟨kD_2.symm, Nat.le_of_ble_eq_true rfl, _, rfl⟩
theorem plain_2 {h s : Int} : plainK (k2 h s) = true := rfl
theorem tkv_get {t : Mk.Tn} (ok : Mk.TnOk t) {h s : Int} : dG (tkv t) (k2 h s) = if 0 < Mk.lk t h s then some (.int (Mk.lk t h s)) else none := by
  have key : ∀ {t : Mk.Tn}, (t.map fun x => (x.1, x.2.1)).Nodup → (∀ x, x ∈ t → x.1 = h → x.2.1 = s → dG (tkv t) (k2 h s) = some (.int x.2.2)) ∧ ((∀ x, x ∈ t → ¬ (x.1 = h ∧ x.2.1 = s)) → dG (tkv t) (k2 h s) = none) := by
    intro t
    induction t with
    | nil => intro _; exact ⟨fun x hx => (nomatch hx), fun _ => rfl⟩
    | cons y t ih =>
      intro nd
      rw [List.map_cons, List.nodup_cons] at nd
      have ih := ih nd.2
      unfold dG at ih ⊢
      show (∀ x, x ∈ y :: t → x.1 = h → x.2.1 = s → ((((k2 y.1 y.2.1, D.int y.2.2) :: tkv t).find? _).map _) = _) ∧ (_ → ((((k2 y.1 y.2.1, D.int y.2.2) :: tkv t).find? _).map _) = _)
      rw [List.find?_cons]
      by_cases c : y.1 = h ∧ y.2.1 = s
      · rw [decide_eq_true (show k2 y.1 y.2.1 = k2 h s by rw [c.1, c.2])]
        refine ⟨fun x hx e1 e2 => ?_, fun no => absurd c (no y (List.mem_cons_self ..))⟩
        rcases List.mem_cons.mp hx with rfl | hx
        · rfl
        · exact absurd (List.mem_map.mpr ⟨x, hx, by rw [e1, e2, c.1, c.2]⟩) nd.1
      · rw [decide_eq_false (show ¬ k2 y.1 y.2.1 = k2 h s from fun z => c (k2_inj z))]
        refine ⟨fun x hx e1 e2 => ?_, fun no => ih.2 fun x hx => no x (List.mem_cons_of_mem _ hx)⟩
        rcases List.mem_cons.mp hx with rfl | hx
        · exact absurd ⟨e1, e2⟩ c
        · exact ih.1 x hx e1 e2
  by_cases c : 0 < Mk.lk t h s
  · rw [if_pos c]
    obtain ⟨x, hx, e1, e2⟩ := (Mk.lk_pos ok).mp c
    rw [(key ok.nd).1 x hx e1 e2, ← e1, ← e2, Mk.lk_at ok hx]
  · rw [if_neg c]
    exact (key ok.nd).2 fun x hx e => c ((Mk.lk_pos ok).mpr ⟨x, hx, e.1, e.2⟩)
theorem mrgN_nodup {α : Type} (f : α → NestedKey) (g : α → D) : ∀ (xs : List α) (acc : List (NestedKey × D)), (acc.map (·.1) ++ xs.map f).Nodup → mrgN (xs.map fun x => (f x, g x)) acc = acc ++ xs.map fun x => (f x, g x)
  | [], acc, _ => by simp [mrgN]
  | x :: xs, acc, h => by
    have h0 : (acc.any fun kv => decide (kv.1 = f x)) = false := by
      rw [List.any_eq_false]
      intro kv hk e
      have e : kv.1 = f x := by simpa using e
      rw [List.nodup_append] at h
      exact h.2.2 kv.1 (List.mem_map.mpr ⟨kv, hk, rfl⟩) (f x) (by simp) e
    have : dPutG acc (f x) (g x) = acc ++ [(f x, g x)] := by
      unfold dPutG
      rw [h0]; rfl
    show mrgN (xs.map fun x => (f x, g x)) (dPutG acc (f x) (g x)) = _
    rw [this, mrgN_nodup f g xs _ (by simpa using h)]
    simp
theorem p_told_in : ∀ ds h Q E, c_told_in ds h Q E → m_told_in { nx := fun _ h' => Q .non h', rt := Q } (mstart N_told_in ds) h := by
  rintro ds h Q E ⟨t, rfl, ok, q⟩
  unfold tnD
  walk_at "n"
  refine lcL t trD (fun x => some (.tup [.tup [.int x.1, .int x.2.1], .int x.2.2])) (fun _ _ => trivial) (by have := ok.ln; omega) (fun x h1 hx f1 => ⟨_, rfl, fun R rr => ?_⟩) (fun p h1 f1 np e1 => ?_)
  · have rr := rr h1 .refl
    walk_at "m"
  · rw [fm_some] at e1
    have e1 : h1 p = some (.lst ((tkv t).map prN)) := by
      rw [e1]; unfold tkv; rw [List.map_map]
      congr 2
    refine ⟨_, e1, fun kv hkv => ?_, fun p2 np2 => ?_⟩
    · unfold tkv at hkv
      obtain ⟨x, _, rfl⟩ := List.mem_map.mp hkv
      exact ⟨rfl, Nat.le_of_ble_eq_true rfl, _, rfl⟩
    · have m := mrgN_nodup (fun x : Int × Int × Int => k2 x.1 x.2.1) (fun x => D.int x.2.2) t [] (by
        rw [List.map_nil, List.nil_append]
        have nd := ok.nd
        rw [List.nodup_iff_pairwise_ne] at nd ⊢
        rw [List.pairwise_map] at nd ⊢
        exact nd.imp fun {x y} ne e => ne (by rw [(k2_inj e).1, (k2_inj e).2]))
      rw [show mrgN (tkv t) [] = tkv t from by unfold tkv; rw [m]; rfl]
      exact q p2 _ (f1.free np2) up_same (f1.trans (.new np2))
theorem p_heard_from : ∀ ds h Q E, c_heard_from ds h Q E → m_heard_from { nx := fun _ h' => Q .non h', rt := Q } (mstart N_heard_from ds) h := by
  rintro ds h Q E ⟨row, d, t, g, s, rfl, ed, ok, g0, g1, q⟩
  have isn : isDN h d (tkv t) := .inl ed
  have ge := tkv_get ok (h := g) (s := s)
  have gr : atI (row.map D.int) g = some (.int (row.getD g.toNat 0)) := by
    rw [show g = ((g.toNat : Nat) : Int) by omega]
    refine atI_nat ?_
    rw [Int.toNat_natCast, List.getElem?_map, List.getElem?_eq_getElem (by omega), Fl.getD_lt (by omega)]; rfl
  unfold Mk.hf at q
  unfold tI
  refine seq_ (if_ ?_)
  walk_at "m"
  refine ⟨_, isn, k2 g s, tup_2, ?_⟩
  rw [ge]
  by_cases c : 0 < Mk.lk t g s
  · rw [if_pos c] at ge q ⊢
    rw [show (!(some (D.int (Mk.lk t g s))).isSome) = false from rfl]
    replace ge := PLift.up ge
    walk_at "g"
    exact ⟨_, isn, _, tup_2, _, ge.down, q⟩
  · rw [if_neg c] at ge q ⊢
    rw [show (!(none : Option D).isSome) = true from rfl]
    walk_at "g"
theorem at2_D {ss : List (Int × Int)} (n0 : 0 < ss.length) (x : Int) : atI (ss.map pD) (x % (ss.length : Int)) = some (pD (Mk.at2 ss x)) := by
  have h1 : (x % (ss.length : Int)).toNat < ss.length := by
    have := Int.emod_nonneg x (show (ss.length : Int) ≠ 0 by omega)
    have := Int.emod_lt_of_pos x (show (0 : Int) < ss.length by omega)
    omega
  have h2 := Int.emod_nonneg x (show (ss.length : Int) ≠ 0 by omega)
  have e : x % (ss.length : Int) = (((x % (ss.length : Int)).toNat : Nat) : Int) := by omega
  rw [e]
  refine atI_nat ?_
  rw [List.getElem?_map, List.getElem?_eq_getElem h1]
  unfold Mk.at2
  rw [Fl.getD_lt h1]; rfl
theorem p_sights_behind : ∀ ds h Q E, c_sights_behind ds h Q E → m_sights_behind { nx := fun _ h' => Q .non h', rt := Q } (mstart N_sights_behind ds) h := by
  rintro ds h Q E ⟨a, d, ss, t, rfl, ea, ed, ok, n0, n64, q⟩
  have dv : DivOk (ss.length : Int) := divOk (by omega) (by omega)
  walk_at "n"
  walk_at "n"
  intro p1 np1
  generalize eX : up _ p1 _ = h1
  obtain ⟨e1, f1⟩ := new_facts eX np1
  clear eX
  have ea1 := f1.at0 ea
  have ed1 := f1.at0 ed
  have n1 := ne_of ea np1
  have n2 := ne_of ed np1
  have sl := Mk.sbL_len (ss := ss) (t := t)
  walk_at "n"
  refine ⟨by omega, by omega, ?_⟩
  refine forW (fun k env h' => ∃ x4 x5 x6 x7 x8, env = [some (.ref a), some (.ref d), some (.int (ss.length : Nat)), some (.ref p1), x4, x5, x6, x7, x8] ∧ h' p1 = some (.lst (((List.range k).map (Mk.sb ss t)).map pD)) ∧ h' a = some (.lst (ss.map pD)) ∧ h' d = some (.dN (tkv t)) ∧ Fr [] h h') ⟨_, _, _, _, _, rfl, e1, ea1, ed1, f1⟩ (fun _ _ _ _ => trivial) ?_ ?_
  · rintro k env h' hk ⟨x4, x5, x6, x7, x8, rfl, g1, ga, gd, ff⟩
    rw [srcR_n, Int.toNat_natCast] at hk
    refine ⟨_, rfl, ?_⟩
    rw [srcR_item, Int.mul_one, Int.zero_add]
    have ek : atI (ss.map pD) ((k : Nat) : Int) = some (.tup [.int (ss.getD k (0, 0)).1, .int (ss.getD k (0, 0)).2]) := atI_nat (by rw [List.getElem?_map, List.getElem?_eq_getElem hk, Fl.getD_lt hk]; rfl)
    have e1 : atI (ss.map pD) (((k : Int) - 1) % (ss.length : Int)) = some (.tup [.int (Mk.at2 ss ((k : Int) - 1)).1, .int (Mk.at2 ss ((k : Int) - 1)).2]) := at2_D n0 ((k : Int) - 1)
    have e2 : atI (ss.map pD) (((k : Int) + 1) % (ss.length : Int)) = some (.tup [.int (Mk.at2 ss ((k : Int) + 1)).1, .int (Mk.at2 ss ((k : Int) + 1)).2]) := at2_D n0 ((k : Int) + 1)
    have isn : isDN h' d (tkv t) := .inl gd
    have ge1 := tkv_get ok (h := ((k : Int) - 1) % (ss.length : Int)) (s := 1)
    have ge2 := tkv_get ok (h := ((k : Int) + 1) % (ss.length : Int)) (s := -1)
    have sk : Mk.sb ss t k = (if 0 < Mk.lk t (((k : Int) - 1) % (ss.length : Int)) 1 then max (ss.getD k (0, 0)).1 ((Mk.at2 ss ((k : Int) - 1)).1 + 1) else (ss.getD k (0, 0)).1, if 0 < Mk.lk t (((k : Int) + 1) % (ss.length : Int)) (-1) then max (ss.getD k (0, 0)).2 ((Mk.at2 ss ((k : Int) + 1)).2 + 1) else (ss.getD k (0, 0)).2) := rfl
    have pos : (0 : Int) < ss.length := by omega
    replace sk := PLift.up sk
    generalize (ss.getD k (0, 0)).1 = sl1 at *
    generalize (ss.getD k (0, 0)).2 = sr1 at *
    replace ge1 := PLift.up ge1
    replace ge2 := PLift.up ge2
    generalize (Mk.at2 ss ((k : Int) - 1)).1 = ll at *
    generalize (Mk.at2 ss ((k : Int) + 1)).2 = rr at *
    generalize (Mk.at2 ss ((k : Int) - 1)).2 = lx at *
    generalize (Mk.at2 ss ((k : Int) + 1)).1 = rx at *
    generalize hB : ((k : Int) - 1) % (ss.length : Int) = B at *
    generalize hC : ((k : Int) + 1) % (ss.length : Int) = C at *
    replace hB := PLift.up hB
    replace hC := PLift.up hC
    refine seq_ (asg_ ?_)
    refine ⟨_, rfl, _, rfl, _, ga, _, ek, _, rfl, ?_⟩
    dsimp only
    walk_at "n"
    rw [hB.down, hC.down]
    refine seq_ (if_ ?_)
    walk_at "m"
    refine ⟨_, isn, _, tup_2, ?_⟩
    rw [ge1.down]
    by_cases c1 : 0 < Mk.lk t B 1
    case' pos =>
      rw [if_pos c1, show (some (D.int (Mk.lk t B 1))).isSome = true from rfl]
      have sk1 := sk.down
      rw [if_pos c1] at sk1
      replace sk1 := PLift.up sk1
      walk_at "m"
      walk_at "n"
      have hL : (if ll + 1 > sl1 then ll + 1 else sl1) = max sl1 (ll + 1) := by split <;> omega
      rw [hL]
      generalize max sl1 (ll + 1) = L at sk1 ⊢
    case' neg =>
      rw [if_neg c1, show (none : Option D).isSome = false from rfl]
      have sk1 := sk.down
      rw [if_neg c1] at sk1
      replace sk1 := PLift.up sk1
      walk_at "m"
      refine next_ ?_
      dsimp only
      generalize sl1 = L at sk1 ⊢
    all_goals
      refine seq_ (if_ ?_)
      walk_at "m"
      refine ⟨_, isn, _, tup_2, ?_⟩
      rw [ge2.down]
      by_cases c2 : 0 < Mk.lk t C (-1)
      · rw [if_pos c2, show (some (D.int (Mk.lk t C (-1)))).isSome = true from rfl]
        have sk2 := sk1.down
        rw [if_pos c2] at sk2
        replace sk2 := PLift.up sk2
        walk_at "m"
        walk_at "n"
        have hR : (if rr + 1 > sr1 then rr + 1 else sr1) = max sr1 (rr + 1) := by split <;> omega
        rw [hR]
        generalize max sr1 (rr + 1) = R at sk2 ⊢
        walk_at "n"
        refine ⟨by rw [List.length_range]; omega, ?_, by rw [up_ne n1]; exact ga, by rw [up_ne n2]; exact gd, ff.over np1⟩
        rw [List.range_succ, List.map_append, List.map_append]
        show _ = _ ++ [pD (Mk.sb ss t k)]
        rw [sk2.down]
      · rw [if_neg c2, show (none : Option D).isSome = false from rfl]
        have sk2 := sk1.down
        rw [if_neg c2] at sk2
        replace sk2 := PLift.up sk2
        walk_at "m"
        refine next_ ?_
        dsimp only
        walk_at "n"
        refine ⟨by rw [List.length_range]; omega, ?_, by rw [up_ne n1]; exact ga, by rw [up_ne n2]; exact gd, ff.over np1⟩
        rw [List.range_succ, List.map_append, List.map_append]
        show _ = _ ++ [pD (Mk.sb ss t k)]
        rw [sk2.down]
  · rintro env h' ⟨x4, x5, x6, x7, x8, rfl, g1, ga, gd, ff⟩
    rw [srcR_n, Int.toNat_natCast] at g1
    have qq := q p1 h' np1 g1 ff
    walk_at "n"
theorem kD_M (x : Mk.MKey) : kD (kM x) = .tup [.int x.m, .tup [pD x.l, pD x.r], pD x.s, tI x.o] := by
  have ho : ∀ c : List Int, kDs (c.map .num) = c.map .int := fun c => by
    induction c with
    | nil => rw [List.map_nil, kDs]; rfl
    | cons a r ih => rw [List.map_cons, kDs, ih, kD]; rfl
  unfold kM tI pD
  simp only [kD, kDs, ho]
theorem kM_inj : ∀ x y : Mk.MKey, kM x = kM y → x = y := by
  intro x y e
  unfold kM at e
  simp only [NestedKey.tup.injEq, List.cons.injEq, NestedKey.num.injEq, and_true] at e
  obtain ⟨e1, ⟨⟨a1, a2⟩, b1, b2⟩, ⟨c1, c2⟩, d⟩ := e
  have d := List.map_inj_right (fun x y z => NestedKey.num.inj z) |>.mp d
  cases x; cases y
  simp only [Mk.MKey.mk.injEq]
  exact ⟨e1, Prod.ext a1 a2, Prod.ext b1 b2, Prod.ext c1 c2, d⟩
theorem tk_M (x : Mk.MKey) : TK (kM x) := by
  have hp : ∀ c : List Int, plainKs (c.map .num) = true := fun c => by
    induction c with
    | nil => rfl
    | cons a r ih => rw [List.map_cons, plainKs, ih]; rfl
  have hd : ∀ c : List Int, NestedKey.depthAll (c.map .num) ≤ 1 := fun c => by
    induction c with
    | nil => rw [List.map_nil, NestedKey.depthAll]; decide
    | cons a r ih => rw [List.map_cons, NestedKey.depthAll, NestedKey.depth]; omega
  refine ⟨?_, ?_, _, rfl⟩
  · unfold kM
    simp only [plainK, plainKs, hp, Bool.and_self]
  · have := hd x.o
    unfold kM
    simp only [NestedKey.depth, NestedKey.depthAll]
    omega
theorem p_row_behind : ∀ ds h Q E, c_row_behind ds h Q E → m_row_behind { nx := fun _ h' => Q .non h', rt := Q } (mstart N_row_behind ds) h := by
  rintro ds h Q E ⟨ring, row, d, a, t, ss, rfl, ed, ea, ok, n0, n64, rl, sl, sbd, q⟩
  have pos : (0 : Int) < ring.length := by omega
  replace sl := PLift.up sl
  replace rl := PLift.up rl
  replace sbd := PLift.up sbd
  unfold tI
  walk_at "n"
  walk_at "n"
  intro p1 np1
  generalize eX : up _ p1 _ = h1
  obtain ⟨e1, f1⟩ := new_facts eX np1
  clear eX
  have ea1 := f1.at0 ea
  have ed1 := f1.at0 ed
  have n1 := ne_of ea np1
  have n2 := ne_of ed np1
  walk_at "n"
  refine ⟨by omega, by omega, ?_⟩
  refine forW (fun k env h' => ∃ x6 x7 x8 x9, env = [some (D.tup (ring.map .int)), some (D.tup (row.map .int)), some (.ref d), some (.ref a), some (.int (ring.length : Nat)), some (.ref p1), x6, x7, x8, x9] ∧ h' p1 = some (.lst (((List.range k).map fun h => kM (Mk.mkey ring row t ss h)).map kD)) ∧ h' a = some (.lst (ss.map pD)) ∧ h' d = some (.dN (tkv t)) ∧ Fr [] h h') ⟨_, _, _, _, rfl, e1, ea1, ed1, f1⟩ (fun _ _ _ _ => trivial) ?_ ?_
  · rintro k env h' hk ⟨x6, x7, x8, x9, rfl, g1, ga, gd, ff⟩
    rw [srcR_n, Int.toNat_natCast] at hk
    refine ⟨_, rfl, ?_⟩
    rw [srcR_item, Int.mul_one, Int.zero_add]
    have hks : k < ss.length := by rw [sl.down]; exact hk
    have hkr : k < row.length := by rw [rl.down]; exact hk
    have m1 := Int.emod_nonneg ((k : Int) - 1) (show (ring.length : Int) ≠ 0 by omega)
    have m2 := Int.emod_lt_of_pos ((k : Int) - 1) pos
    have m3 := Int.emod_nonneg ((k : Int) + 1) (show (ring.length : Int) ≠ 0 by omega)
    have m4 := Int.emod_lt_of_pos ((k : Int) + 1) pos
    have ek : atI (ss.map pD) ((k : Nat) : Int) = some (.tup [.int (ss.getD k (0, 0)).1, .int (ss.getD k (0, 0)).2]) := atI_nat (by rw [List.getElem?_map, List.getElem?_eq_getElem hks, Fl.getD_lt hks]; rfl)
    have er : atI (row.map D.int) ((k : Nat) : Int) = some (.int (row.getD k 0)) := atI_nat (by rw [List.getElem?_map, List.getElem?_eq_getElem hkr, Fl.getD_lt hkr]; rfl)
    have bd := sbd.down (ss.getD k (0, 0)) (by rw [Fl.getD_lt hks]; exact List.getElem_mem _)
    have mk : kD (kM (Mk.mkey ring row t ss k)) = .tup [.int (row.getD k 0), .tup [pD (Mk.hf row t (((k : Int) - 1) % (ring.length : Int)) 1), pD (Mk.hf row t (((k : Int) + 1) % (ring.length : Int)) (-1))], .tup [.int (ss.getD k (0, 0)).1, .int (ss.getD k (0, 0)).2], tI (Fl.oa (Fl.win ring (k : Nat) (ss.getD k (0, 0)).1 (ss.getD k (0, 0)).2))] := by rw [kD_M]; rfl
    replace mk := PLift.up mk
    walk_at "n"
    refine ⟨row, d, t, ((k : Int) - 1) % (ring.length : Int), 1, rfl, gd, ok, m1, by rw [rl.down]; exact m2, ?_⟩
    walk_at "m"
    refine ⟨row, d, t, ((k : Int) + 1) % (ring.length : Int), -1, rfl, gd, ok, m3, by rw [rl.down]; exact m4, ?_⟩
    walk_at "m"
    refine seq_ (asg_ ?_)
    refine ⟨_, rfl, _, rfl, _, ga, _, ek, _, rfl, ?_⟩
    dsimp only
    walk_at "n"
    refine ⟨ring, (k : Nat), (ss.getD k (0, 0)).1, (ss.getD k (0, 0)).2, rfl, n0, n64, by omega, by omega, by omega, by omega, fun h2 f2 => ?_⟩
    have g2 := f2.at0 g1
    have ga2 := f2.at0 ga
    have gd2 := f2.at0 gd
    clear g1 ga gd
    walk_at "m"
    refine ⟨by rw [List.length_range]; omega, ?_, by rw [up_ne n1]; exact ga2, by rw [up_ne n2]; exact gd2, (ff.trans f2).over np1⟩
    rw [List.range_succ, List.map_append, List.map_append]
    show _ = _ ++ [kD (kM (Mk.mkey ring row t ss k))]
    rw [mk.down]
  · rintro env h' ⟨x6, x7, x8, x9, rfl, g1, ga, gd, ff⟩
    rw [srcR_n, Int.toNat_natCast] at g1
    walk_at "n"
    refine ⟨p1, (List.range ring.length).map fun h => kM (Mk.mkey ring row t ss h), rfl, g1, fun k hk => ?_, by rw [List.length_map, List.length_range]; exact n64, fun h2 f2 => ?_⟩
    · obtain ⟨i, _, rfl⟩ := List.mem_map.mp hk
      exact tk_M _
    · have := q h2 (ff.trans f2)
      unfold Mk.rb at this
      rw [← Mk.nb_map kM_inj, List.map_map] at this
      exact this
theorem rep_flat {α : Type} (n : Nat) (x : α) : (List.replicate n [x]).flatten = List.replicate n x := by
  induction n with
  | zero => rfl
  | succ n ih => rw [List.replicate_succ, List.flatten_cons, ih, List.replicate_succ]; rfl
theorem stK_sb {ring : List Int} {log : List Mk.Tn} : ∀ {k : Nat}, k ≤ log.length → ∀ s, s ∈ (Mk.stK ring log k).2 → 0 ≤ s.1 ∧ s.1 ≤ k ∧ 0 ≤ s.2 ∧ s.2 ≤ k := by
  intro k
  induction k with
  | zero =>
    intro _ s hs
    have : (Mk.stK ring log 0).2 = List.replicate ring.length (0, 0) := rfl
    rw [this] at hs
    rw [(List.mem_replicate.mp hs).2]
    exact ⟨Int.le_refl _, Int.le_refl _, Int.le_refl _, Int.le_refl _⟩
  | succ k ih =>
    intro hk s hs
    have ih := ih (by omega)
    rw [Mk.stK_succ (by omega)] at hs
    generalize hX : (Mk.stK ring log k) = X at *
    have hs : s ∈ Mk.sbL X.2 log[k] := hs
    unfold Mk.sbL at hs
    obtain ⟨j, hj, rfl⟩ := List.mem_map.mp hs
    have hj := List.mem_range.mp hj
    have a1 := ih (X.2.getD j (0, 0)) (by rw [Fl.getD_lt hj]; exact List.getElem_mem _)
    have a2 : ∀ x : Int, 0 ≤ (Mk.at2 X.2 x).1 ∧ (Mk.at2 X.2 x).1 ≤ k ∧ 0 ≤ (Mk.at2 X.2 x).2 ∧ (Mk.at2 X.2 x).2 ≤ k := fun x => by
      have h1 : (x % (X.2.length : Int)).toNat < X.2.length := by
        have := Int.emod_nonneg x (show (X.2.length : Int) ≠ 0 by omega)
        have := Int.emod_lt_of_pos x (show (0 : Int) < X.2.length by omega)
        omega
      refine ih _ ?_
      unfold Mk.at2
      rw [Fl.getD_lt h1]; exact List.getElem_mem _
    have b1 := a2 ((j : Int) - 1)
    have b2 := a2 ((j : Int) + 1)
    unfold Mk.sb
    dsimp only
    refine ⟨?_, ?_, ?_, ?_⟩ <;> split <;> omega
theorem p_marks : ∀ ds h Q E, c_marks ds h Q E → m_marks { nx := fun _ h' => Q .non h', rt := Q } (mstart N_marks ds) h := by
  rintro ds h Q E ⟨ring, log, rfl, n0, n64, ll, ok, q⟩
  replace ok := PLift.up ok
  unfold tI lgD
  walk_at "n"
  walk_at "n"
  have r1 : (List.replicate ring.length [D.int 0]).flatten = (List.replicate ring.length (0 : Int)).map .int := by rw [rep_flat, List.map_replicate]
  have r2 : (List.replicate ring.length [D.tup [D.int 0, D.int 0]]).flatten = (List.replicate ring.length ((0, 0) : Int × Int)).map pD := by rw [rep_flat, List.map_replicate]
  refine ⟨by simp, by omega, by omega, ?_⟩
  rw [Int.toNat_natCast, r1]
  intro p1 np1
  generalize eX : up _ p1 _ = h1
  obtain ⟨e1, f1⟩ := new_facts eX np1
  clear eX
  walk_at "n"
  intro p2 np2
  refine ⟨by omega, by omega, by omega, ?_⟩
  rw [Int.toNat_natCast, r2]
  have f2 : Fr [] h1 (up h1 p2 (.lst [D.tup [D.int 0, D.int 0]])) := .new np2
  have e12 := f2.at0 e1
  generalize up h1 p2 (.lst [D.tup [D.int 0, D.int 0]]) = h2 at e12 f2 ⊢
  intro p3 np3
  generalize eX : up _ p3 _ = h3
  obtain ⟨e3, f3⟩ := new_facts eX np3
  clear eX
  have e13 := f3.at0 e12
  have n13 : p1 ≠ p3 := ne_of e12 np3
  have hp1 := np1
  clear e1 e12 r1 r2
  walk_at "n"
  refine forW (fun k env h' => ∃ x5 x6 p, env = [some (D.tup (ring.map .int)), some (D.tup (log.map tnD)), some (.int (ring.length : Nat)), some (.ref p1), some (.ref p), x5, x6] ∧ h' p1 = some (.lst (((List.range (k + 1)).map fun i => (Mk.stK ring log i).1).map tI)) ∧ h' p = some (.lst ((Mk.stK ring log k).2.map pD)) ∧ p1 ≠ p ∧ Fr [] h h') ⟨_, _, p3, rfl, e13, e3, n13, f1.trans (f2.trans f3)⟩ (fun _ _ _ _ => trivial) ?_ ?_
  · rintro k env h' hk ⟨x5, x6, p, rfl, g1, gp, n1p, ff⟩
    rw [srcD_n, List.length_map] at hk
    refine ⟨_, by rw [srcD_item, getD_map hk]; rfl, ?_⟩
    obtain ⟨l1, l2⟩ := Mk.stK_len (ring := ring) (log := log) (k := k)
    have sb := stK_sb (ring := ring) (log := log) (k := k) (by omega)
    have sb1 := stK_sb (ring := ring) (log := log) (k := k + 1) (by omega)
    have st := Mk.stK_succ (ring := ring) hk
    have tk := ok.down _ (List.getElem_mem hk)
    have last : atI (((List.range (k + 1)).map fun i => (Mk.stK ring log i).1).map tI) (-1) = some (tI (Mk.stK ring log k).1) := by
      rw [List.range_succ, List.map_append, List.map_append]; exact atI_last
    have e1 : (Mk.stK ring log (k + 1)).1 = Mk.rb ring (Mk.stK ring log k).1 log[k] (Mk.sbL (Mk.stK ring log k).2 log[k]) := by rw [st]; rfl
    have e2 : (Mk.stK ring log (k + 1)).2 = Mk.sbL (Mk.stK ring log k).2 log[k] := by rw [st]; rfl
    rw [e2] at sb1
    clear st sb
    replace e1 := PLift.up e1
    replace e2 := PLift.up e2
    replace sb1 := PLift.up sb1
    replace l1 := PLift.up l1
    replace l2 := PLift.up l2
    walk_at "n"
    refine ⟨log[k], rfl, tk, fun p4 h4 np4 e4 f4 => ?_⟩
    have g14 := f4.at0 g1
    have gp4 := f4.at0 gp
    clear g1 gp
    walk_at "n"
    refine ⟨p, p4, (Mk.stK ring log k).2, log[k], rfl, gp4, e4, tk, by rw [l2.down]; exact n0, by rw [l2.down]; exact n64, fun p5 h5 np5 e5 f5 => ?_⟩
    have g15 := f5.at0 g14
    have e45 := f5.at0 e4
    have n15 := ne_of g14 np5
    clear g14 gp4 e4
    walk_at "n"
    refine ⟨ring, (Mk.stK ring log k).1, p4, p5, log[k], Mk.sbL (Mk.stK ring log k).2 log[k], rfl, e45, e5, tk, n0, n64, l1.down, by rw [Mk.sbL_len]; exact l2.down, fun s hs => by have := sb1.down s hs; omega, fun h6 f6 => ?_⟩
    have g16 := f6.at0 g15
    have e56 := f6.at0 e5
    rw [← e1.down]
    clear g15 e5 last
    walk_at "m"
    refine ⟨by rw [List.length_range]; omega, ?_, by rw [up_ne (Ne.symm n15), e2.down]; exact e56, (ff.trans (f4.trans (f5.trans f6))).over hp1⟩
    rw [List.range_succ (n := k + 1), List.map_append, List.map_append]; rfl
  · rintro env h' ⟨x5, x6, p, rfl, g1, gp, n1p, ff⟩
    rw [srcD_n, List.length_map] at g1
    have qq := q h' ff
    unfold Mk.mks at qq
    walk_at "n"
/-! ### marks, the law's own -/
theorem len_law_order : ∀ ds h Q E, c_law_order ds h Q E → ds.length = 3 := by rintro ds h Q E ⟨a, b, c, rfl, _⟩; rfl
theorem len_law_told : ∀ ds h Q E, c_law_told ds h Q E → ds.length = 3 := by rintro ds h Q E ⟨a, b, c, rfl, _⟩; rfl
theorem len_law_behind : ∀ ds h Q E, c_law_behind ds h Q E → ds.length = 4 := by rintro ds h Q E ⟨a, b, c, d, e, rfl, _⟩; rfl
theorem len_law_marks : ∀ ds h Q E, c_law_marks ds h Q E → ds.length = 2 := by rintro ds h Q E ⟨a, b, rfl, _⟩; rfl
/-- a comprehension whose elements are made anew -/
theorem lcE {env : ME} {e : MTE} {t : Tg} {S : MSrc} {h1 : MH} {Q : MQ} {tt : MTT} {vs : List Nat} (E : Nat → D → MH → MH → Prop) (stab : ∀ k d h0 h h2 p, E k d h0 h → h0 p ≠ none → (∀ b o, b ≠ p → h b = some o → h2 b = some o) → E k d h0 h2) (ok : ∀ h', Fr [] h1 h' → S.ok h') (hz : S.n ≤ 100000)
    (turn : ∀ k h', k < S.n → Fr [] h1 h' → ∃ env2, asg t (S.item k) (mwipe env vs) = some env2 ∧ ∀ R : Option D → MH → Prop,
      (∀ y h4, Fr [] h' h4 → E k y h' h4 → R (some y) h4) → tt env2 h' fun b h3 => if b = true then e env2 h3 fun y h4 => R (some y) h4 else R none h3)
    (fin : ∀ p h' es, Fr [] h1 h' → h1 p = none → h' p = some (.lst es) → es.length = S.n → (∀ k, k < S.n → ∃ h0, Fr [] h1 h0 ∧ E k (es.getD k .non) h0 h') → Q (.ref p) h') : LcW S t tt e vs env h1 Q := by
  intro p np
  refine ⟨fun k h' => Fr [] h1 h' ∧ ∃ acc, h' p = some (.lst acc) ∧ acc.length = k ∧ ∀ i, i < k → ∃ h0, Fr [] h1 h0 ∧ h0 p ≠ none ∧ E i (acc.getD i .non) h0 h', ⟨.new np, [], up_same, rfl, fun i hi => absurd hi (Nat.not_lt_zero _)⟩, ?_⟩
  rintro k h' hk ⟨fr, acc, ea, la, ia⟩
  refine ⟨ok h' fr, fun hl => ?_, fun z => fin p h' acc fr np ea (la.trans z) fun i hi => by obtain ⟨h0, f0, _, x⟩ := ia i (by omega); exact ⟨h0, f0, x⟩⟩
  obtain ⟨env2, eg, ht⟩ := turn k h' hl fr
  refine ⟨env2, eg, ?_⟩
  have key := ht (fun d h3 => match d with
    | some y => ∃ acc, h3 p = some (.lst acc) ∧ acc.length < sizeLine ∧ (Fr [] h1 (up h3 p (.lst (acc ++ [y]))) ∧ ∃ acc2, (up h3 p (.lst (acc ++ [y]))) p = some (.lst acc2) ∧ acc2.length = k + 1 ∧ ∀ i, i < k + 1 → ∃ h0, Fr [] h1 h0 ∧ h0 p ≠ none ∧ E i (acc2.getD i .non) h0 (up h3 p (.lst (acc ++ [y]))))
    | none => Fr [] h1 h3 ∧ ∃ acc, h3 p = some (.lst acc) ∧ acc.length = k + 1 ∧ ∀ i, i < k + 1 → ∃ h0, Fr [] h1 h0 ∧ h0 p ≠ none ∧ E i (acc.getD i .non) h0 h3) ?_
  · exact key
  · intro y h4 f4 ey
    have e4 := f4.at0 ea
    have wr : ∀ b o, b ≠ p → h4 b = some o → up h4 p (.lst (acc ++ [y])) b = some o := fun b o nb z => by rw [up_ne nb]; exact z
    have wr2 : ∀ b o, b ≠ p → h' b = some o → up h4 p (.lst (acc ++ [y])) b = some o := fun b o nb z => wr b o nb (f4.at0 z)
    refine ⟨acc, e4, by rw [sizeLine_eq]; omega, (fr.trans f4).over np, _, up_same, by rw [List.length_append, List.length_singleton, la], fun i hi => ?_⟩
    by_cases c : i < k
    · obtain ⟨h0, f0, n0, x⟩ := ia i c
      refine ⟨h0, f0, n0, ?_⟩
      rw [show (acc ++ [y]).getD i .non = acc.getD i .non by rw [List.getD_eq_getElem?_getD, List.getElem?_append_left (by omega), ← List.getD_eq_getElem?_getD]]
      exact stab _ _ _ _ _ p x n0 wr2
    · obtain rfl : i = k := by omega
      refine ⟨h', fr, by rw [ea]; exact fun z => (nomatch z), ?_⟩
      rw [show (acc ++ [y]).getD i .non = y by rw [List.getD_eq_getElem?_getD, List.getElem?_append_right (by omega), la]; simp]
      exact stab _ _ _ _ _ p ey (by rw [ea]; exact fun z => (nomatch z)) wr
/-- a new list of ints -/
def NL (F : Nat → List Int) (k : Nat) (d : D) (h0 h : MH) : Prop := ∃ q, d = .ref q ∧ h0 q = none ∧ h q = some (.lst ((F k).map .int))
theorem NL.stab {F : Nat → List Int} : ∀ k d h0 h h2 p, NL F k d h0 h → h0 p ≠ none → (∀ b o, b ≠ p → h b = some o → h2 b = some o) → NL F k d h0 h2 := by
  rintro k d h0 h h2 p ⟨q, rfl, n, e⟩ np w
  exact ⟨q, rfl, n, w q _ (fun z => np (z ▸ n)) e⟩
theorem LL_of {h : MH} : ∀ {es : List D} {cs : List (List Int)}, es.length = cs.length → (∀ k, k < cs.length → ∃ q, es.getD k .non = .ref q ∧ h q = some (.lst ((cs.getD k []).map .int))) → LL h es cs
  | [], [], _, _ => .nil
  | [], _ :: _, l, _ => by cases l
  | _ :: _, [], l, _ => by cases l
  | e :: es, c :: cs, l, k => by
    obtain ⟨q, e1, e2⟩ := k 0 (by simp)
    have e1 : e = .ref q := e1
    subst e1
    exact .cons e2 (LL_of (by simpa using l) fun i hi => k (i + 1) (by simpa using hi))
theorem p_law_told : ∀ ds h Q E, c_law_told ds h Q E → m_law_told { nx := fun _ h' => Q .non h', rt := Q } (mstart N_law_told ds) h := by
  rintro ds h Q E ⟨t, g, s, rfl, tl, q⟩
  unfold tnD
  walk_at "n"
  refine lcL t trD (fun x => if decide (x.1 = g ∧ x.2.1 = s) = true then some (.int x.2.2) else none) (fun _ _ => trivial) (by omega) (fun x h1 hx f1 => ⟨_, rfl, fun R rr => ?_⟩) (fun p h1 f1 np e1 => ?_)
  · have rr := rr h1 .refl
    walk_at "m"
    refine eqD_tt (xs := [x.1, x.2.1]) (ys := [g, s]) ?_
    refine ⟨_, rfl, ?_⟩
    have e : decide ([x.1, x.2.1] = [g, s]) = decide (x.1 = g ∧ x.2.1 = s) := by
      rw [decide_eq_decide]; simp
    rw [e]
    by_cases c : decide (x.1 = g ∧ x.2.1 = s) = true
    · rw [if_pos c] at rr ⊢; exact rr
    · rw [if_neg c] at rr ⊢; exact rr
  · rw [fm_if] at e1
    have e1 : h1 p = some (.lst (((t.filter fun x : Int × Int × Int => decide (x.1 = g ∧ x.2.1 = s)).map fun x => x.2.2).map .int)) := by rw [e1, List.map_map]; rfl
    exact ⟨_, e1, q h1 f1⟩
theorem p_law_order : ∀ ds h Q E, c_law_order ds h Q E → m_law_order { nx := fun _ h' => Q .non h', rt := Q } (mstart N_law_order ds) h := by
  rintro ds h Q E ⟨ring, x, s, rfl, n0, n64, a1, a2, b1, b2, q⟩
  have dv : DivOk (ring.length : Int) := divOk (by omega) (by omega)
  unfold tI pD
  walk_at "n"
  walk_at "n"
  refine ⟨by omega, by omega, by omega, by omega, ?_⟩
  refine lcP (fun k => some (.int (Fl.nm ring (x + (-s.1 + (k : Nat)))))) (fun _ _ => trivial) (by rw [srcR_n]; omega) (fun k h' hk f => ⟨_, rfl, fun R rr => ?_⟩) (fun p h1 f1 np e1 => ?_)
  · rw [srcR_item, Int.mul_one]
    have g := nm_atI n0 (x + (-s.1 + (k : Nat)))
    have rr := rr h' .refl
    have nn : (0 : Int) < ring.length := by omega
    walk_at "m"
  rw [srcR_n, win_fm] at e1
  have len : (Fl.win ring x s.1 s.2).length ≤ 1001 := by rw [Fl.win_len]; unfold Fl.stp; rw [Fl.rgI_len]; omega
  generalize Fl.win ring x s.1 s.2 = N at e1 len q
  walk_at "n"
  refine lcE (NL fun k => N.map fun y => (if N.getD k 0 < y then 1 else 0) - (if y < N.getD k 0 then 1 else 0)) NL.stab (fun h' f' => f'.at0 e1) (by rw [srcD_n, List.length_map]; omega) (fun k h2 hk f2 => ?_) (fun p2 h2 es f2 np2 e2 el ia => ?_)
  · rw [srcD_n, List.length_map] at hk
    have e12 := f2.at0 e1
    refine ⟨_, by rw [srcD_item, getD_map hk]; rfl, fun R rr => ?_⟩
    have gk : N.getD k 0 = N[k] := Fl.getD_lt hk 0
    replace gk := PLift.up gk
    walk_at "m"
    refine lcL N .int (fun y => some (.int ((if N[k] < y then 1 else 0) - (if y < N[k] then 1 else 0)))) (fun h' f' => f'.at0 e12) (by omega) (fun y h3 hy f3 => ⟨_, rfl, fun R2 r2 => ?_⟩) (fun p3 h3 f3 np3 e3 => ?_)
    · have r2 := r2 h3 .refl
      walk_at "m"
      simp only [decide_eq_true_eq]
      exact r2
    · rw [fm_some] at e3
      exact rr _ h3 f3 ⟨p3, rfl, np3, by dsimp only; rw [e3, gk.down, List.map_map]; rfl⟩
  · rw [srcD_n, List.length_map] at el ia
    have g : ∀ k, k < N.length → ∃ q, es.getD k .non = .ref q ∧ h1 q = none ∧ h2 q = some (.lst (((Mk.mat N).getD k []).map .int)) := fun k hk => by
      obtain ⟨h0, f0, q0, e, n, e2⟩ := ia k hk
      refine ⟨q0, e, f0.free n, ?_⟩
      rw [e2]
      have : (Mk.mat N).getD k [] = N.map fun y => (if N.getD k 0 < y then 1 else 0) - (if y < N.getD k 0 then 1 else 0) := by
        rw [Fl.getD_lt (by unfold Mk.mat; rw [List.length_map]; exact hk), Fl.getD_lt hk]
        simp only [Mk.mat, List.getElem_map]
      rw [this]
    have ml : (Mk.mat N).length = N.length := by unfold Mk.mat; rw [List.length_map]
    refine q p2 es h2 (f1.free np2) e2 (LL_of (by rw [el, ml]) fun k hk => ?_) (fun r hr => ?_) (f1.trans f2)
    · obtain ⟨q0, a, _, b⟩ := g k (by rw [← ml]; exact hk)
      exact ⟨q0, a, b⟩
    · obtain ⟨i, hi, e⟩ := List.getElem_of_mem hr
      obtain ⟨q0, a, b, _⟩ := g i (by rw [← el]; exact hi)
      rw [Fl.getD_lt hi, e] at a
      cases a
      exact f1.free b
theorem atI_mod {α : Type} {f : α → D} {xs : List α} {d0 : α} {x : Int} (h1 : -(xs.length : Int) ≤ x) (h2 : x < xs.length) : atI (xs.map f) x = some (f (xs.getD (x % (xs.length : Int)).toNat d0)) := by
  by_cases c : 0 ≤ x
  · rw [Int.emod_eq_of_lt c h2]
    obtain ⟨k, rfl⟩ : ∃ k : Nat, x = k := ⟨x.toNat, by omega⟩
    have hk : k < xs.length := by omega
    refine atI_nat ?_
    rw [Int.toNat_natCast, List.getElem?_map, List.getElem?_eq_getElem hk, Fl.getD_lt hk]; rfl
  · have e : x % (xs.length : Int) = x + xs.length := by
      rw [← Int.add_emod_right, Int.emod_eq_of_lt (by omega) (by omega)]
    rw [e]
    have hk : (x + xs.length).toNat < xs.length := by omega
    unfold atI ixN
    rw [List.length_map, if_neg c, if_pos (by omega), Option.bind_some, List.getElem?_map, List.getElem?_eq_getElem hk, Fl.getD_lt hk]; rfl
theorem psCs_eqv : ∀ cs es : List (List Int), PyData.eqvAll (cs.map psC) (es.map psC) = decide (cs = es)
  | [], [] => by simp [PyData.eqvAll]
  | [], _ :: _ => by simp [PyData.eqvAll]
  | _ :: _, [] => by simp [PyData.eqvAll]
  | x :: xs, y :: ys => by
    rw [List.map_cons, List.map_cons, PyData.eqvAll, psCs_eqv xs ys, psC_eqv, ← Bool.decide_and]
    exact decide_eq_decide.mpr (by rw [List.cons.injEq])
theorem eqD_LL {h : MH} {Q : MQ} {a b : Addr} {ds es : List D} {cs cs' : List (List Int)} (ea : h a = some (.lst ds)) (la : LL h ds cs) (eb : h b = some (.lst es)) (lb : LL h es cs') (q : Q (.bl (decide (cs = cs'))) h) : rEqD (.ref a) (.ref b) h Q := ⟨_, _, .lst ea la.dps, .lst eb lb.dps, psCs_shaped cs, psCs_shaped cs', by rw [PyData.eqv, psCs_eqv]; exact q⟩
theorem fil_no {p : Nat → Bool} {f : Nat → D} {k : Nat} (c : ¬ p k = true) : ((List.range (k + 1)).filter p).map f = ((List.range k).filter p).map f := by
  rw [List.range_succ, List.filter_append, List.filter_cons, if_neg c, List.filter_nil, List.append_nil]
theorem fil_yes {p : Nat → Bool} {f : Nat → D} {k : Nat} (c : p k = true) : ((List.range (k + 1)).filter p).map f = ((List.range k).filter p).map f ++ [f k] := by
  rw [List.range_succ, List.filter_append, List.filter_cons, if_pos c, List.filter_nil, List.map_append]; rfl
theorem p_law_behind : ∀ ds h Q E, c_law_behind ds h Q E → m_law_behind { nx := fun _ h' => Q .non h', rt := Q } (mstart N_law_behind ds) h := by
  rintro ds h Q E ⟨ring, row, a, ss, t, rfl, ea, ok, n0, n64, rl, sl, sbd, q⟩
  have pos : (0 : Int) < ring.length := by omega
  have tl := ok.ln
  replace sl := PLift.up sl
  replace rl := PLift.up rl
  replace sbd := PLift.up sbd
  unfold tI
  walk_at "n"
  walk_at "n"
  refine ⟨by omega, by omega, ?_⟩
  refine lcP (fun k => some (.int (Mk.hd t ring.length k).1)) (fun _ _ => trivial) (by rw [srcR_n]; omega) (fun k h1 hk f1 => ⟨_, rfl, fun R rr => ?_⟩) (fun p1 h1 f1 np1 e1 => ?_)
  · rw [srcR_item, Int.mul_one, Int.zero_add]
    walk_at "m"
    exact ⟨t, _, _, rfl, by omega, fun h2 f2 => rr h2 f2⟩
  rw [srcR_n, Int.toNat_natCast, fm_some] at e1
  have ea1 := f1.at0 ea
  walk_at "n"
  refine ⟨by omega, by omega, ?_⟩
  refine lcP (fun k => some (pD (Mk.hd t ring.length k))) (fun _ _ => trivial) (by rw [srcR_n]; omega) (fun k h2 hk f2 => ⟨_, rfl, fun R rr => ?_⟩) (fun p2 h2 f2 np2 e2 => ?_)
  · rw [srcR_n, Int.toNat_natCast] at hk
    rw [srcR_item, Int.mul_one, Int.zero_add]
    have e12 := f2.at0 e1
    have g : atI ((List.range ring.length).map fun k => D.int (Mk.hd t ring.length k).1) ((k : Nat) : Int) = some (.int (Mk.hd t ring.length k).1) := atI_nat (by rw [List.getElem?_map, List.getElem?_range hk]; rfl)
    walk_at "m"
    exact ⟨t, _, _, rfl, by omega, fun h3 f3 => rr h3 f3⟩
  rw [srcR_n, Int.toNat_natCast, fm_some] at e2
  have ea2 := f2.at0 ea1
  clear e1 ea ea1
  have f02 := f1.trans f2
  clear f1 f2 np1 np2
  walk_at "n"
  intro p3 np3
  generalize eX : up _ p3 _ = h3
  obtain ⟨e3, f3⟩ := new_facts eX np3
  clear eX
  have ea3 := f3.at0 ea2
  have e23 := f3.at0 e2
  have n3a := ne_of ea2 np3
  have n32 := ne_of e2 np3
  have hp3 := f02.free np3
  clear ea2 e2
  walk_at "n"
  refine ⟨by omega, by omega, ?_⟩
  refine forW (fun k env h' => ∃ x8 x11 x12, env = [some (D.tup (ring.map .int)), some (D.tup (row.map .int)), some (.ref a), some (.tup (t.map trD)), some (.int (ring.length : Nat)), some (.ref p1), some (.ref p2), some (.ref p3), x8, none, none, x11, x12, none, none, none] ∧ h' p3 = some (.lst (((List.range k).map (Mk.sb ss t)).map pD)) ∧ h' a = some (.lst (ss.map pD)) ∧ h' p2 = some (.lst ((List.range ring.length).map fun k => pD (Mk.hd t ring.length k))) ∧ Fr [] h h') ⟨_, _, _, rfl, e3, ea3, e23, f02.trans f3⟩ (fun _ _ _ _ => trivial) ?_ ?_
  · rintro k env h' hk ⟨x8, x11, x12, rfl, g1, ga, g2, ff⟩
    rw [srcR_n, Int.toNat_natCast] at hk
    refine ⟨_, rfl, ?_⟩
    rw [srcR_item, Int.mul_one, Int.zero_add]
    have hks : k < ss.length := by rw [sl.down]; exact hk
    have ek : atI (ss.map pD) ((k : Nat) : Int) = some (.tup [.int (ss.getD k (0, 0)).1, .int (ss.getD k (0, 0)).2]) := atI_nat (by rw [List.getElem?_map, List.getElem?_eq_getElem hks, Fl.getD_lt hks]; rfl)
    have eh : atI ((List.range ring.length).map fun k => pD (Mk.hd t ring.length k)) ((k : Nat) : Int) = some (.tup [.int (Mk.hd t ring.length k).1, .int (Mk.hd t ring.length k).2]) := atI_nat (by rw [List.getElem?_map, List.getElem?_range hk]; rfl)
    have e1 : atI (ss.map pD) ((k : Int) - 1) = some (.tup [.int (Mk.at2 ss ((k : Int) - 1)).1, .int (Mk.at2 ss ((k : Int) - 1)).2]) := atI_mod (d0 := (0, 0)) (by omega) (by omega)
    have e2 : atI (ss.map pD) (((k : Int) + 1) % (ring.length : Int)) = some (.tup [.int (Mk.at2 ss ((k : Int) + 1)).1, .int (Mk.at2 ss ((k : Int) + 1)).2]) := by
      have := at2_D (ss := ss) (by omega) ((k : Int) + 1)
      rw [sl.down] at this
      exact this
    have sk : Mk.sb ss t k = (if 0 < (Mk.hd t ring.length k).1 then max (ss.getD k (0, 0)).1 ((Mk.at2 ss ((k : Int) - 1)).1 + 1) else (ss.getD k (0, 0)).1, if 0 < (Mk.hd t ring.length k).2 then max (ss.getD k (0, 0)).2 ((Mk.at2 ss ((k : Int) + 1)).2 + 1) else (ss.getD k (0, 0)).2) := by
      unfold Mk.sb Mk.hd
      rw [sl.down]
    replace sk := PLift.up sk
    generalize (Mk.hd t ring.length k).1 = hl at *
    generalize (Mk.hd t ring.length k).2 = hr at *
    generalize (ss.getD k (0, 0)).1 = sl1 at *
    generalize (ss.getD k (0, 0)).2 = sr1 at *
    generalize (Mk.at2 ss ((k : Int) - 1)).1 = ll at *
    generalize (Mk.at2 ss ((k : Int) + 1)).2 = rr at *
    generalize (Mk.at2 ss ((k : Int) - 1)).2 = lx at *
    generalize (Mk.at2 ss ((k : Int) + 1)).1 = rx at *
    refine seq_ (asg_ ?_)
    refine ⟨_, rfl, _, rfl, _, ga, _, ek, _, rfl, ?_⟩
    dsimp only
    refine seq_ (if_ ?_)
    walk_at "m"
    by_cases c1 : 0 < hl
    case' pos =>
      rw [decide_eq_true c1]
      have sk1 := sk.down
      rw [if_pos c1] at sk1
      replace sk1 := PLift.up sk1
      walk_at "m"
      walk_at "n"
      have hL : (if ll + 1 > sl1 then ll + 1 else sl1) = max sl1 (ll + 1) := by split <;> omega
      rw [hL]
      generalize max sl1 (ll + 1) = L at sk1 ⊢
    case' neg =>
      rw [decide_eq_false c1]
      have sk1 := sk.down
      rw [if_neg c1] at sk1
      replace sk1 := PLift.up sk1
      walk_at "m"
      refine next_ ?_
      dsimp only
      generalize sl1 = L at sk1 ⊢
    all_goals
      refine seq_ (if_ ?_)
      walk_at "m"
      by_cases c2 : 0 < hr
      · rw [decide_eq_true c2]
        have sk2 := sk1.down
        rw [if_pos c2] at sk2
        replace sk2 := PLift.up sk2
        walk_at "m"
        walk_at "n"
        have hR : (if rr + 1 > sr1 then rr + 1 else sr1) = max sr1 (rr + 1) := by split <;> omega
        rw [hR]
        generalize max sr1 (rr + 1) = R at sk2 ⊢
        walk_at "n"
        refine ⟨by rw [List.length_range]; omega, ?_, by rw [up_ne n3a]; exact ga, by rw [up_ne n32]; exact g2, ff.over hp3⟩
        rw [List.range_succ, List.map_append, List.map_append]
        show _ = _ ++ [pD (Mk.sb ss t k)]
        rw [sk2.down]
      · rw [decide_eq_false c2]
        have sk2 := sk1.down
        rw [if_neg c2] at sk2
        replace sk2 := PLift.up sk2
        walk_at "m"
        refine next_ ?_
        dsimp only
        walk_at "n"
        refine ⟨by rw [List.length_range]; omega, ?_, by rw [up_ne n3a]; exact ga, by rw [up_ne n32]; exact g2, ff.over hp3⟩
        rw [List.range_succ, List.map_append, List.map_append]
        show _ = _ ++ [pD (Mk.sb ss t k)]
        rw [sk2.down]
  · rintro env h4 ⟨x8, x11, x12, rfl, g1, ga, g2, ff⟩
    rw [srcR_n, Int.toNat_natCast] at g1
    have g1 : h4 p3 = some (.lst ((Mk.sbL ss t).map pD)) := by rw [g1]; unfold Mk.sbL; rw [sl.down]
    have lb := Mk.sbL_len (ss := ss) (t := t)
    rw [sl.down] at lb
    have lbd : ∀ s, s ∈ Mk.sbL ss t → 0 ≤ s.1 ∧ s.1 ≤ 401 ∧ 0 ≤ s.2 ∧ s.2 ≤ 401 := by
      intro s hs
      unfold Mk.sbL at hs
      obtain ⟨j, hj, rfl⟩ := List.mem_map.mp hs
      have hj := List.mem_range.mp hj
      have a1 := sbd.down (ss.getD j (0, 0)) (by rw [Fl.getD_lt hj]; exact List.getElem_mem _)
      have a2 : ∀ x : Int, 0 ≤ (Mk.at2 ss x).1 ∧ (Mk.at2 ss x).1 ≤ 400 ∧ 0 ≤ (Mk.at2 ss x).2 ∧ (Mk.at2 ss x).2 ≤ 400 := fun x => by
        have h1 : (x % (ss.length : Int)).toNat < ss.length := by
          have := Int.emod_nonneg x (show (ss.length : Int) ≠ 0 by omega)
          have := Int.emod_lt_of_pos x (show (0 : Int) < ss.length by omega)
          omega
        refine sbd.down _ ?_
        unfold Mk.at2
        rw [Fl.getD_lt h1]; exact List.getElem_mem _
      have b1 := a2 ((j : Int) - 1)
      have b2 := a2 ((j : Int) + 1)
      unfold Mk.sb
      dsimp only
      refine ⟨?_, ?_, ?_, ?_⟩ <;> split <;> omega
    have qq : ∀ h', Fr [] h4 h' → Q (.tup [tI (Mk.rb ring row t (Mk.sbL ss t)), .ref p3]) h' := fun h' f' => q p3 h' hp3 (f'.at0 g1) (ff.trans f')
    generalize Mk.sbL ss t = bs at *
    clear q sbd ga n3a e3 ea3 e23 f3 f02 np3 n32
    replace lb := PLift.up lb
    replace lbd := PLift.up lbd
    have qq := PLift.up qq
    dsimp only
    walk_at "n"
    refine ⟨by omega, by omega, ?_⟩
    refine lcE (fun k d h0 h => ∃ q es, d = .ref q ∧ h0 q = none ∧ h q = some (.lst es) ∧ LL h es (Mk.mat (Fl.win ring (k : Nat) (bs.getD k (0, 0)).1 (bs.getD k (0, 0)).2)) ∧ ∀ r, D.ref r ∈ es → h0 r = none) ?_ (fun _ _ => trivial) (by rw [srcR_n]; omega) (fun k h5 hk f5 => ⟨_, rfl, fun R rr => ?_⟩) (fun p9 h9 os f9 np9 e9 ol oe => ?_)
    · rintro k d h0 h h2 p ⟨q, es, rfl, n, e, l, fr⟩ np w
      exact ⟨q, es, rfl, n, w q _ (fun z => np (z ▸ n)) e, l.mono fun r c hr e => w r _ (fun z => np (z ▸ fr r hr)) e, fr⟩
    · rw [srcR_n, Int.toNat_natCast] at hk
      rw [srcR_item, Int.mul_one, Int.zero_add]
      have hkb : k < bs.length := by rw [lb.down]; exact hk
      have g15 := f5.at0 g1
      have ek : atI (bs.map pD) ((k : Nat) : Int) = some (pD (bs.getD k (0, 0))) := atI_nat (by rw [List.getElem?_map, List.getElem?_eq_getElem hkb, Fl.getD_lt hkb]; rfl)
      have bd := lbd.down (bs.getD k (0, 0)) (by rw [Fl.getD_lt hkb]; exact List.getElem_mem _)
      walk_at "m"
      refine ⟨ring, (k : Nat), bs.getD k (0, 0), rfl, n0, n64, bd.1, by omega, bd.2.2.1, by omega, fun p es h6 np e ll fr f6 => ?_⟩
      exact rr _ h6 f6 ⟨p, es, rfl, np, e, ll, fr⟩
    rw [srcR_n, Int.toNat_natCast] at ol oe
    have g19 := f9.at0 g1
    have g29 := f9.at0 g2
    have oo : ∀ k, k < ring.length → ∃ q es, atI os ((k : Nat) : Int) = some (.ref q) ∧ h9 q = some (.lst es) ∧ LL h9 es (Mk.mat (Fl.win ring (k : Nat) (bs.getD k (0, 0)).1 (bs.getD k (0, 0)).2)) := fun k hk => by
      obtain ⟨h0, _, q, es, a, _, b, c, _⟩ := oe k hk
      refine ⟨q, es, atI_nat ?_, b, c⟩
      rw [List.getElem?_eq_getElem (by omega)]
      rw [Fl.getD_lt (by omega)] at a
      rw [a]
    clear oe g1 g2
    replace oo := PLift.up oo
    replace ol := PLift.up ol
    have qq9 : ∀ h', Fr [] h9 h' → Q (.tup [tI (Mk.rb ring row t bs), .ref p3]) h' := fun h' f' => qq.down h' (f9.trans f')
    have qq9 := PLift.up qq9
    clear qq f9 ff lbd
    walk_at "n"
    intro p10 np10
    generalize eX : up _ p10 _ = h10
    obtain ⟨e10, f10⟩ := new_facts eX np10
    clear eX
    walk_at "n"
    refine ⟨by omega, by omega, ?_⟩
    refine forW (fun k env h' => ∃ x8 x13 x14 x15, env = [some (D.tup (ring.map .int)), some (D.tup (row.map .int)), some (.ref a), some (.tup (t.map trD)), some (.int (ring.length : Nat)), some (.ref p1), some (.ref p2), some (.ref p3), x8, some (.ref p9), some (.ref p10), x11, x12, x13, x14, x15] ∧ h' p10 = some (.lst ((Fl.nb ((List.range k).map (Mk.mkey ring row t bs))).map .int)) ∧ Fr [] h9 h') ⟨_, _, _, _, rfl, e10, f10⟩ (fun _ _ _ _ => trivial) ?_ ?_
    · rintro k env h11 hk ⟨x8, x13, x14, x15, rfl, m11, f11⟩
      rw [srcR_n, Int.toNat_natCast] at hk
      refine ⟨_, rfl, ?_⟩
      rw [srcR_item, Int.mul_one, Int.zero_add]
      walk_at "n"
      intro p13 np13
      generalize eX : up _ p13 _ = h12
      obtain ⟨e12, f12⟩ := new_facts eX np13
      clear eX
      have n1013 := ne_of m11 np13
      have np10' := np10
      have m12 := f12.at0 m11
      have h9p13 := (f11.free np13)
      have f912 := f11.trans f12
      clear m11 f11 f12 np13
      walk_at "n"
      refine ⟨by omega, by omega, ?_⟩
      generalize hK : Mk.mkey ring row t bs = K at *
      have n64 := n64
      have lnb : (Fl.nb ((List.range k).map K)).length = k := by unfold Fl.nb; rw [List.length_map, List.length_map, List.length_range]
      generalize hM : Fl.nb ((List.range k).map K) = made at *
      refine forW (fun j env h' => ∃ x14 x15, env = [some (D.tup (ring.map .int)), some (D.tup (row.map .int)), some (.ref a), some (.tup (t.map trD)), some (.int (ring.length : Nat)), some (.ref p1), some (.ref p2), some (.ref p3), some (.int (k : Nat)), some (.ref p9), some (.ref p10), x11, x12, some (.ref p13), x14, x15] ∧ h' p13 = some (.lst (((List.range j).filter fun o => decide (K o = K k)).map fun o => .int (made.getD o 0))) ∧ h' p10 = some (.lst (made.map .int)) ∧ Fr [] h9 h') ⟨_, _, rfl, e12, m12, f912⟩ (fun _ _ _ _ => trivial) ?_ ?_
      · rintro o env h14 ho ⟨x14, x15, rfl, q13, q10, f14⟩
        rw [srcR_n, Int.toNat_natCast] at ho
        refine ⟨_, rfl, ?_⟩
        rw [srcR_item, Int.mul_one, Int.zero_add]
        have g3 := f14.at0 g19
        have g2 := f14.at0 g29
        have g9 := f14.at0 e9
        have hon : o < ring.length := by omega
        obtain ⟨qk, ek, ok1, ok2, ok3⟩ := oo.down k hk
        obtain ⟨qo, eo, oo1, oo2, oo3⟩ := oo.down o hon
        have ok2 := f14.at0 ok2
        have ok3 := ok3.fr f14
        have oo2 := f14.at0 oo2
        have oo3 := oo3.fr f14
        have rAt : ∀ i, i < ring.length → atI (row.map D.int) ((i : Nat) : Int) = some (.int (row.getD i 0)) ∧ atI (row.map D.int) ((i : Int) - 1) = some (.int (Mk.at1 row ((i : Int) - 1))) ∧ atI (row.map D.int) (((i : Int) + 1) % (ring.length : Int)) = some (.int (Mk.at1 row ((i : Int) + 1))) := fun i hi => by
          have hir : i < row.length := by rw [rl.down]; exact hi
          have rl := rl.down
          refine ⟨atI_nat (by rw [List.getElem?_map, List.getElem?_eq_getElem hir, Fl.getD_lt hir]; rfl), atI_mod (d0 := 0) (by omega) (by omega), ?_⟩
          have b1 := Int.emod_nonneg ((i : Int) + 1) (show (ring.length : Int) ≠ 0 by omega)
          have b2 := Int.emod_lt_of_pos ((i : Int) + 1) pos
          rw [atI_mod (f := D.int) (d0 := 0) (by omega) (by omega), rl, Int.emod_emod]
          unfold Mk.at1
          rw [rl]
        have hAt : ∀ i, i < ring.length → atI ((List.range ring.length).map fun k => pD (Mk.hd t ring.length k)) ((i : Nat) : Int) = some (.tup [.int (Mk.hd t ring.length i).1, .int (Mk.hd t ring.length i).2]) := fun i hi => atI_nat (by rw [List.getElem?_map, List.getElem?_range hi]; rfl)
        have bAt : ∀ i, i < ring.length → atI (bs.map pD) ((i : Nat) : Int) = some (.tup [.int (bs.getD i (0, 0)).1, .int (bs.getD i (0, 0)).2]) := fun i hi => by
          have hib : i < bs.length := by rw [lb.down]; exact hi
          exact atI_nat (by rw [List.getElem?_map, List.getElem?_eq_getElem hib, Fl.getD_lt hib]; rfl)
        obtain ⟨rk1, rk2, rk3⟩ := rAt k hk
        obtain ⟨ro1, ro2, ro3⟩ := rAt o hon
        have hk1 := hAt k hk
        have ho1 := hAt o hon
        have bk1 := bAt k hk
        have bo1 := bAt o hon
        have mAt : atI (made.map D.int) ((o : Nat) : Int) = some (.int (made.getD o 0)) := atI_nat (by rw [List.getElem?_map, List.getElem?_eq_getElem (by omega), Fl.getD_lt (by omega)]; rfl)
        have lik : K o = K k ↔ row.getD o 0 = row.getD k 0 ∧ ((Mk.hd t ring.length o).1 = (Mk.hd t ring.length k).1 ∧ (Mk.hd t ring.length o).2 = (Mk.hd t ring.length k).2) ∧ ((bs.getD o (0, 0)).1 = (bs.getD k (0, 0)).1 ∧ (bs.getD o (0, 0)).2 = (bs.getD k (0, 0)).2) ∧ (0 < (Mk.hd t ring.length k).1 → Mk.at1 row ((o : Int) - 1) = Mk.at1 row ((k : Int) - 1)) ∧ (0 < (Mk.hd t ring.length k).2 → Mk.at1 row ((o : Int) + 1) = Mk.at1 row ((k : Int) + 1)) ∧ Mk.mat (Fl.win ring (o : Nat) (bs.getD o (0, 0)).1 (bs.getD o (0, 0)).2) = Mk.mat (Fl.win ring (k : Nat) (bs.getD k (0, 0)).1 (bs.getD k (0, 0)).2) := by
          rw [← hK, ← Mk.like_iff ok rl.down]
          unfold Mk.Like
          rw [Prod.ext_iff, Prod.ext_iff]
        clear rAt hAt bAt oo
        generalize Mk.mat (Fl.win ring (o : Nat) (bs.getD o (0, 0)).1 (bs.getD o (0, 0)).2) = MO1 at *
        generalize Mk.mat (Fl.win ring (k : Nat) (bs.getD k (0, 0)).1 (bs.getD k (0, 0)).2) = MK1 at *
        generalize row.getD o 0 = ro at *
        generalize row.getD k 0 = rk at *
        generalize (Mk.hd t ring.length o).1 = yo1 at *
        generalize (Mk.hd t ring.length o).2 = yo2 at *
        generalize (Mk.hd t ring.length k).1 = yk1 at *
        generalize (Mk.hd t ring.length k).2 = yk2 at *
        generalize (bs.getD o (0, 0)).1 = so1 at *
        generalize (bs.getD o (0, 0)).2 = so2 at *
        generalize (bs.getD k (0, 0)).1 = sk1 at *
        generalize (bs.getD k (0, 0)).2 = sk2 at *
        generalize Mk.at1 row ((o : Int) - 1) = ao at *
        generalize Mk.at1 row ((k : Int) - 1) = ak at *
        generalize Mk.at1 row ((o : Int) + 1) = zo at *
        generalize Mk.at1 row ((k : Int) + 1) = zk at *
        replace lik := PLift.up lik
        replace q13 := PLift.up q13
        replace ho := PLift.up ho
        replace hon := PLift.up hon
        replace hk := PLift.up hk
        walk_at "n"
        refine ite_ (fun c1 => ?_) (fun c1 => ?_)
        · refine eqD_tt (xs := [yo1, yo2]) (ys := [yk1, yk2]) ?_
          refine ⟨_, rfl, ?_⟩
          refine ite_ (fun c2 => ?_) (fun c2 => ?_)
          · walk_at "m"
            refine eqD_tt (xs := [so1, so2]) (ys := [sk1, sk2]) ?_
            have c2 : yo1 = yk1 ∧ yo2 = yk2 := by simpa using c2
            by_cases c3 : so1 = sk1 ∧ so2 = sk2
            · rw [decide_eq_true (show [so1, so2] = [sk1, sk2] by rw [c3.1, c3.2])]
              refine seq_ (if_ ?_)
              walk_at "m"
              refine ite_ (fun c4 => ?_) (fun c4 => ?_)
              · walk_at "n"
                by_cases c5 : ao = ak
                · rw [decide_eq_true c5]
                  have c4 : 0 < yk1 → ao = ak := fun _ => c5
                  refine seq_ (if_ ?_)
                  walk_at "m"
                  refine ite_ (fun c6 => ?_) (fun c6 => ?_)
                  · walk_at "n"
                    by_cases c7 : zo = zk
                    · rw [decide_eq_true c7]
                      have c6 : 0 < yk2 → zo = zk := fun _ => c7
                      refine if_ ?_
                      walk_at "m"
                      refine eqD_LL oo2 oo3 ok2 ok3 ?_
                      refine ⟨_, rfl, ?_⟩
                      refine ite_ (fun c8 => ?_) (fun c8 => ?_)
                      · have q13d := q13.down
                        walk_at "n"
                        refine ⟨Nat.lt_of_le_of_lt (List.length_filter_le _ _) (by rw [List.length_range]; have := ho.down; have := hk.down; omega), ?_, by rw [up_ne n1013]; exact q10, f14.over h9p13⟩
                        rw [fil_yes (decide_eq_true (lik.down.mpr ⟨c1, c2, c3, c4, c6, c8⟩))]
                      · refine next_ ?_
                        dsimp only
                        refine ⟨_, _, rfl, ?_, q10, f14⟩
                        rw [fil_no fun z => ?_]
                        exact q13.down
                        exact c8 (lik.down.mp (of_decide_eq_true z)).2.2.2.2.2
                    · rw [decide_eq_false c7]
                      refine if_ ?_
                      walk_at "m"
                      refine next_ ?_
                      dsimp only
                      refine ⟨_, _, rfl, ?_, q10, f14⟩
                      rw [fil_no fun z => ?_]
                      exact q13.down
                      have z := lik.down.mp (of_decide_eq_true z)
                      exact c7 (z.2.2.2.2.1 c6)
                  · refine next_ ?_
                    dsimp only
                    have c6 : 0 < yk2 → zo = zk := fun z => absurd z c6
                    refine if_ ?_
                    walk_at "m"
                    refine eqD_LL oo2 oo3 ok2 ok3 ?_
                    refine ⟨_, rfl, ?_⟩
                    refine ite_ (fun c8 => ?_) (fun c8 => ?_)
                    · have q13d := q13.down
                      walk_at "n"
                      refine ⟨Nat.lt_of_le_of_lt (List.length_filter_le _ _) (by rw [List.length_range]; have := ho.down; have := hk.down; omega), ?_, by rw [up_ne n1013]; exact q10, f14.over h9p13⟩
                      rw [fil_yes (decide_eq_true (lik.down.mpr ⟨c1, c2, c3, c4, c6, c8⟩))]
                    · refine next_ ?_
                      dsimp only
                      refine ⟨_, _, rfl, ?_, q10, f14⟩
                      rw [fil_no fun z => ?_]
                      exact q13.down
                      exact c8 (lik.down.mp (of_decide_eq_true z)).2.2.2.2.2
                · rw [decide_eq_false c5]
                  refine seq_ (if_ ?_)
                  walk_at "m"
                  refine next_ ?_
                  dsimp only
                  refine if_ ?_
                  walk_at "m"
                  refine next_ ?_
                  dsimp only
                  refine ⟨_, _, rfl, ?_, q10, f14⟩
                  rw [fil_no fun z => ?_]
                  exact q13.down
                  have z := lik.down.mp (of_decide_eq_true z)
                  exact c5 (z.2.2.2.1 c4)
              · refine next_ ?_
                dsimp only
                have c4 : 0 < yk1 → ao = ak := fun z => absurd z c4
                refine seq_ (if_ ?_)
                walk_at "m"
                refine ite_ (fun c6 => ?_) (fun c6 => ?_)
                · walk_at "n"
                  by_cases c7 : zo = zk
                  · rw [decide_eq_true c7]
                    have c6 : 0 < yk2 → zo = zk := fun _ => c7
                    refine if_ ?_
                    walk_at "m"
                    refine eqD_LL oo2 oo3 ok2 ok3 ?_
                    refine ⟨_, rfl, ?_⟩
                    refine ite_ (fun c8 => ?_) (fun c8 => ?_)
                    · have q13d := q13.down
                      walk_at "n"
                      refine ⟨Nat.lt_of_le_of_lt (List.length_filter_le _ _) (by rw [List.length_range]; have := ho.down; have := hk.down; omega), ?_, by rw [up_ne n1013]; exact q10, f14.over h9p13⟩
                      rw [fil_yes (decide_eq_true (lik.down.mpr ⟨c1, c2, c3, c4, c6, c8⟩))]
                    · refine next_ ?_
                      dsimp only
                      refine ⟨_, _, rfl, ?_, q10, f14⟩
                      rw [fil_no fun z => ?_]
                      exact q13.down
                      exact c8 (lik.down.mp (of_decide_eq_true z)).2.2.2.2.2
                  · rw [decide_eq_false c7]
                    refine if_ ?_
                    walk_at "m"
                    refine next_ ?_
                    dsimp only
                    refine ⟨_, _, rfl, ?_, q10, f14⟩
                    rw [fil_no fun z => ?_]
                    exact q13.down
                    have z := lik.down.mp (of_decide_eq_true z)
                    exact c7 (z.2.2.2.2.1 c6)
                · refine next_ ?_
                  dsimp only
                  have c6 : 0 < yk2 → zo = zk := fun z => absurd z c6
                  refine if_ ?_
                  walk_at "m"
                  refine eqD_LL oo2 oo3 ok2 ok3 ?_
                  refine ⟨_, rfl, ?_⟩
                  refine ite_ (fun c8 => ?_) (fun c8 => ?_)
                  · have q13d := q13.down
                    walk_at "n"
                    refine ⟨Nat.lt_of_le_of_lt (List.length_filter_le _ _) (by rw [List.length_range]; have := ho.down; have := hk.down; omega), ?_, by rw [up_ne n1013]; exact q10, f14.over h9p13⟩
                    rw [fil_yes (decide_eq_true (lik.down.mpr ⟨c1, c2, c3, c4, c6, c8⟩))]
                  · refine next_ ?_
                    dsimp only
                    refine ⟨_, _, rfl, ?_, q10, f14⟩
                    rw [fil_no fun z => ?_]
                    exact q13.down
                    exact c8 (lik.down.mp (of_decide_eq_true z)).2.2.2.2.2
            · rw [decide_eq_false (show ¬ [so1, so2] = [sk1, sk2] from fun z => c3 (by simpa using z))]
              refine seq_ (if_ ?_)
              walk_at "m"
              refine next_ ?_
              dsimp only
              refine seq_ (if_ ?_)
              walk_at "m"
              refine next_ ?_
              dsimp only
              refine if_ ?_
              walk_at "m"
              refine next_ ?_
              dsimp only
              refine ⟨_, _, rfl, ?_, q10, f14⟩
              rw [fil_no fun z => ?_]
              exact q13.down
              have z := lik.down.mp (of_decide_eq_true z)
              exact c3 z.2.2.1
          · refine seq_ (if_ ?_)
            walk_at "m"
            refine next_ ?_
            dsimp only
            refine seq_ (if_ ?_)
            walk_at "m"
            refine next_ ?_
            dsimp only
            refine if_ ?_
            walk_at "m"
            refine next_ ?_
            dsimp only
            refine ⟨_, _, rfl, ?_, q10, f14⟩
            rw [fil_no fun z => ?_]
            exact q13.down
            have z := lik.down.mp (of_decide_eq_true z)
            exact c2 (by simp [z.2.1])
        · refine seq_ (if_ ?_)
          walk_at "m"
          refine next_ ?_
          dsimp only
          refine seq_ (if_ ?_)
          walk_at "m"
          refine next_ ?_
          dsimp only
          refine if_ ?_
          walk_at "m"
          refine next_ ?_
          dsimp only
          refine ⟨_, _, rfl, ?_, q10, f14⟩
          rw [fil_no fun z => ?_]
          exact q13.down
          have z := lik.down.mp (of_decide_eq_true z)
          exact c1 z.1
      · rintro env h14 ⟨x14, x15, rfl, q13, q10, f14⟩
        rw [srcR_n, Int.toNat_natCast] at q13
        have q13 : h14 p13 = some (.lst ((((List.range k).filter fun o => decide (K o = K k)).map fun o => made.getD o 0).map .int)) := by rw [q13, List.map_map]; rfl
        generalize hF : (((List.range k).filter fun o => decide (K o = K k)).map fun o => made.getD o 0) = F at *
        have lF : F.length ≤ 64 := by
          rw [← hF, List.length_map]
          exact Nat.le_trans (List.length_filter_le _ _) (by rw [List.length_range]; omega)
        dsimp only
        replace lnb := PLift.up lnb
        replace hF := PLift.up hF
        replace hM := PLift.up hM
        replace hK := PLift.up hK
        walk_at "n"
        intro pa na
        have fa : Fr [] h14 (up h14 pa (.lst [.int (-1)])) := .new na
        generalize up h14 pa (.lst [.int (-1)]) = ha at fa ⊢
        have qa := fa.at0 q10
        have qa3 := fa.at0 q13
        refine ⟨_, qa, by rw [List.length_map]; have := lnb.down; omega, fun pb nb => ?_⟩
        have fb : Fr [] ha (up ha pb (.lst (made.map .int ++ [.int (-1)]))) := .new nb
        generalize up ha pb (.lst (made.map .int ++ [.int (-1)])) = hb at fb ⊢
        have qb := fb.at0 qa
        have qb3 := fb.at0 qa3
        refine ⟨made ++ [-1], by rw [List.map_append]; rfl, by rw [List.length_append, List.length_singleton]; omega, fun m hm hmax pc nc => ?_⟩
        have fc : Fr [] hb (up hb pc (.lst [.int (m + 1)])) := .new nc
        generalize up hb pc (.lst [.int (m + 1)]) = hc at fc ⊢
        have qc := fc.at0 qb
        have qc3 := fc.at0 qb3
        refine ⟨_, qc3, by rw [List.length_map]; omega, fun pd nd => ?_⟩
        have fd : Fr [] hc (up hc pd (.lst (F.map .int ++ [.int (m + 1)]))) := .new nd
        generalize up hc pd (.lst (F.map .int ++ [.int (m + 1)])) = hd2 at fd ⊢
        have qd := fd.at0 qc
        have v0 : atI (F.map D.int ++ [.int (m + 1)]) 0 = some (.int ((F ++ [m + 1]).getD 0 0)) := by
          rw [show F.map D.int ++ [.int (m + 1)] = (F ++ [m + 1]).map D.int by rw [List.map_append]; rfl]
          exact atI_nat (j := 0) (by cases F <;> rfl)
        refine ⟨_, v0, _, qd, by rw [List.length_map]; have := lnb.down; omega, ?_, ((f14.trans (fa.trans fb)).trans (fc.trans fd)).over np10'⟩
        rw [List.range_succ, List.map_append, List.map_singleton, Mk.nb_snoc, List.map_append, List.map_singleton, ← hM.down]
        congr 2
        rw [← hM.down] at hm hmax
        have mx := Mk.nb_max hm hmax
        by_cases c : K k ∈ (List.range k).map K
        · rw [if_pos c]
          obtain ⟨o, ho, e⟩ := List.mem_map.mp c
          have : F ≠ [] := by
            rw [← hF.down]
            intro z
            rw [List.map_eq_nil_iff, List.filter_eq_nil_iff] at z
            exact z o ho (decide_eq_true e)
          obtain ⟨y, r, rfl⟩ := List.exists_cons_of_ne_nil this
          show D.int y = _
          congr 1
          have hy : y ∈ ((List.range k).filter fun o => decide (K o = K k)).map fun o => made.getD o 0 := by rw [hF.down]; exact List.mem_cons_self
          obtain ⟨o2, ho2, rfl⟩ := List.mem_map.mp hy
          obtain ⟨a1, a2⟩ := List.mem_filter.mp ho2
          have a1 := List.mem_range.mp a1
          have a2 := of_decide_eq_true a2
          rw [← hM.down, Fl.getD_lt (by rw [hM.down, lnb.down]; exact a1)]
          simp only [Fl.nb, List.getElem_map, List.getElem_range, a2]
        · rw [if_neg c, ← mx]
          have : F = [] := by
            rw [← hF.down, List.map_eq_nil_iff, List.filter_eq_nil_iff]
            intro o ho z
            exact c (List.mem_map.mpr ⟨o, ho, of_decide_eq_true z⟩)
          rw [this]; rfl
    · rintro env h11 ⟨x8, x13, x14, x15, rfl, m11, f11⟩
      rw [srcR_n, Int.toNat_natCast] at m11
      have qq := qq9.down h11 f11
      unfold Mk.rb tI at qq
      walk_at "n"
theorem p_law_marks : ∀ ds h Q E, c_law_marks ds h Q E → m_law_marks { nx := fun _ h' => Q .non h', rt := Q } (mstart N_law_marks ds) h := by
  rintro ds h Q E ⟨ring, log, rfl, n0, n64, ll, ok, q⟩
  replace ok := PLift.up ok
  unfold tI lgD
  walk_at "n"
  have r1 : (List.replicate ring.length [D.int 0]).flatten = (List.replicate ring.length (0 : Int)).map .int := by rw [rep_flat, List.map_replicate]
  have r2 : (List.replicate ring.length [D.tup [D.int 0, D.int 0]]).flatten = (List.replicate ring.length ((0, 0) : Int × Int)).map pD := by rw [rep_flat, List.map_replicate]
  refine ⟨by simp, by omega, by omega, ?_⟩
  rw [Int.toNat_natCast, r1]
  intro p1 np1
  generalize eX : up _ p1 _ = h1
  obtain ⟨e1, f1⟩ := new_facts eX np1
  clear eX
  walk_at "m"
  intro p2 np2
  refine ⟨by omega, by omega, by omega, ?_⟩
  have f2 : Fr [] h1 (up h1 p2 (.lst [D.tup [D.int 0, D.int 0]])) := .new np2
  have e12 := f2.at0 e1
  generalize up h1 p2 (.lst [D.tup [D.int 0, D.int 0]]) = h2 at e12 f2 ⊢
  intro p3 np3
  generalize eX : up _ p3 _ = h3
  obtain ⟨e3, f3⟩ := new_facts eX np3
  clear eX
  have e13 := f3.at0 e12
  have n13 : p1 ≠ p3 := ne_of e12 np3
  have hp1 := np1
  clear e1 e12 r1 r2
  walk_at "n"
  refine forW (fun k env h' => ∃ x4 x5 p, env = [some (D.tup (ring.map .int)), some (D.tup (log.map tnD)), some (.ref p1), some (.ref p), x4, x5] ∧ h' p1 = some (.lst (((List.range (k + 1)).map fun i => (Mk.stK ring log i).1).map tI)) ∧ h' p = some (.lst ((Mk.stK ring log k).2.map pD)) ∧ p1 ≠ p ∧ Fr [] h h') ⟨_, _, p3, rfl, e13, e3, n13, f1.trans (f2.trans f3)⟩ (fun _ _ _ _ => trivial) ?_ ?_
  · rintro k env h' hk ⟨x4, x5, p, rfl, g1, gp, n1p, ff⟩
    rw [srcD_n, List.length_map] at hk
    refine ⟨_, by rw [srcD_item, getD_map hk]; rfl, ?_⟩
    obtain ⟨l1, l2⟩ := Mk.stK_len (ring := ring) (log := log) (k := k)
    have sb := stK_sb (ring := ring) (log := log) (k := k) (by omega)
    have st := Mk.stK_succ (ring := ring) hk
    have tk := ok.down _ (List.getElem_mem hk)
    have last : atI (((List.range (k + 1)).map fun i => (Mk.stK ring log i).1).map tI) (-1) = some (tI (Mk.stK ring log k).1) := by
      rw [List.range_succ, List.map_append, List.map_append]; exact atI_last
    have e1 : (Mk.stK ring log (k + 1)).1 = Mk.rb ring (Mk.stK ring log k).1 log[k] (Mk.sbL (Mk.stK ring log k).2 log[k]) := by rw [st]; rfl
    have e2 : (Mk.stK ring log (k + 1)).2 = Mk.sbL (Mk.stK ring log k).2 log[k] := by rw [st]; rfl
    clear st
    replace e1 := PLift.up e1
    replace e2 := PLift.up e2
    replace sb := PLift.up sb
    replace l1 := PLift.up l1
    replace l2 := PLift.up l2
    walk_at "n"
    refine ⟨ring, (Mk.stK ring log k).1, p, (Mk.stK ring log k).2, log[k], rfl, gp, tk, n0, n64, l1.down, l2.down, fun s hs => by have := sb.down s hs; omega, fun p4 h4 np4 e4 f4 => ?_⟩
    have g14 := f4.at0 g1
    have n14 := ne_of g1 np4
    rw [← e1.down]
    clear g1 gp last
    walk_at "m"
    walk_at "n"
    refine ⟨by rw [List.length_range]; omega, ?_, by rw [up_ne (Ne.symm n14), e2.down]; exact e4, (ff.trans f4).over hp1⟩
    rw [List.range_succ (n := k + 1), List.map_append, List.map_append]; rfl
  · rintro env h' ⟨x4, x5, p, rfl, g1, gp, n1p, ff⟩
    rw [srcD_n, List.length_map] at g1
    have qq := q h' ff
    unfold Mk.mks at qq
    walk_at "n"
/-! ### logs drawn -/
theorem len_law_small_ring : ∀ ds h Q E, c_law_small_ring ds h Q E → ds.length = 2 := by rintro ds h Q E ⟨a, b, c, rfl, _⟩; rfl
theorem len_law_any_log : ∀ ds h Q E, c_law_any_log ds h Q E → ds.length = 2 := by rintro ds h Q E ⟨a, b, c, d, rfl, _⟩; rfl
theorem len_law_comparing_turn : ∀ ds h Q E, c_law_comparing_turn ds h Q E → ds.length = 2 := by rintro ds h Q E ⟨a, b, c, d, rfl, _⟩; rfl
theorem len_law_comparing_log : ∀ ds h Q E, c_law_comparing_log ds h Q E → ds.length = 3 := by rintro ds h Q E ⟨a, b, c, d, e, rfl, _⟩; rfl
theorem p_law_small_ring : ∀ ds h Q E, c_law_small_ring ds h Q E → m_law_small_ring { nx := fun _ h' => Q .non h', rt := Q } (mstart N_law_small_ring ds) h := by
  rintro ds h Q E ⟨a, b, t, rfl, bx, q⟩
  walk_at "n"
  refine ⟨a, b, 11, t + 79, rfl, bx.less (by omega), by decide, by decide, fun m1 h1 m10 m11 bx1 f1 => ?_⟩
  walk_at "m"
  obtain ⟨n, en⟩ : ∃ n : Nat, 1 + m1 = n := ⟨(1 + m1).toNat, by omega⟩
  rw [en]
  have n0 : 0 < n := by omega
  have n11 : n ≤ 11 := by omega
  clear en
  walk_at "n"
  refine ⟨a, b, n, t + 5, rfl, bx1.less (by omega), by omega, by omega, fun p ps h2 pl nd np ep bx2 f2 => ?_⟩
  have nin : p ∉ [a, b] := bx1.nin np
  walk_at "m"
  walk_at "n"
  refine ⟨a, b, 9, t + 4, rfl, bx2, by decide, by decide, fun g h3 g0 g1 bx3 f3 => ?_⟩
  have ep3 := f3 p _ nin ep
  walk_at "m"
  walk_at "n"
  refine lcL ps .int (fun x => some (.int ((1 + g) * x + 5))) (fun h' f' => f'.at0 ep3) (by omega) (fun x h4 hx f4 => ⟨_, rfl, fun R rr => ?_⟩) (fun p4 h4 f4 np4 e4 => ?_)
  · have rr := rr h4 .refl
    walk_at "m"
    exact mulOkL (by omega) (by omega)
  · replace e4 : h4 p4 = some (.lst ((ps.map fun x => (1 + g) * x + 5).map .int)) := by rw [e4, fm_some, List.map_map]; rfl
    have qq := q (ps.map fun x => (1 + g) * x + 5) h4 (nodup_map (f := fun x => (1 + g) * x + 5) (fun x y e => Int.eq_of_mul_eq_mul_left (a := 1 + g) (by omega) (by have e : (1 + g) * x + 5 = (1 + g) * y + 5 := e; omega)) nd) (by rw [List.length_map]; omega) (by rw [List.length_map]; omega) ((bx3.less (by omega)).fr f4) (f1.trans (f2.trans (f3.trans (Fr.wk f4))))
    unfold tI at qq
    clear q
    walk_at "m"
theorem p_law_any_log : ∀ ds h Q E, c_law_any_log ds h Q E → m_law_any_log { nx := fun _ h' => Q .non h', rt := Q } (mstart N_law_any_log ds) h := by
  rintro ds h Q E ⟨a, b, n, t, rfl, bx, n0, n11, q⟩
  walk_at "n"
  intro p1 np1
  generalize eX : up _ p1 _ = h1
  obtain ⟨e1, f1⟩ := new_facts eX np1
  clear eX
  have bx1 := bx.fr f1
  have nin1 := bx.nin np1
  walk_at "n"
  refine ⟨a, b, 7, t + 999, rfl, bx1.less (by omega), by decide, by decide, fun d1 h2 d10 d11 bx2 f2 => ?_⟩
  walk_at "m"
  refine ⟨a, b, 15, t + 998, rfl, bx2.less (by omega), by decide, by decide, fun d2 h3 d20 d21 bx3 f3 => ?_⟩
  walk_at "m"
  intro p4 np4
  have e4 : up h3 p4 (.lst [.int d1, .int d2]) p4 = some (.lst ([d1, d2].map .int)) := up_same
  have f4 : Fr [] h3 (up h3 p4 (.lst [.int d1, .int d2])) := .new np4
  have bx4 := bx3.fr f4
  have nin4 := bx3.nin np4
  have e14 := f4.at0 (f3 p1 _ nin1 (f2 p1 _ nin1 e1))
  have ff4 : Fr [a, b] h (up h3 p4 (.lst [.int d1, .int d2])) := (Fr.wk f1).trans (f2.trans (f3.trans (Fr.wk f4)))
  have n14 : p1 ≠ p4 := ne_of (f3 p1 _ nin1 (f2 p1 _ nin1 e1)) np4
  generalize up h3 p4 (.lst [.int d1, .int d2]) = h4 at *
  refine ⟨a, b, 8, t + 997, rfl, bx4.less (by omega), by decide, by decide, fun d3 h5 d30 d31 bx5 f5 => ?_⟩
  have e5 := f5 p4 _ nin4 e4
  have e15 := f5 p1 _ nin1 e14
  have ff5 := ff4.trans f5
  clear e1 f1 bx1 bx2 f2 bx3 f3 bx4 f4 e4 e14 ff4 bx np4 f5
  walk_at "m"
  obtain ⟨m, em, m14⟩ : ∃ m : Nat, atI [D.int d1, D.int d2] (if decide (d3 = 0) = true then 1 else 0) = some (.int (m : Nat)) ∧ m ≤ 14 := by
    by_cases c : decide (d3 = 0) = true
    · rw [if_pos c]
      exact ⟨d2.toNat, by rw [show ((d2.toNat : Nat) : Int) = d2 by omega]; rfl, by omega⟩
    · rw [if_neg c]
      exact ⟨d1.toNat, by rw [show ((d1.toNat : Nat) : Int) = d1 by omega]; rfl, by omega⟩
  refine ⟨_, em, _, rfl, by omega, by omega, ?_⟩
  clear em e5 nin4 n14 d10 d11 d20 d21 d30 d31
  refine forW (fun k env h' => ∃ (log : List Mk.Tn) (x3 x4 x5 : Option D), env = [some (.ref a), some (.int (n : Nat)), some (.ref p1), x3, x4, x5, none] ∧ log.length = k ∧ (∀ x, x ∈ log → Mk.TnG n x) ∧ h' p1 = some (.lst (log.map tnD)) ∧ Bx h' a b (t + 997 - 60 * k) ∧ Fr [a, b] h h') ⟨[], _, _, _, rfl, rfl, fun _ z => (nomatch z), e15, bx5, ff5⟩ (fun _ _ _ _ => trivial) ?_ ?_
  · rintro k env h6 hk ⟨log, x3, x4, x5, rfl, ll, ok, g1, bx6, ff⟩
    rw [srcR_n, Int.toNat_natCast] at hk
    refine ⟨_, rfl, ?_⟩
    rw [srcR_item, Int.mul_one, Int.zero_add]
    replace ok := PLift.up ok
    replace ll := PLift.up ll
    clear e15 bx5 ff5
    walk_at "n"
    refine ⟨a, b, 4, t + 996 - 60 * k, rfl, bx6.less (by omega), by decide, by decide, fun w h7 w0 w1 bx7 f7 => ?_⟩
    have g17 := f7 p1 _ nin1 g1
    walk_at "m"
    walk_at "n"
    refine ⟨mulOkL (by omega) (by omega), by omega, by omega, ?_⟩
    refine lcP (fun k => some (pD (Mk.kyI k))) (fun _ _ => trivial) (by rw [srcR_n]; omega) (fun k h' hk f => ⟨_, rfl, fun R rr => ?_⟩) (fun p8 h8 f8 np8 e8 => ?_)
    · rw [srcR_item, Int.mul_one, Int.zero_add]
      have rr := rr h' .refl
      unfold Mk.kyI pD at rr
      rw [Int.natCast_ediv, Int.natCast_emod] at rr
      walk_at "m"
      exact ⟨divOk (by decide) (by decide), mulOkL (by decide) (by decide), rr⟩
    rw [srcR_n, show (2 * ((n : Nat) : Int)).toNat = 2 * n by omega, fm_some] at e8
    rw [show ((List.range (2 * n)).map fun k => pD (Mk.kyI k)) = ((List.range (2 * n)).map Mk.kyI).map pD by rw [List.map_map]; rfl] at e8
    have bx8 := bx7.fr f8
    have nin8 := bx7.nin np8
    have g18 := f8.at0 g17
    have ff8 := ff.trans (f7.trans (Fr.wk f8))
    have n18 : p1 ≠ p8 := ne_of g17 np8
    clear g1 bx6 ff f7 g17 bx7 f8 np8
    walk_at "n"
    refine lcS [a, b] (fun c acc h' => ∃ zs : Mk.Tn, acc = zs.map trD ∧ (zs.map fun x => (x.1, x.2.1)).Sublist ((List.range c).map Mk.kyI) ∧ (∀ x, x ∈ zs → 0 < x.2.2 ∧ x.2.2 ≤ 10) ∧ Bx h' a b (t + 996 - 60 * k - 2 * c)) bx8.some ?_ ⟨[], rfl, .slnil, fun _ z => (nomatch z), bx8⟩ (fun h' f => f _ _ nin8 e8) (by rw [srcD_n, List.length_map, List.length_map, List.length_range]; omega) ?_ ?_
    · rintro c acc h' p o np ⟨zs, e, s, ps, bz⟩
      have := bx8.ne np
      exact ⟨zs, e, s, ps, bz.put this.1 this.2⟩
    · rintro c acc h' hc f9 ⟨zs, rfl, sb, ps, bz⟩ al
      rw [srcD_n, List.length_map, List.length_map, List.length_range] at hc
      refine ⟨_, by rw [srcD_item, getD_map (by rw [List.length_map, List.length_range]; exact hc)]; rfl, fun R rn ry => ?_⟩
      have ek : ((List.range (2 * n)).map Mk.kyI)[c]'(by rw [List.length_map, List.length_range]; exact hc) = Mk.kyI c := by rw [List.getElem_map, List.getElem_range]
      rw [ek]
      have sno : (zs.map fun x => (x.1, x.2.1)).Sublist ((List.range (c + 1)).map Mk.kyI) := by
        rw [List.range_succ, List.map_append]
        exact sb.trans (List.sublist_append_left _ _)
      unfold pD
      replace sb := PLift.up sb
      replace sno := PLift.up sno
      replace ps := PLift.up ps
      walk_at "m"
      refine ⟨a, b, 1 + w, t + 995 - 60 * k - 2 * c, rfl, bz.less (by omega), by omega, by omega, fun v h10 v0 v1 bx10 f10 => ?_⟩
      walk_at "m"
      refine ite_ (fun cc => ?_) (fun cc => ?_)
      · refine ⟨a, b, 3, t + 994 - 60 * k - 2 * c, rfl, bx10.less (by omega), by decide, by decide, fun u h11 u0 u1 bx11 f11 => ?_⟩
        walk_at "m"
        refine ry _ _ (f10.trans f11) ⟨zs ++ [((Mk.kyI c).1, (Mk.kyI c).2, 1 + u)], by rw [List.map_append]; rfl, ?_, ?_, bx11.less (by omega)⟩
        · rw [List.map_append, List.range_succ, List.map_append]
          exact sb.down.append (List.Sublist.refl _)
        · intro x hx
          rcases List.mem_append.mp hx with hx | hx
          · exact ps.down x hx
          · rw [List.mem_singleton.mp hx]
            exact ⟨by show 0 < 1 + u; omega, by show 1 + u ≤ 10; omega⟩
      · exact rn _ f10 ⟨zs, rfl, sno.down, ps.down, bx10.less (by omega)⟩
    · rintro p9 h9 acc f9 np9 e9 ⟨zs, rfl, sb, ps, bz⟩
      rw [srcD_n, List.length_map, List.length_map, List.length_range] at sb bz
      have g19 := f9 _ _ nin1 g18
      have tg := Mk.sub_ok (by omega) sb ps
      have okd := ok.down
      have lld := ll.down
      clear sb ps g18
      walk_at "m"
      have n12 : a ≠ p1 ∧ b ≠ p1 := ⟨fun e => nin1 (by rw [e]; simp), fun e => nin1 (by rw [e]; simp)⟩
      refine ⟨by omega, log ++ [zs], by rw [List.length_append, List.length_singleton, lld], fun x hx => ?_, by rw [List.map_append]; rfl, (bz.put n12.1 n12.2).less (by omega), (ff8.trans f9).over np1⟩
      rcases List.mem_append.mp hx with hx | hx
      · exact okd x hx
      · rw [List.mem_singleton.mp hx]; exact tg
  · rintro env h6 ⟨log, x3, x4, x5, rfl, ll, ok, g1, bx6, ff⟩
    rw [srcR_n, Int.toNat_natCast] at ll bx6
    have qq := q log h6 (by omega) ok (bx6.less (by omega)) ff
    unfold lgD at qq
    clear e15
    walk_at "n"
theorem dV_put {kvs : List (Key × D)} {k k2 : Key} {v : D} : dV (dPutK kvs k v) k2 = if k2 = k then some v else dV kvs k2 := by
  unfold dPutK
  by_cases c : (kvs.any fun kv => decide (kv.1 = k)) = true
  · rw [if_pos c]
    unfold dV
    rw [List.find?_map]
    have pe : ((fun kv : Key × D => decide (kv.1 = k2)) ∘ fun kv : Key × D => if kv.1 = k then (kv.1, v) else kv) = fun kv => decide (kv.1 = k2) := by
      funext kv
      simp only [Function.comp_apply]
      by_cases e : kv.1 = k <;> simp [e]
    rw [pe, Option.map_map]
    by_cases e : k2 = k
    · subst e
      rw [if_pos rfl]
      obtain ⟨kv, hk, ek⟩ := List.any_eq_true.mp c
      cases hf : kvs.find? fun kv => decide (kv.1 = k2) with
      | none => exact absurd ek (List.find?_eq_none.mp hf kv hk)
      | some z =>
        have := List.find?_some hf
        simp only [decide_eq_true_eq] at this
        simp [this]
    · rw [if_neg e]
      cases hf : kvs.find? fun kv => decide (kv.1 = k2) with
      | none => rfl
      | some z =>
        have := List.find?_some hf
        simp only [decide_eq_true_eq] at this
        simp [this, e]
  · rw [if_neg c]
    unfold dV
    rw [List.find?_append]
    by_cases e : k2 = k
    · subst e
      rw [if_pos rfl]
      have : (kvs.find? fun kv => decide (kv.1 = k2)) = none := List.find?_eq_none.mpr fun x hx z => c (List.any_eq_true.mpr ⟨x, hx, z⟩)
      rw [this]
      simp
    · rw [if_neg e]
      have : ([(k, v)].find? fun kv : Key × D => decide (kv.1 = k2)) = none := by
        rw [List.find?_eq_none]
        intro x hx
        rw [List.mem_singleton.mp hx]
        simp only [decide_eq_true_eq]
        exact fun z => e z.symm
      rw [this, Option.or_none]
theorem dPutK_len {kvs : List (Key × D)} {k : Key} {v : D} : (dPutK kvs k v).length ≤ kvs.length + 1 := by
  unfold dPutK
  split
  · rw [List.length_map]; omega
  · rw [List.length_append, List.length_singleton]; omega
theorem p_law_comparing_turn : ∀ ds h Q E, c_law_comparing_turn ds h Q E → m_law_comparing_turn { nx := fun _ h' => Q .non h', rt := Q } (mstart N_law_comparing_turn ds) h := by
  rintro ds h Q E ⟨a, b, row, t, rfl, bx, r11, q⟩
  unfold tI
  walk_at "n"
  intro p1 np1
  generalize eX : up _ p1 _ = h1
  obtain ⟨e1, f1⟩ := new_facts eX np1
  clear eX
  have bx1 := bx.fr f1
  have nin1 := bx.nin np1
  walk_at "n"
  refine ⟨row, .inr rfl, by omega, fun S p2 asc mem np2 => ?_⟩
  have sn : S.Nodup := asc.imp fun {a b} z => by omega
  have sl : S.length ≤ 11 := Nat.le_trans (nodup_le sn fun z hz => (mem z).mp hz) r11
  have e2 : up h1 p2 (.lst (S.map .int)) p2 = some (.lst (S.map .int)) := up_same
  have f2 : Fr [] h1 (up h1 p2 (.lst (S.map .int))) := .new np2
  have bx2 := bx1.fr f2
  have nin2 := bx1.nin np2
  have n12 := ne_of e1 np2
  have e12 := f2.at0 e1
  generalize up h1 p2 (.lst (S.map .int)) = h2 at *
  replace mem := PLift.up mem
  clear e1 asc bx bx1
  have tab : ∀ v : Int, 0 ≤ v → v < 4 → ∃ u : Int, atI [D.int 0, D.int 0, D.int 1, D.int 2] v = some (.int u) ∧ 0 ≤ u ∧ u ≤ 2 := fun v v0 v4 => by
    obtain ⟨d, ed, md⟩ := atI_lt (ds := [D.int 0, D.int 0, D.int 1, D.int 2]) v0 v4
    obtain ⟨o, rfl, mo⟩ := memI (xs := [0, 0, 1, 2]) md
    simp only [List.mem_cons, List.not_mem_nil, or_false] at mo
    exact ⟨o, ed, by omega, by omega⟩
  replace tab := PLift.up tab
  refine forW (fun k env h' => ∃ (kvs : List (Key × D)) (f g : Int → Int) (x3 : Option D), env = [some (.ref a), some (.tup (row.map .int)), some (.ref p1), x3, none, none, none, none] ∧ h' p1 = some (.dK kvs) ∧ kvs.length ≤ k ∧ (∀ x, 0 ≤ f x ∧ f x ≤ 2 ∧ 0 ≤ g x ∧ g x ≤ 2) ∧ (∀ i (hi : i < S.length), i < k → dV kvs (.inl S[i]) = some (.tup [.int (f S[i]), .int (g S[i])])) ∧ h' p2 = some (.lst (S.map .int)) ∧ Bx h' a b (t + 30 - 2 * k) ∧ Fr [a, b] h h') ⟨[], fun _ => 0, fun _ => 0, _, rfl, e12, Nat.le_refl _, fun _ => ⟨Int.le_refl _, by show (0 : Int) ≤ 2; decide, Int.le_refl _, by show (0 : Int) ≤ 2; decide⟩, fun i _ z => absurd z (Nat.not_lt_zero _), e2, bx2, Fr.wk (f1.trans f2)⟩ (fun _ h' _ w => by obtain ⟨_, _, _, _, _, _, _, _, _, e, _⟩ := w; exact e) ?_ ?_
  · rintro k env h3 hk ⟨kvs, f, g, x3, rfl, d3, lk, fg, al, e3, bx3, ff⟩
    rw [srcD_n, List.length_map] at hk
    refine ⟨_, by rw [srcD_item, getD_map hk]; rfl, ?_⟩
    replace fg := PLift.up fg
    replace al := PLift.up al
    clear e12 e2 f2 f1 bx2
    refine putD_ ?_
    walk_at "m"
    intro p5 np5
    have f5 : Fr [] h3 (up h3 p5 (.lst [.int 0, .int 0, .int 1, .int 2])) := .new np5
    have e5 : up h3 p5 (.lst [.int 0, .int 0, .int 1, .int 2]) p5 = some (.lst [.int 0, .int 0, .int 1, .int 2]) := up_same
    have nin5 := bx3.nin np5
    have bx5 := bx3.fr f5
    have d5 := f5.at0 d3
    have e35 := f5.at0 e3
    have ff5 := ff.trans (Fr.wk f5)
    generalize up h3 p5 (.lst [.int 0, .int 0, .int 1, .int 2]) = h5 at *
    clear d3 e3 bx3 ff np5 f5
    refine ⟨a, b, 4, t + 29 - 2 * k, rfl, bx5.less (by omega), by decide, by decide, fun v h6 v0 v4 bx6 f6 => ?_⟩
    obtain ⟨u, eu, u0, u2⟩ := tab.down v v0 v4
    have d6 := f6 _ _ nin1 d5
    have e36 := f6 _ _ nin2 e35
    have e6 := f6 _ _ nin5 e5
    have ff6 := ff5.trans f6
    clear d5 e35 e5 f6 ff5 bx5 nin5 v0 v4
    walk_at "m"
    intro p7 np7
    have f7 : Fr [] h6 (up h6 p7 (.lst [.int 0, .int 0, .int 1, .int 2])) := .new np7
    have e7 : up h6 p7 (.lst [.int 0, .int 0, .int 1, .int 2]) p7 = some (.lst [.int 0, .int 0, .int 1, .int 2]) := up_same
    have nin7 := bx6.nin np7
    have bx7 := bx6.fr f7
    have d7 := f7.at0 d6
    have e37 := f7.at0 e36
    have ff7 := ff6.trans (Fr.wk f7)
    generalize up h6 p7 (.lst [.int 0, .int 0, .int 1, .int 2]) = h7 at *
    clear d6 e36 e6 bx6 ff6 np7 f7 eu
    refine ⟨a, b, 4, t + 28 - 2 * k, rfl, bx7.less (by omega), by decide, by decide, fun w h8 w0 w4 bx8 f8 => ?_⟩
    obtain ⟨u', eu', u0', u2'⟩ := tab.down w w0 w4
    have d8 := f8 _ _ nin1 d7
    have e38 := f8 _ _ nin2 e37
    have e8 := f8 _ _ nin7 e7
    have ff8 := ff7.trans f8
    clear d7 e37 e7 f8 ff7 bx7 nin7 w0 w4
    walk_at "m"
    have lk2 := @dPutK_len kvs (Sum.inl S[k]) (D.tup [D.int u, D.int u'])
    refine ⟨by omega, by omega, fun x => if x = S[k] then u else f x, fun x => if x = S[k] then u' else g x, fun x => ?_, fun i hi hl => ?_, by rw [up_ne (Ne.symm n12)]; exact e38, (bx8.put (fun e => nin1 (by rw [e]; simp)) (fun e => nin1 (by rw [e]; simp))).less (by omega), ff8.over np1⟩
    · have := fg.down x
      dsimp only
      split <;> omega
    · rw [dV_put]
      by_cases c : S[i] = S[k]
      · rw [if_pos (by rw [c])]
        simp only [if_pos c]
      · rw [if_neg (fun z => c (Sum.inl.inj z))]
        simp only [if_neg c]
        refine al.down i hi ?_
        rcases Nat.lt_or_ge i k with z | z
        · exact z
        · obtain rfl : i = k := by omega
          exact absurd rfl c
  · rintro env h3 ⟨kvs, f, g, x3, rfl, d3, lk, fg, al, e3, bx3, ff⟩
    rw [srcD_n, List.length_map] at al bx3
    have gt : ∀ k (hk : k < row.length), dV kvs (.inl row[k]) = some (.tup [.int (f row[k]), .int (g row[k])]) := fun k hk => by
      obtain ⟨i, hi, e⟩ := List.getElem_of_mem ((mem.down row[k]).mpr (List.getElem_mem hk))
      rw [← e]
      exact al i hi hi
    replace gt := PLift.up gt
    clear al e12 e2 f1 f2 lk e3 bx2 tab n12
    dsimp only
    walk_at "n"
    intro p4 np4
    generalize eX : up _ p4 _ = h4
    obtain ⟨e4, f4⟩ := new_facts eX np4
    clear eX
    have d4 := f4.at0 d3
    have bx4 := bx3.fr f4
    have ff4 := ff.trans (Fr.wk f4)
    have n14 := ne_of d3 np4
    have nin4 := bx3.nin np4
    have hp4 : h p4 = none := fr_freeS ff bx3.some np4
    clear d3 bx3 ff f4 np4
    walk_at "n"
    refine forW (fun k env h' => ∃ x3 x5 x6 x7, env = [some (.ref a), some (.tup (row.map .int)), some (.ref p1), x3, some (.ref p4), x5, x6, x7] ∧ h' p4 = some (.lst ((Mk.tlK row f g k).map trD)) ∧ h' p1 = some (.dK kvs) ∧ Bx h' a b t ∧ Fr [a, b] h h') ⟨_, _, _, _, rfl, e4, d4, bx4.less (by omega), ff4⟩ (fun _ _ _ _ => trivial) ?_ ?_
    · rintro k env h5 hk ⟨x3, x5, x6, x7, rfl, e5, d5, bx5, ff⟩
      clear e4 d4 bx4 ff4
      rw [srcE_n, List.length_map] at hk
      refine ⟨_, by rw [srcE_item, getD_map hk]; rfl, ?_⟩
      have gk := gt.down k hk
      have rk : row.getD k 0 = row[k] := Fl.getD_lt hk 0
      have tk := @Mk.tlK_succ row f g k
      have tn := @Mk.tlK_len row f g k
      rw [rk] at tk
      generalize f row[k] = u at *
      generalize g row[k] = v at *
      replace tk := PLift.up tk
      replace tn := PLift.up tn
      refine for_ ?_
      walk_at "m"
      refine forW (fun j env h' => ∃ x6 x7, env = [some (.ref a), some (.tup (row.map .int)), some (.ref p1), some (.int row[k]), some (.ref p4), some (.int (k : Nat)), x6, x7] ∧ h' p4 = some (.lst ((Mk.tlK row f g k ++ Mk.tlp u v k j).map trD)) ∧ h' p1 = some (.dK kvs) ∧ Bx h' a b t ∧ Fr [a, b] h h') ⟨_, _, rfl, by rw [e5, show Mk.tlp u v k 0 = [] from rfl, List.append_nil], d5, bx5, ff⟩ (fun _ _ _ _ => trivial) ?_ ?_
      · rintro j env h6 hj ⟨x6, x7, rfl, e6, d6, bx6, ff6⟩
        have hj : j < 2 := hj
        have n41 : p4 ≠ p1 := Ne.symm n14
        have ap : a ≠ p4 ∧ b ≠ p4 := ⟨fun e => nin4 (by rw [e]; simp), fun e => nin4 (by rw [e]; simp)⟩
        have tn1 := @Mk.tlp_len u v k
        have tn0 : (Mk.tlp u v k 0).length ≤ 1 := Nat.zero_le _
        clear e5 d5 bx5 ff gk
        rcases (by omega : j = 0 ∨ j = 1) with rfl | rfl
        · refine ⟨[some (.ref a), some (.tup (row.map .int)), some (.ref p1), some (.int row[k]), some (.ref p4), some (.int (k : Nat)), some (.int (-1)), some (.int u)], rfl, ?_⟩
          refine if_ ?_
          walk_at "m"
          refine ite_ (fun c => ?_) (fun c => ?_)
          · have tp := @Mk.tlp_a u v k c
            generalize Mk.tlp u v k 0 = T0 at *
            generalize Mk.tlp u v k (0 + 1) = T1 at *
            walk_at "n"
            rw [up_ne n14]
            exact ⟨by rw [List.length_append]; have := tn.down; omega, by rw [← List.append_assoc, List.map_append (l₂ := [_])]; rfl, d6, bx6.put ap.1 ap.2, ff6.over hp4⟩
          · refine next_ ?_
            dsimp only
            rw [Mk.tlp_b c]
            exact ⟨_, _, rfl, e6, d6, bx6, ff6⟩
        · refine ⟨[some (.ref a), some (.tup (row.map .int)), some (.ref p1), some (.int row[k]), some (.ref p4), some (.int (k : Nat)), some (.int (1)), some (.int v)], rfl, ?_⟩
          refine if_ ?_
          walk_at "m"
          refine ite_ (fun c => ?_) (fun c => ?_)
          · have tp := @Mk.tlp_c u v k c
            generalize Mk.tlp u v k 1 = T0 at *
            generalize Mk.tlp u v k (1 + 1) = T1 at *
            walk_at "n"
            rw [up_ne n14]
            exact ⟨by rw [List.length_append]; have := tn.down; omega, by rw [← List.append_assoc, List.map_append (l₂ := [_])]; rfl, d6, bx6.put ap.1 ap.2, ff6.over hp4⟩
          · refine next_ ?_
            dsimp only
            rw [Mk.tlp_d c]
            exact ⟨_, _, rfl, e6, d6, bx6, ff6⟩
      · rintro env h6 ⟨x6, x7, rfl, e6, d6, bx6, ff6⟩
        exact ⟨_, _, _, _, rfl, by rw [e6, tk.down]; rfl, d6, bx6, ff6⟩
    · rintro env h6 ⟨x3, x5, x6, x7, rfl, e6, d6, bx6, ff6⟩
      rw [srcE_n, List.length_map] at e6
      have tg := Mk.tlK_ok (row := row) (f := f) (g := g) (k := row.length) (by omega) (fun x => by have := fg x; omega) (fun x => by have := fg x; omega)
      have qq := q _ h6 tg (Mk.tlK_alk tg.ok) bx6 ff6
      unfold tnD at qq
      clear e4
      walk_at "n"
theorem p_law_comparing_log : ∀ ds h Q E, c_law_comparing_log ds h Q E → m_law_comparing_log { nx := fun _ h' => Q .non h', rt := Q } (mstart N_law_comparing_log ds) h := by
  rintro ds h Q E ⟨a, b, ring, many, t, rfl, bx, n0, n11, m0, m20, q⟩
  unfold tI
  have r1 : (List.replicate ring.length [D.int 0]).flatten = (List.replicate ring.length (0 : Int)).map .int := by rw [rep_flat, List.map_replicate]
  have r2 : (List.replicate ring.length [D.tup [D.int 0, D.int 0]]).flatten = (List.replicate ring.length ((0, 0) : Int × Int)).map pD := by rw [rep_flat, List.map_replicate]
  replace r2 := PLift.up r2
  walk_at "n"
  intro p1 np1
  generalize eX : up _ p1 _ = h1
  obtain ⟨e1, f1⟩ := new_facts eX np1
  clear eX
  have bx1 := bx.fr f1
  have nin1 := bx.nin np1
  refine ⟨by simp, by omega, by omega, ?_⟩
  intro p2 np2
  refine ⟨by omega, by omega, by omega, ?_⟩
  have f2 : Fr [] h1 (up h1 p2 (.lst [D.tup [D.int 0, D.int 0]])) := .new np2
  have e12 := f2.at0 e1
  have bx2 := bx1.fr f2
  generalize up h1 p2 (.lst [D.tup [D.int 0, D.int 0]]) = h2 at e12 f2 bx2 ⊢
  rw [Int.toNat_natCast, r1, r2.down]
  intro p3 np3
  generalize eX : up _ p3 _ = h3
  obtain ⟨e3, f3⟩ := new_facts eX np3
  clear eX
  have e13 := f3.at0 e12
  have bx3 := bx2.fr f3
  have n13 := ne_of e12 np3
  have nin3 := bx2.nin np3
  have ff3 : Fr [a, b] h h3 := Fr.wk (f1.trans (f2.trans f3))
  clear e1 bx1 e12 bx2 f1 f2 f3 np3 r1 r2 bx np2
  walk_at "n"
  refine ⟨by omega, by omega, ?_⟩
  refine forW (fun k env h' => ∃ (log : List Mk.Tn) (p : Addr) (x6 : Option D), env = [some (.ref a), some (.tup (ring.map .int)), some (.int many), some (.ref p1), some (tI (Mk.stK ring log k).1), some (.ref p), x6] ∧ log.length = k ∧ (∀ x, x ∈ log → Mk.TnG ring.length x) ∧ Mk.Cmp ring log ∧ h' p1 = some (.lst (log.map tnD)) ∧ h' p = some (.lst ((Mk.stK ring log k).2.map pD)) ∧ p1 ≠ p ∧ p ∉ [a, b] ∧ Bx h' a b (t + 1000 - 40 * k) ∧ Fr [a, b] h h') ⟨[], p3, none, rfl, rfl, fun _ z => (nomatch z), fun k hk => absurd hk (Nat.not_lt_zero _), e13, e3, n13, nin3, bx3, ff3⟩ (fun _ _ _ _ => trivial) ?_ ?_
  · rintro k env h4 hk ⟨log, p, x6, rfl, ll, ok, cm, g1, gp, n1p, ninp, bx4, ff⟩
    rw [srcR_n] at hk
    have hk : k < 20 := by omega
    refine ⟨_, rfl, ?_⟩
    rw [srcR_item, Int.mul_one, Int.zero_add]
    obtain ⟨l1, l2⟩ := Mk.stK_len (ring := ring) (log := log) (k := k)
    have sb := stK_sb (ring := ring) (log := log) (k := k) (by omega)
    clear e13 e3 n13 nin3 bx3 ff3
    replace ok := PLift.up ok
    replace ll := PLift.up ll
    replace cm := PLift.up cm
    replace l1 := PLift.up l1
    replace l2 := PLift.up l2
    replace sb := PLift.up sb
    walk_at "n"
    refine ⟨a, b, (Mk.stK ring log k).1, t + 970 - 40 * k, rfl, bx4.less (by omega), by rw [l1.down]; exact n11, fun x h5 tg al bx5 f5 => ?_⟩
    have g15 := f5 p1 _ nin1 g1
    have last : atI (log.map tnD ++ [tnD x]) (-1) = some (tnD x) := atI_last
    replace tg := PLift.up tg
    replace al := PLift.up al
    have gp5 := f5 p _ ninp gp
    have sx := Mk.stK_snoc (ring := ring) (log := log) (t := x)
    rw [ll.down] at sx
    have e1 : (Mk.stK ring (log ++ [x]) (k + 1)).1 = Mk.rb ring (Mk.stK ring log k).1 x (Mk.sbL (Mk.stK ring log k).2 x) := by rw [sx]; rfl
    have e2 : (Mk.stK ring (log ++ [x]) (k + 1)).2 = Mk.sbL (Mk.stK ring log k).2 x := by rw [sx]; rfl
    clear g1 gp bx4 sx
    replace e1 := PLift.up e1
    replace e2 := PLift.up e2
    refine ⟨_, g15, by rw [List.length_map, ll.down]; omega, ?_⟩
    have ba : a ≠ p1 ∧ b ≠ p1 := ⟨fun e => nin1 (by rw [e]; simp), fun e => nin1 (by rw [e]; simp)⟩
    have bx6 := bx5.put (o := .lst (log.map tnD ++ [tnD x])) ba.1 ba.2
    have ff6 := (ff.trans f5).over (o := .lst (log.map tnD ++ [tnD x])) np1
    have g16 : up h5 p1 (.lst (log.map tnD ++ [tnD x])) p1 = some (.lst (log.map tnD ++ [tnD x])) := up_same
    have gp6 : up h5 p1 (.lst (log.map tnD ++ [tnD x])) p = some (.lst ((Mk.stK ring log k).2.map pD)) := by rw [up_ne (Ne.symm n1p)]; exact gp5
    generalize up h5 p1 (.lst (log.map tnD ++ [tnD x])) = h6 at *
    clear bx5 ff f5 g15 gp5
    walk_at "n"
    refine ⟨ring, (Mk.stK ring log k).1, p, (Mk.stK ring log k).2, x, rfl, gp6, tg.down.ok, n0, by omega, l1.down, l2.down, fun s hs => by have := sb.down s hs; omega, fun p7 h7 np7 e7 f7 => ?_⟩
    have g17 := f7.at0 g16
    have nin7 := bx6.nin np7
    have n17 := ne_of g16 np7
    have bx7 := bx6.fr f7
    clear g16 gp6 last bx6
    walk_at "m"
    refine ⟨log ++ [x], by rw [e1.down], by rw [List.length_append, List.length_singleton, ll.down], fun z hz => ?_, cm.down.snoc (by rw [ll.down]; exact al.down), by rw [List.map_append, List.map_singleton], by rw [e2.down], bx7.less (by omega), ff6.trans (Fr.wk f7)⟩
    rcases List.mem_append.mp hz with hz | hz
    · exact ok.down z hz
    · rw [List.mem_singleton.mp hz, ← l1.down]; exact tg.down
  · rintro env h4 ⟨log, p, x6, rfl, ll, ok, cm, g1, gp, n1p, ninp, bx4, ff⟩
    rw [srcR_n] at ll bx4
    have qq := q log h4 ll ok cm (bx4.less (by omega)) ff
    clear bx3
    unfold lgD at qq
    clear e3 e13
    walk_at "n"
theorem len_law_same : ∀ n ds h Q E, c_law_same n ds h Q E → ds.length = 2
  | 0, _, _, _, _, q => q.elim
  | n + 1, _, _, _, _, ⟨d, e, _⟩ => by rw [e]; rfl
theorem p_law_same : ∀ n ds h Q E, c_law_same (n + 1) ds h Q E → m_law_same n { nx := fun _ h' => Q .non h', rt := Q } (mstart N_law_same ds) h := by
  rintro n ds h Q E ⟨d, rfl, dd, q⟩
  have q0 := q h .refl
  cases d with
  | non =>
    walk_at "g"
  | int i =>
    walk_at "g"
  | tup xs =>
    obtain ⟨hl, hx⟩ := dd
    have hz : xs.length ≤ 16777216 := by omega
    have ez : srcZ xs xs (fun _ => True) = srcZ (xs.map id) (xs.map id) fun _ => True := by rw [List.map_id]
    walk_at "g"
    refine lcZ xs xs id id (fun _ => some (.bl true)) (fun _ _ => trivial) (by rw [List.length_zip]; omega) (fun x h' hk fr => ⟨_, rfl, fun R r => ?_⟩) (fun p h' fr np ep => ?_)
    · have e : x.1 = x.2 ∧ x.1 ∈ xs := by
        obtain ⟨i, hi, e⟩ := List.getElem_of_mem hk
        rw [List.getElem_zip] at e
        rw [← e]
        exact ⟨rfl, List.getElem_mem ..⟩
      have hm : Dd n x.1 := hx _ e.2
      cases n with
      | zero => exact hm.elim
      | succ n =>
        walk_at "m"
        exact ⟨x.1, by rw [e.1]; rfl, hm, fun h3 f3 => r h3 f3⟩
    · have e2 : (xs.zip xs).filterMap (fun _ => some (D.bl true)) = (List.replicate (xs.zip xs).length true).map .bl := by
        rw [fm_some, List.map_const', List.map_replicate]
      refine ⟨List.replicate (xs.zip xs).length true, by rw [← e2]; exact ep, ?_⟩
      have e3 : (List.replicate (xs.zip xs).length true).all id = true := by
        rw [List.all_eq_true]
        intro x hx
        exact (List.mem_replicate.mp hx).2
      rw [e3]
      exact q h' fr
  | bl _ => exact dd.elim
  | str _ => exact dd.elim
  | rl _ => exact dd.elim
  | tw _ => exact dd.elim
  | ref _ => exact dd.elim
/-! ### alone -/
theorem len_alone : ∀ ds h Q E, c_alone ds h Q E → ds.length = 2 := by rintro ds h Q E ⟨a, b, rfl, _⟩; rfl
theorem aln_fm {row : List Int} : (List.range row.length).filterMap (fun k => if decide (((row.count (row.getD k 0) : Nat) : Int) = 1) = true then some (D.int (k : Nat)) else none) = (Mk.aln row).map .int := by
  rw [fm_if]
  unfold Mk.aln
  rw [List.map_map]
  have : (fun i : Nat => decide (((row.count (row.getD i 0) : Nat) : Int) = 1)) = fun i : Nat => decide (row.count (row.getD i 0) = 1) := by
    funext i
    rw [decide_eq_decide]; omega
  rw [this]; rfl
theorem aln_len {row : List Int} : (Mk.aln row).length ≤ row.length := by
  unfold Mk.aln
  rw [List.length_map]
  have := List.length_filter_le (fun i => decide (row.count (row.getD i 0) = 1)) (List.range row.length)
  rw [List.length_range] at this
  exact this
theorem p_alone : ∀ ds h Q E, c_alone ds h Q E → m_alone { nx := fun _ h' => Q .non h', rt := Q } (mstart N_alone ds) h := by
  rintro ds h Q E ⟨ring, log, rfl, n0, n64, ll, ok, q⟩
  walk_at "n"
  refine ⟨ring, log, rfl, n0, n64, ll, ok, fun h1 f1 => ?_⟩
  have last : atI ((Mk.mks ring log).map tI) (-1) = some (tI (Mk.stK ring log log.length).1) := by rw [Mk.mks_last, List.map_append]; exact atI_last
  have l1 := (Mk.stK_len (ring := ring) (log := log) (k := log.length)).1
  walk_at "m"
  generalize (Mk.stK ring log log.length).1 = row at *
  clear last
  have l1 := PLift.up l1
  clear ok
  unfold tI
  walk_at "n"
  refine lcP (fun k => if decide (((row.count (row.getD k 0) : Nat) : Int) = 1) = true then some (D.int (k : Nat)) else none) (fun _ _ => trivial) (by rw [srcE_n, List.length_map, l1.down]; omega) (fun k h' hk f => ?_) (fun p h2 f2 np e2 => ?_)
  · rw [srcE_n, List.length_map] at hk
    refine ⟨_, by rw [srcE_item, getD_map hk]; rfl, fun R rr => ?_⟩
    have rr := rr h' .refl
    rw [Fl.getD_lt hk] at rr
    walk_at "m"
    refine ⟨row, rfl, ?_⟩
    show if decide (((row.count row[k] : Nat) : Int) = 1) = true then _ else _
    by_cases c : decide (((row.count row[k] : Nat) : Int) = 1) = true
    · rw [if_pos c] at rr ⊢; exact rr
    · rw [if_neg c] at rr ⊢; exact rr
  · rw [srcE_n, List.length_map, aln_fm] at e2
    have qq := q h2 (f1.trans f2)
    unfold tI at qq
    walk_at "m"
/-! ### k56 -/
theorem len_law : ∀ ds h Q E, c_law ds h Q E → ds.length = 1 := by rintro ds h Q E ⟨a, rfl, _⟩; rfl
theorem dd_ti {xs : List Int} (l : xs.length ≤ 100000) : Dd 3 (tI xs) := ⟨by rw [List.length_map]; exact l, fun y hy => by obtain ⟨i, hi, rfl⟩ := List.mem_map.mp hy; exact trivial⟩
theorem p_law : ∀ ds h Q E, c_law ds h Q E → m_law { nx := fun _ h' => Q .non h', rt := Q } (mstart N_law ds) h := by
  rintro ds h Q E ⟨ns, rfl, hl, q⟩
  walk_at "n"
  refine ⟨ns, rfl, hl, fun a b h1 f1 na nb bx1 => ?_⟩
  walk_at "n"
  refine ⟨by decide, by decide, ?_⟩
  refine forW (fun k env h' => ∃ x2 x3 x4 x5 x6 x7 x8, env = [some (.rl (ns.map .int)), some (.ref a), x2, x3, x4, x5, x6, x7, x8, none, none] ∧ Bx h' a b (2 ^ 59 - 3000 * k)) ⟨_, _, _, _, _, _, _, rfl, bx1⟩ (fun _ _ _ _ => trivial) ?_ ?_
  · rintro k env h2 hk ⟨x2, x3, x4, x5, x6, x7, x8, rfl, bx2⟩
    have hk : k < 3 := hk
    refine ⟨_, rfl, ?_⟩
    rw [srcR_item, Int.mul_one, Int.zero_add]
    clear bx1
    walk_at "n"
    refine ⟨a, b, 2 ^ 59 - 3000 * k - 80, rfl, bx2.less (by omega), fun ring h3 nd n0 n11 bx3 f3 => ?_⟩
    unfold tI
    walk_at "m"
    walk_at "n"
    refine ⟨a, b, ring.length, 2 ^ 59 - 3000 * k - 1080, rfl, bx3.less (by omega), n0, n11, fun l1 h4 l14 g1 bx4 f4 => ?_⟩
    walk_at "m"
    refine ⟨a, b, ring, 6, 2 ^ 59 - 3000 * k - 2080, rfl, bx4.less (by omega), n0, n11, by decide, by decide, fun l2 h6 l2l g2 _ bx6 f6 => ?_⟩
    walk_at "m"
    intro p7 np7
    generalize eX : up _ p7 _ = h7
    obtain ⟨e7, f7⟩ := new_facts eX np7
    clear eX
    have bx7 := bx6.fr f7
    have nin7 := bx6.nin np7
    clear bx2 bx3 f3 f4 bx4 f6 bx6 f1
    refine ⟨a, b, 2, 2 ^ 59 - 3000 * k - 2081, rfl, bx7.less (by omega), by decide, by decide, fun v h8 v0 v2 bx8 f8 => ?_⟩
    have e8 := f8 _ _ nin7 e7
    obtain ⟨log, el, ll, lg⟩ : ∃ log : List Mk.Tn, atI [lgD l1, lgD l2] v = some (lgD log) ∧ log.length ≤ 300 ∧ ∀ x, x ∈ log → Mk.TnG ring.length x := by
      rcases (by omega : v = 0 ∨ v = 1) with rfl | rfl
      · exact ⟨l1, rfl, by omega, g1⟩
      · exact ⟨l2, rfl, by have : l2.length = 6 := l2l; omega, g2⟩
    replace lg := PLift.up lg
    clear g1 g2 e7 bx7 l2l l14
    walk_at "m"
    clear el e8
    walk_at "n"
    refine ⟨ring, log, rfl, n0, by omega, ll, fun t ht => (lg.down t ht).ok, fun h9 f9 => ?_⟩
    have bx9 := bx8.fr f9
    clear bx8 f8 f7
    walk_at "m"
    walk_at "n"
    have ml := Mk.mks_len (ring := ring) (log := log)
    replace ml := PLift.up ml
    refine forW (fun j env h' => ∃ x6 x7 x8, env = [some (.rl (ns.map .int)), some (.ref a), some (.int (k : Nat)), some (.tup (ring.map .int)), some (lgD log), some (.tup ((Mk.mks ring log).map tI)), x6, x7, x8, none, none] ∧ Bx h' a b (2 ^ 59 - 3000 * k - 2081)) ⟨_, _, _, rfl, bx9⟩ (fun _ _ _ _ => trivial) ?_ ?_
    · rintro j env h10 hj ⟨x6, x7, x8, rfl, bx10⟩
      rw [srcE_n, List.length_map] at hj
      refine ⟨_, by rw [srcE_item, getD_map hj]; rfl, ?_⟩
      rw [Mk.mks_at hj]
      have hj : j ≤ log.length := by rw [ml.down] at hj; omega
      have rl := (Mk.stK_len (ring := ring) (log := log) (k := j)).1
      have tk := Mk.stK_take (ring := ring) hj
      have tk : (Mk.stK ring (log.take j) (log.take j).length).1 = (Mk.stK ring log j).1 := by rw [tk]
      generalize (Mk.stK ring log j).1 = row at *
      replace rl := PLift.up rl
      replace tk := PLift.up tk
      clear bx9
      unfold tI
      walk_at "n"
      refine lcP (fun k => if decide (((row.count (row.getD k 0) : Nat) : Int) = 1) = true then some (D.int (k : Nat)) else none) (fun _ _ => trivial) (by rw [srcE_n, List.length_map, rl.down]; omega) (fun i h' hi f => ?_) (fun p h11 f11 np11 e11 => ?_)
      · rw [srcE_n, List.length_map] at hi
        refine ⟨_, by rw [srcE_item, getD_map hi]; rfl, fun R rr => ?_⟩
        have rr := rr h' .refl
        rw [Fl.getD_lt hi] at rr
        walk_at "m"
        refine ⟨row, rfl, ?_⟩
        show if decide (((row.count row[i] : Nat) : Int) = 1) = true then _ else _
        by_cases c : decide (((row.count row[i] : Nat) : Int) = 1) = true
        · rw [if_pos c] at rr ⊢; exact rr
        · rw [if_neg c] at rr ⊢; exact rr
      · rw [srcE_n, List.length_map, aln_fm] at e11
        have bx11 := bx10.fr f11
        have dd := dd_ti (xs := Mk.aln row) (by have := aln_len (row := row); have := rl.down; omega)
        have ar : Mk.aln (Mk.stK ring (log.take j) (log.take j).length).1 = Mk.aln row := by rw [tk.down]
        replace ar := PLift.up ar
        walk_at "m"
        clear e11
        unfold lgD
        refine if_ ?_
        walk_at "m"
        refine ⟨ring, log.take j, by rw [cut_to, ← List.map_take]; rfl, n0, by omega, Nat.le_trans (List.length_take_le _ _) (by omega), fun t ht => (lg.down t (List.mem_of_mem_take ht)).ok, fun h12 f12 => ?_⟩
        rw [ar.down]
        walk_at "m"
        refine ⟨_, rfl, dd, fun h13 f13 => ?_⟩
        have bx13 := bx11.fr (f12.trans f13)
        walk_at "m"
        refine next_ ?_
        exact ⟨_, _, _, rfl, bx13⟩
    · rintro env h10 ⟨x6, x7, x8, rfl, bx10⟩
      exact ⟨_, _, _, _, _, _, _, rfl, bx10.less (by omega)⟩
  · rintro env h2 ⟨x2, x3, x4, x5, x6, x7, x8, rfl, bx2⟩
    have qq := q
    walk_at "n"
    refine ⟨[3], [], rfl, by decide, by decide, by decide, fun _ z => (nomatch z), fun h3 f3 => ?_⟩
    refine eqD_tt (xs := Mk.aln (Mk.stK [3] [] 0).1) (ys := [0]) ?_
    rw [show decide (Mk.aln (Mk.stK [3] [] 0).1 = [0]) = true by decide]
    exact qq _
theorem law_start (ns : List Int) (hl : ns.length ≤ 63) (hb : ∀ z ∈ ns, Builtin.Int.intBits z ≤ 1048576) : c_law [.rl (ns.map .int)] (fun _ => none) (fun d _ => d = .bl true) noE := ⟨ns, rfl, hl, fun _ => rfl⟩
def top (i : Nat) : Stmt := PySem.Challenge.pw_ringchief_k56_alone.main.body.getD i (.Pass ⟨0, 0, 0, 0⟩)
abbrev s_order_around : Stmt := top 1
theorem sc_order_around : FnScope ["ring", "house", "left", "right", "many", "names", "places", "place", "name", "step"] ["ring", "house", "left", "right"] (defScope s_order_around) := ⟨rfl, rfl, rfl, by decide +kernel, rfl, by decide +kernel, by decide +kernel⟩
abbrev s_numbered : Stmt := top 2
theorem sc_numbered : FnScope ["keys", "numbers", "key"] ["keys"] (defScope s_numbered) := ⟨rfl, rfl, rfl, by decide +kernel, rfl, by decide +kernel, by decide +kernel⟩
abbrev s_told_in : Stmt := top 3
theorem sc_told_in : FnScope ["turn", "house", "side", "letters"] ["turn"] (defScope s_told_in) := ⟨rfl, rfl, rfl, by decide +kernel, rfl, by decide +kernel, by decide +kernel⟩
abbrev s_sights_behind : Stmt := top 4
theorem sc_sights_behind : FnScope ["sights", "told", "many", "found", "house", "left", "right", "before", "behind"] ["sights", "told"] (defScope s_sights_behind) := ⟨rfl, rfl, rfl, by decide +kernel, rfl, by decide +kernel, by decide +kernel⟩
abbrev s_heard_from : Stmt := top 5
theorem sc_heard_from : FnScope ["row", "told", "teller", "side"] ["row", "told", "teller", "side"] (defScope s_heard_from) := ⟨rfl, rfl, rfl, by decide +kernel, rfl, by decide +kernel, by decide +kernel⟩
abbrev s_row_behind : Stmt := top 6
theorem sc_row_behind : FnScope ["ring", "row", "told", "sights", "many", "keys", "house", "heard", "left", "right"] ["ring", "row", "told", "sights"] (defScope s_row_behind) := ⟨rfl, rfl, rfl, by decide +kernel, rfl, by decide +kernel, by decide +kernel⟩
abbrev s_marks : Stmt := top 7
theorem sc_marks : FnScope ["ring", "log", "many", "rows", "sights", "turn", "told"] ["ring", "log"] (defScope s_marks) := ⟨rfl, rfl, rfl, by decide +kernel, rfl, by decide +kernel, by decide +kernel⟩
abbrev s_alone : Stmt := top 8
theorem sc_alone : FnScope ["ring", "log", "last", "house", "mark"] ["ring", "log"] (defScope s_alone) := ⟨rfl, rfl, rfl, by decide +kernel, rfl, by decide +kernel, by decide +kernel⟩
abbrev s_law_box : Stmt := top 10
theorem sc_law_box : FnScope ["_law_script", "_law_seed", "_law_cell"] ["_law_script"] (defScope s_law_box) := ⟨rfl, rfl, rfl, by decide +kernel, rfl, by decide +kernel, by decide +kernel⟩
abbrev s_law_draw : Stmt := top 11
theorem sc_law_draw : FnScope ["_law_box_here", "_law_many", "_law_one", "_law_told_here"] ["_law_box_here", "_law_many"] (defScope s_law_draw) := ⟨rfl, rfl, rfl, by decide +kernel, rfl, by decide +kernel, by decide +kernel⟩
abbrev s_law_mixed_up : Stmt := top 12
theorem sc_law_mixed_up : FnScope ["_law_box_here", "_law_things", "_law_made", "_law_thing"] ["_law_box_here", "_law_things"] (defScope s_law_mixed_up) := ⟨rfl, rfl, rfl, by decide +kernel, rfl, by decide +kernel, by decide +kernel⟩
abbrev s_law_from_behind : Stmt := top 13
theorem sc_law_from_behind : FnScope ["_law_number", "_law_most", "_law_found", "_law_size"] ["_law_number", "_law_most"] (defScope s_law_from_behind) := ⟨rfl, rfl, rfl, by decide +kernel, rfl, by decide +kernel, by decide +kernel⟩
abbrev s_law_places : Stmt := top 14
theorem sc_law_places : FnScope ["_law_box_here", "_law_many", "_law_way", "_law_parts", "_law_size", "_law_block", "_law_k"] ["_law_box_here", "_law_many"] (defScope s_law_places) := ⟨rfl, rfl, rfl, by decide +kernel, rfl, by decide +kernel, by decide +kernel⟩
abbrev s_law_order : Stmt := top 15
theorem sc_law_order : FnScope ["_law_ring", "_law_house", "_law_sight", "_law_many", "_law_names", "_law_step", "_law_one", "_law_other"] ["_law_ring", "_law_house", "_law_sight"] (defScope s_law_order) := ⟨rfl, rfl, rfl, by decide +kernel, rfl, by decide +kernel, by decide +kernel⟩
abbrev s_law_told : Stmt := top 16
theorem sc_law_told : FnScope ["_law_turn", "_law_house", "_law_side", "_law_one", "_law_which", "_law_letters"] ["_law_turn", "_law_house", "_law_side"] (defScope s_law_told) := ⟨rfl, rfl, rfl, by decide +kernel, rfl, by decide +kernel, by decide +kernel⟩
abbrev s_law_behind : Stmt := top 17
theorem sc_law_behind : FnScope ["_law_ring", "_law_row", "_law_sights", "_law_turn", "_law_many", "_law_left", "_law_heard", "_law_later", "_law_house", "_law_orders", "_law_made", "_law_near", "_law_right", "_law_found", "_law_other", "_law_like"] ["_law_ring", "_law_row", "_law_sights", "_law_turn"] (defScope s_law_behind) := ⟨rfl, rfl, rfl, by decide +kernel, rfl, by decide +kernel, by decide +kernel⟩
abbrev s_law_marks : Stmt := top 18
theorem sc_law_marks : FnScope ["_law_ring", "_law_log", "_law_rows", "_law_sights", "_law_turn", "_law_row"] ["_law_ring", "_law_log"] (defScope s_law_marks) := ⟨rfl, rfl, rfl, by decide +kernel, rfl, by decide +kernel, by decide +kernel⟩
abbrev s_law_small_ring : Stmt := top 19
theorem sc_law_small_ring : FnScope ["_law_box_here", "_law_most", "_law_many", "_law_places_here", "_law_gap", "_law_place"] ["_law_box_here", "_law_most"] (defScope s_law_small_ring) := ⟨rfl, rfl, rfl, by decide +kernel, rfl, by decide +kernel, by decide +kernel⟩
abbrev s_law_any_log : Stmt := top 20
theorem sc_law_any_log : FnScope ["_law_box_here", "_law_many", "_law_log", "_law_k", "_law_often", "_law_keys", "_law_key"] ["_law_box_here", "_law_many"] (defScope s_law_any_log) := ⟨rfl, rfl, rfl, by decide +kernel, rfl, by decide +kernel, by decide +kernel⟩
abbrev s_law_comparing_turn : Stmt := top 21
theorem sc_law_comparing_turn : FnScope ["_law_box_here", "_law_row", "_law_telling", "_law_mark", "_law_turn", "_law_house", "_law_side", "_law_letters"] ["_law_box_here", "_law_row"] (defScope s_law_comparing_turn) := ⟨rfl, rfl, rfl, by decide +kernel, rfl, by decide +kernel, by decide +kernel⟩
abbrev s_law_comparing_log : Stmt := top 22
theorem sc_law_comparing_log : FnScope ["_law_box_here", "_law_ring", "_law_many", "_law_log", "_law_row", "_law_sights", "_law_k"] ["_law_box_here", "_law_ring", "_law_many"] (defScope s_law_comparing_log) := ⟨rfl, rfl, rfl, by decide +kernel, rfl, by decide +kernel, by decide +kernel⟩
abbrev s_law_same : Stmt := top 23
theorem sc_law_same : FnScope ["_law_found", "_law_due", "_law_one", "_law_other"] ["_law_found", "_law_due"] (defScope s_law_same) := ⟨rfl, rfl, rfl, by decide +kernel, rfl, by decide +kernel, by decide +kernel⟩
abbrev s_law : Stmt := top 24
theorem sc_law : FnScope ["_law_script", "_law_box_here", "_law_again", "_law_ring", "_law_log", "_law_rows", "_law_k", "_law_row", "_law_due", "_law_house", "_law_mark"] ["_law_script"] (defScope s_law) := ⟨rfl, rfl, rfl, by decide +kernel, rfl, by decide +kernel, by decide +kernel⟩
structure Txt (K : PySem.W.Frag) (mg : Str → Option Value) where
  f_order_around : Fd K mg "order_around" "order_around" s_order_around ["ring", "house", "left", "right"]
  f_numbered : Fd K mg "numbered" "numbered" s_numbered ["keys"]
  f_told_in : Fd K mg "told_in" "told_in" s_told_in ["turn"]
  f_sights_behind : Fd K mg "sights_behind" "sights_behind" s_sights_behind ["sights", "told"]
  f_heard_from : Fd K mg "heard_from" "heard_from" s_heard_from ["row", "told", "teller", "side"]
  f_row_behind : Fd K mg "row_behind" "row_behind" s_row_behind ["ring", "row", "told", "sights"]
  f_marks : Fd K mg "marks" "marks" s_marks ["ring", "log"]
  f_alone : Fd K mg "alone" "alone" s_alone ["ring", "log"]
  f_law_box : Fd K mg "_law_box" "_law_box" s_law_box ["_law_script"]
  f_law_draw : Fd K mg "_law_draw" "_law_draw" s_law_draw ["_law_box_here", "_law_many"]
  f_law_mixed_up : Fd K mg "_law_mixed_up" "_law_mixed_up" s_law_mixed_up ["_law_box_here", "_law_things"]
  f_law_from_behind : Fd K mg "_law_from_behind" "_law_from_behind" s_law_from_behind ["_law_number", "_law_most"]
  f_law_places : Fd K mg "_law_places" "_law_places" s_law_places ["_law_box_here", "_law_many"]
  f_law_order : Fd K mg "_law_order" "_law_order" s_law_order ["_law_ring", "_law_house", "_law_sight"]
  f_law_told : Fd K mg "_law_told" "_law_told" s_law_told ["_law_turn", "_law_house", "_law_side"]
  f_law_behind : Fd K mg "_law_behind" "_law_behind" s_law_behind ["_law_ring", "_law_row", "_law_sights", "_law_turn"]
  f_law_marks : Fd K mg "_law_marks" "_law_marks" s_law_marks ["_law_ring", "_law_log"]
  f_law_small_ring : Fd K mg "_law_small_ring" "_law_small_ring" s_law_small_ring ["_law_box_here", "_law_most"]
  f_law_any_log : Fd K mg "_law_any_log" "_law_any_log" s_law_any_log ["_law_box_here", "_law_many"]
  f_law_comparing_turn : Fd K mg "_law_comparing_turn" "_law_comparing_turn" s_law_comparing_turn ["_law_box_here", "_law_row"]
  f_law_comparing_log : Fd K mg "_law_comparing_log" "_law_comparing_log" s_law_comparing_log ["_law_box_here", "_law_ring", "_law_many"]
  f_law_same : Fd K mg "_law_same" "_law_same" s_law_same ["_law_found", "_law_due"]
  f_law : Fd K mg "law" "law" s_law ["_law_script"]
  b_abs : mg "abs" = none
  b_all : mg "all" = none
  b_bool : mg "bool" = none
  b_dict : mg "dict" = none
  b_enumerate : mg "enumerate" = none
  b_int : mg "int" = none
  b_isinstance : mg "isinstance" = none
  b_len : mg "len" = none
  b_list : mg "list" = none
  b_max : mg "max" = none
  b_range : mg "range" = none
  b_set : mg "set" = none
  b_sorted : mg "sorted" = none
  b_str : mg "str" = none
  b_sum : mg "sum" = none
  b_tuple : mg "tuple" = none
  b_zip : mg "zip" = none
section
variable {P : Program} {w : World} {K : PySem.W.Frag} {mg : Str → Option Value} {base : Heap}
theorem ok_order_around (T : Txt K mg) : FnOk P w K mg base CX0 1 T.f_order_around.a T.f_order_around.fd ["ring", "house", "left", "right"] (liftSp K c_order_around) :=
  fnM (k := 0) (N := ["ring", "house", "left", "right", "many", "names", "places", "place", "name", "step"]) (m := m_order_around) T.f_order_around.F sc_order_around len_order_around (fun cdv A outer s H E hr =>
 (iss_cons (is_set 4 sc_order_around.nd (ie_callB cm_len (by rfl) T.b_len PySem.boot_len (ia_cons (ie_var 0) ia_nil)))
 (iss_cons (is_setLc 5 (own := [("step", 9)]) rfl sc_order_around.nd rfl rfl rfl (sw_true rfl rfl rfl (by decide +kernel)) (ii_range2 T.b_range (ie_un um_neg (ie_var 2)) (ie_op om_add (ie_var 3) ie_int)) (blkOk_by (show blkC ["ring", "house", "left", "right", "many", "names", "places", "place", "name", "step"] (defScope s_order_around) _ _ = true from by decide +kernel)) (fun _ _ _ _ _ => (ig_name 9 sc_order_around.nd)) (fun _ _ _ _ _ => its_nil) (fun _ _ _ _ _ => (ie_ix ix_m (ie_var 0) (ie_op om_mod (ie_op om_add (ie_var 1) (ie_var 9)) (ie_var 4)) (fun _ _ => rfl))))
 (iss_cons (is_set 6 sc_order_around.nd ie_disp0)
 (iss_cons (is_for PassesOwn.never rfl (ii_enum T.b_enumerate (ie_sortSet T.b_sorted T.b_set (ie_var 5))) (ig_tup rfl (ig_cons (ig_name 7 sc_order_around.nd) (ig_cons (ig_name 8 sc_order_around.nd) ig_nil)))
 (iss_one (is_dput hr.units (ie_var 7) (ie_var 6) (ie_var 8))))
 (iss_one (is_ret (ie_callTy cm_tuple (by rfl) T.b_tuple PyProof.Rows.boot_tuple (ia_cons (ie_lc (own := [("name", 8)]) rfl sc_order_around.nd rfl (ii_iter (ie_var 5)) (blkOk_by (show blkC ["ring", "house", "left", "right", "many", "names", "places", "place", "name", "step"] (defScope s_order_around) _ _ = true from by decide +kernel)) (fun _ _ _ _ _ => (ig_name 8 sc_order_around.nd)) (fun _ _ _ _ _ => its_nil) (fun _ _ _ _ _ => (ie_dget hr.units (ie_var 6) (ie_var 8) (fun _ _ => rfl)))) ia_nil)))))))))
  p_order_around
theorem ok_numbered (T : Txt K mg) : FnOk P w K mg base CX0 1 T.f_numbered.a T.f_numbered.fd ["keys"] (liftSp K c_numbered) :=
  fnM (k := 0) (N := ["keys", "numbers", "key"]) (m := m_numbered) T.f_numbered.F sc_numbered len_numbered (fun cdv A outer s H E hr =>
 (iss_cons (is_set 1 sc_numbered.nd ie_disp0N)
 (iss_cons (is_for PassesOwn.never rfl (ii_iter (ie_var 0)) (ig_name 2 sc_numbered.nd)
 (iss_one (is_expr (ie_setdN hr.units (ie_var 1) (ie_var 2) (ie_callB cm_lenN (by rfl) T.b_len PySem.boot_len (ia_cons (ie_var 1) ia_nil)) ⟨rfl, rfl, rfl, rfl⟩))))
 (iss_one (is_ret (ie_callTy cm_tuple (by rfl) T.b_tuple PyProof.Rows.boot_tuple (ia_cons (ie_lc (own := [("key", 2)]) rfl sc_numbered.nd rfl (ii_iter (ie_var 0)) (blkOk_by (show blkC ["keys", "numbers", "key"] (defScope s_numbered) _ _ = true from by decide +kernel)) (fun _ _ _ _ _ => (ig_name 2 sc_numbered.nd)) (fun _ _ _ _ _ => its_nil) (fun _ _ _ _ _ => (ie_getN hr.units (ie_var 1) (ie_var 2) (fun _ _ => rfl)))) ia_nil)))))))
  p_numbered
theorem ok_told_in (T : Txt K mg) : FnOk P w K mg base CX0 1 T.f_told_in.a T.f_told_in.fd ["turn"] (liftSp K c_told_in) :=
  fnM (k := 0) (N := ["turn", "house", "side", "letters"]) (m := m_told_in) T.f_told_in.F sc_told_in len_told_in (fun cdv A outer s H E hr =>
 (iss_one (is_ret (ie_callTy (cm_dictN hr.units rfl) (by rfl) T.b_dict PyProof.Rows.boot_dict (ia_cons (ie_lc (own := [("house", 1), ("side", 2), ("letters", 3)]) rfl sc_told_in.nd rfl (ii_iter (ie_var 0)) (blkOk_by (show blkC ["turn", "house", "side", "letters"] (defScope s_told_in) _ _ = true from by decide +kernel)) (fun _ _ _ _ _ => (ig_tup rfl (ig_cons (ig_name 1 sc_told_in.nd) (ig_cons (ig_name 2 sc_told_in.nd) (ig_cons (ig_name 3 sc_told_in.nd) ig_nil))))) (fun _ _ _ _ _ => its_nil) (fun _ _ _ _ _ => (ie_tup (ia_cons (ie_tup (ia_cons (ie_var 1) (ia_cons (ie_var 2) ia_nil))) (ia_cons (ie_var 3) ia_nil))))) ia_nil)))))
  p_told_in
theorem ok_sights_behind (T : Txt K mg) : FnOk P w K mg base CX0 1 T.f_sights_behind.a T.f_sights_behind.fd ["sights", "told"] (liftSp K c_sights_behind) :=
  fnM (k := 0) (N := ["sights", "told", "many", "found", "house", "left", "right", "before", "behind"]) (m := m_sights_behind) T.f_sights_behind.F sc_sights_behind len_sights_behind (fun cdv A outer s H E hr =>
 (iss_cons (is_set 2 sc_sights_behind.nd (ie_callB cm_len (by rfl) T.b_len PySem.boot_len (ia_cons (ie_var 0) ia_nil)))
 (iss_cons (is_set 3 sc_sights_behind.nd (ie_lst ia_nil))
 (iss_cons (is_for PassesOwn.never rfl (ii_range1 T.b_range (ie_var 2)) (ig_name 4 sc_sights_behind.nd)
 (iss_cons (is_asg (ie_ix ix_m (ie_var 0) (ie_var 4) (fun _ _ => rfl)) (ig_tup rfl (ig_cons (ig_name 5 sc_sights_behind.nd) (ig_cons (ig_name 6 sc_sights_behind.nd) ig_nil))))
 (iss_cons (is_par 7 8 rfl sc_sights_behind.nd (ie_op om_mod (ie_op om_sub (ie_var 4) ie_int) (ie_var 2)) (ie_op om_mod (ie_op om_add (ie_var 4) ie_int) (ie_var 2)))
 (iss_cons (is_if (it_cmp (om_inN hr.units) (ie_tup (ia_cons (ie_var 7) (ia_cons ie_int ia_nil))) (ie_var 1) (by rfl))
 (iss_one (is_set 5 sc_sights_behind.nd (ie_callB (cm_max2 rfl) (by rfl) T.b_max PyProof.Rows.boot_max (ia_cons (ie_var 5) (ia_cons (ie_op om_add (ie_ix ix_m (ie_ix ix_m (ie_var 0) (ie_var 7) (fun _ _ => rfl)) ie_int (fun _ _ => rfl)) ie_int) ia_nil)))))
 iss_nil)
 (iss_cons (is_if (it_cmp (om_inN hr.units) (ie_tup (ia_cons (ie_var 8) (ia_cons (ie_un um_neg ie_int) ia_nil))) (ie_var 1) (by rfl))
 (iss_one (is_set 6 sc_sights_behind.nd (ie_callB (cm_max2 rfl) (by rfl) T.b_max PyProof.Rows.boot_max (ia_cons (ie_var 6) (ia_cons (ie_op om_add (ie_ix ix_m (ie_ix ix_m (ie_var 0) (ie_var 8) (fun _ _ => rfl)) ie_int (fun _ _ => rfl)) ie_int) ia_nil)))))
 iss_nil)
 (iss_one (is_expr (ie_bm PySem.F.plainAttrs_list PySem.F.slot_list_append PySem.F.type_list_append mi_append (ie_var 3) (ia_cons (ie_tup (ia_cons (ie_var 5) (ia_cons (ie_var 6) ia_nil))) ia_nil)))))))))
 (iss_one (is_ret (ie_var 3)))))))
  p_sights_behind
theorem ok_heard_from (T : Txt K mg) : FnOk P w K mg base CX0 1 T.f_heard_from.a T.f_heard_from.fd ["row", "told", "teller", "side"] (liftSp K c_heard_from) :=
  fnM (k := 0) (N := ["row", "told", "teller", "side"]) (m := m_heard_from) T.f_heard_from.F sc_heard_from len_heard_from (fun cdv A outer s H E hr =>
 (iss_cons (is_if (it_cmp (om_notInN hr.units) (ie_tup (ia_cons (ie_var 2) (ia_cons (ie_var 3) ia_nil))) (ie_var 1) (by rfl))
 (iss_one (is_ret (ie_tup (ia_cons ie_int (ia_cons ie_int ia_nil)))))
 iss_nil)
 (iss_one (is_ret (ie_tup (ia_cons (ie_getN hr.units (ie_var 1) (ie_tup (ia_cons (ie_var 2) (ia_cons (ie_var 3) ia_nil))) (fun _ _ => rfl)) (ia_cons (ie_ix ix_m (ie_var 0) (ie_var 2) (fun _ _ => rfl)) ia_nil)))))))
  p_heard_from
theorem ok_row_behind (T : Txt K mg) : FnOk P w K mg base CX0 2 T.f_row_behind.a T.f_row_behind.fd ["ring", "row", "told", "sights"] (liftSp K c_row_behind) :=
  fnM (k := 1) (N := ["ring", "row", "told", "sights", "many", "keys", "house", "heard", "left", "right"]) (m := m_row_behind) T.f_row_behind.F sc_row_behind len_row_behind (fun cdv A outer s H E hr =>
 (iss_cons (is_set 4 sc_row_behind.nd (ie_callB cm_len (by rfl) T.b_len PySem.boot_len (ia_cons (ie_var 0) ia_nil)))
 (iss_cons (is_set 5 sc_row_behind.nd (ie_lst ia_nil))
 (iss_cons (is_for PassesOwn.never rfl (ii_range1 T.b_range (ie_var 4)) (ig_name 6 sc_row_behind.nd)
 (iss_cons (is_set 7 sc_row_behind.nd (ie_tup (ia_cons (ie_call (ok_heard_from T) (hr.mono (by omega)) T.f_heard_from.m T.f_heard_from.F.kp T.f_heard_from.b (ia_cons (ie_var 1) (ia_cons (ie_var 2) (ia_cons (ie_op om_mod (ie_op om_sub (ie_var 6) ie_int) (ie_var 4)) (ia_cons ie_int ia_nil))))) (ia_cons (ie_call (ok_heard_from T) (hr.mono (by omega)) T.f_heard_from.m T.f_heard_from.F.kp T.f_heard_from.b (ia_cons (ie_var 1) (ia_cons (ie_var 2) (ia_cons (ie_op om_mod (ie_op om_add (ie_var 6) ie_int) (ie_var 4)) (ia_cons (ie_un um_neg ie_int) ia_nil))))) ia_nil))))
 (iss_cons (is_asg (ie_ix ix_m (ie_var 3) (ie_var 6) (fun _ _ => rfl)) (ig_tup rfl (ig_cons (ig_name 8 sc_row_behind.nd) (ig_cons (ig_name 9 sc_row_behind.nd) ig_nil))))
 (iss_one (is_expr (ie_bm PySem.F.plainAttrs_list PySem.F.slot_list_append PySem.F.type_list_append mi_append (ie_var 5) (ia_cons (ie_tup (ia_cons (ie_ix ix_m (ie_var 1) (ie_var 6) (fun _ _ => rfl)) (ia_cons (ie_var 7) (ia_cons (ie_ix ix_m (ie_var 3) (ie_var 6) (fun _ _ => rfl)) (ia_cons (ie_call (ok_order_around T) (hr.mono (by omega)) T.f_order_around.m T.f_order_around.F.kp T.f_order_around.b (ia_cons (ie_var 0) (ia_cons (ie_var 6) (ia_cons (ie_var 8) (ia_cons (ie_var 9) ia_nil))))) ia_nil))))) ia_nil)))))))
 (iss_one (is_ret (ie_call (ok_numbered T) (hr.mono (by omega)) T.f_numbered.m T.f_numbered.F.kp T.f_numbered.b (ia_cons (ie_var 5) ia_nil))))))))
  p_row_behind
theorem ok_marks (T : Txt K mg) : FnOk P w K mg base CX0 3 T.f_marks.a T.f_marks.fd ["ring", "log"] (liftSp K c_marks) :=
  fnM (k := 2) (N := ["ring", "log", "many", "rows", "sights", "turn", "told"]) (m := m_marks) T.f_marks.F sc_marks len_marks (fun cdv A outer s H E hr =>
 (iss_cons (is_set 2 sc_marks.nd (ie_callB cm_len (by rfl) T.b_len PySem.boot_len (ia_cons (ie_var 0) ia_nil)))
 (iss_cons (is_set 3 sc_marks.nd (ie_lst (ia_cons (ie_op om_mulT (ie_tup (ia_cons ie_int ia_nil)) (ie_var 2)) ia_nil)))
 (iss_cons (is_set 4 sc_marks.nd (ie_op om_mul (ie_lst (ia_cons (ie_tup (ia_cons ie_int (ia_cons ie_int ia_nil))) ia_nil)) (ie_var 2)))
 (iss_cons (is_for PassesOwn.never rfl (ii_iter (ie_var 1)) (ig_name 5 sc_marks.nd)
 (iss_cons (is_set 6 sc_marks.nd (ie_call (ok_told_in T) (hr.mono (by omega)) T.f_told_in.m T.f_told_in.F.kp T.f_told_in.b (ia_cons (ie_var 5) ia_nil)))
 (iss_cons (is_set 4 sc_marks.nd (ie_call (ok_sights_behind T) (hr.mono (by omega)) T.f_sights_behind.m T.f_sights_behind.F.kp T.f_sights_behind.b (ia_cons (ie_var 4) (ia_cons (ie_var 6) ia_nil))))
 (iss_one (is_expr (ie_bm PySem.F.plainAttrs_list PySem.F.slot_list_append PySem.F.type_list_append mi_append (ie_var 3) (ia_cons (ie_call (ok_row_behind T) (hr.mono (by omega)) T.f_row_behind.m T.f_row_behind.F.kp T.f_row_behind.b (ia_cons (ie_var 0) (ia_cons (ie_ix ix_m (ie_var 3) (ie_un um_neg ie_int) (fun _ _ => rfl)) (ia_cons (ie_var 6) (ia_cons (ie_var 4) ia_nil))))) ia_nil)))))))
 (iss_one (is_ret (ie_callTy cm_tuple (by rfl) T.b_tuple PyProof.Rows.boot_tuple (ia_cons (ie_var 3) ia_nil)))))))))
  p_marks
theorem ok_alone (T : Txt K mg) : FnOk P w K mg base CX0 4 T.f_alone.a T.f_alone.fd ["ring", "log"] (liftSp K c_alone) :=
  fnM (k := 3) (N := ["ring", "log", "last", "house", "mark"]) (m := m_alone) T.f_alone.F sc_alone len_alone (fun cdv A outer s H E hr =>
 (iss_cons (is_set 2 sc_alone.nd (ie_ix ix_m (ie_call (ok_marks T) (hr.mono (by omega)) T.f_marks.m T.f_marks.F.kp T.f_marks.b (ia_cons (ie_var 0) (ia_cons (ie_var 1) ia_nil))) (ie_un um_neg ie_int) (fun _ _ => rfl)))
 (iss_one (is_ret (ie_callTy cm_tuple (by rfl) T.b_tuple PyProof.Rows.boot_tuple (ia_cons (ie_lc (own := [("house", 3), ("mark", 4)]) rfl sc_alone.nd rfl (ii_enum T.b_enumerate (ie_var 2)) (blkOk_by (show blkC ["ring", "log", "last", "house", "mark"] (defScope s_alone) _ _ = true from by decide +kernel)) (fun _ _ _ _ _ => (ig_tup rfl (ig_cons (ig_name 3 sc_alone.nd) (ig_cons (ig_name 4 sc_alone.nd) ig_nil)))) (fun _ _ _ _ _ => (its_one (it_cmp (om_eq hr.units) (ie_bmT PySem.F.slot_tuple_count PySem.F.type_tuple_count mi_count (ie_var 2) (ia_cons (ie_var 4) ia_nil)) ie_int (nomark _)))) (fun _ _ _ _ _ => (ie_var 3))) ia_nil))))))
  p_alone
theorem ok_law_box (T : Txt K mg) : FnOk P w K mg base CX0 1 T.f_law_box.a T.f_law_box.fd ["_law_script"] (liftSp K c_law_box) :=
  fnM (k := 0) (N := ["_law_script", "_law_seed", "_law_cell"]) (m := m_law_box) T.f_law_box.F sc_law_box len_law_box (fun cdv A outer s H E hr =>
 (iss_cons (is_set 1 sc_law_box.nd ie_int)
 (iss_cons (is_for PassesOwn.never rfl (ii_iter (ie_slice (ie_var 0) io_none (io_some ie_int))) (ig_name 2 sc_law_box.nd)
 (iss_one (is_set 1 sc_law_box.nd (ie_op om_mod (ie_op om_add (ie_op om_add (ie_op om_mul (ie_var 1) ie_int) (ie_var 2)) ie_int) (ie_op om_add (ie_op om_pow ie_int ie_int) ie_int)))))
 (iss_one (is_ret (ie_lst (ia_cons (ie_lc (own := [("_law_cell", 2)]) rfl sc_law_box.nd rfl (ii_iter (ie_slice (ie_var 0) io_none (io_some ie_int))) (blkOk_by (show blkC ["_law_script", "_law_seed", "_law_cell"] (defScope s_law_box) _ _ = true from by decide +kernel)) (fun _ _ _ _ _ => (ig_name 2 sc_law_box.nd)) (fun _ _ _ _ _ => (its_one (it_cmp om_geI (ie_callB cm_abs (by rfl) T.b_abs PyProof.Rows.boot_abs (ia_cons (ie_var 2) ia_nil)) (ie_op om_pow ie_int ie_int) (nomark _)))) (fun _ _ _ _ _ => (ie_callB cm_abs (by rfl) T.b_abs PyProof.Rows.boot_abs (ia_cons (ie_var 2) ia_nil)))) (ia_cons (ie_var 1) (ia_cons ie_int ia_nil)))))))))
  p_law_box
theorem ok_law_draw (T : Txt K mg) : FnOk P w K mg base CX0 1 T.f_law_draw.a T.f_law_draw.fd ["_law_box_here", "_law_many"] (liftSp K c_law_draw) :=
  fnM (k := 0) (N := ["_law_box_here", "_law_many", "_law_one", "_law_told_here"]) (m := m_law_draw) T.f_law_draw.F sc_law_draw len_law_draw (fun cdv A outer s H E hr =>
 (iss_cons (is_if (it_cmp (om_ne hr.units) (ie_ix ix_m (ie_var 0) ie_int (fun _ _ => rfl)) (ie_lst ia_nil) (nomark _))
 (iss_cons (is_set 3 sc_law_draw.nd (ie_op om_mod (ie_ix ix_m (ie_ix ix_m (ie_var 0) ie_int (fun _ _ => rfl)) ie_int (fun _ _ => rfl)) (ie_var 1)))
 (iss_cons (is_put se_list (ie_op om_fdiv (ie_ix ix_m (ie_ix ix_m (ie_var 0) ie_int (fun _ _ => rfl)) ie_int (fun _ _ => rfl)) (ie_var 1)) (ie_ix ix_m (ie_var 0) ie_int (fun _ _ => rfl)) ie_int)
 (iss_cons (is_if (it_cmp (om_eq hr.units) (ie_ix ix_m (ie_ix ix_m (ie_var 0) ie_int (fun _ _ => rfl)) ie_int (fun _ _ => rfl)) ie_int (nomark _))
 (iss_one (is_expr (ie_bm PySem.F.plainAttrs_list PySem.F.slot_list_pop PySem.F.type_list_pop mi_popAt (ie_ix ix_m (ie_var 0) ie_int (fun _ _ => rfl)) (ia_cons ie_int ia_nil))))
 iss_nil)
 (iss_one (is_ret (ie_var 3))))))
 iss_nil)
 (iss_cons (is_augS im_add (ie_var 0) ie_int ie_int)
 (iss_cons (is_set 2 sc_law_draw.nd (ie_op om_mod (ie_op om_mul (ie_op om_add (ie_op om_add (ie_ix ix_m (ie_var 0) ie_int (fun _ _ => rfl)) (ie_op om_mul (ie_op om_mul (ie_ix ix_m (ie_var 0) ie_int (fun _ _ => rfl)) (ie_ix ix_m (ie_var 0) ie_int (fun _ _ => rfl))) ie_int)) (ie_ix ix_m (ie_var 0) ie_int (fun _ _ => rfl))) ie_int) ie_int))
 (iss_one (is_ret (ie_op om_mod (ie_op om_fdiv (ie_op om_mod (ie_op om_mul (ie_var 2) (ie_var 2)) ie_int) ie_int) (ie_var 1))))))))
  p_law_draw
theorem ok_law_mixed_up (T : Txt K mg) : FnOk P w K mg base CX0 2 T.f_law_mixed_up.a T.f_law_mixed_up.fd ["_law_box_here", "_law_things"] (liftSp K c_law_mixed_up) :=
  fnM (k := 1) (N := ["_law_box_here", "_law_things", "_law_made", "_law_thing"]) (m := m_law_mixed_up) T.f_law_mixed_up.F sc_law_mixed_up len_law_mixed_up (fun cdv A outer s H E hr =>
 (iss_cons (is_set 2 sc_law_mixed_up.nd (ie_lst ia_nil))
 (iss_cons (is_for PassesOwn.never rfl (ii_iter (ie_var 1)) (ig_name 3 sc_law_mixed_up.nd)
 (iss_one (is_expr (ie_bm PySem.F.plainAttrs_list PySem.F.slot_list_insert PySem.F.type_list_insert mi_insert (ie_var 2) (ia_cons (ie_call (ok_law_draw T) (hr.mono (by omega)) T.f_law_draw.m T.f_law_draw.F.kp T.f_law_draw.b (ia_cons (ie_var 0) (ia_cons (ie_op om_add (ie_callB cm_len (by rfl) T.b_len PySem.boot_len (ia_cons (ie_var 2) ia_nil)) ie_int) ia_nil))) (ia_cons (ie_var 3) ia_nil))))))
 (iss_one (is_ret (ie_var 2))))))
  p_law_mixed_up
theorem ok_law_from_behind (T : Txt K mg) : FnOk P w K mg base CX0 1 T.f_law_from_behind.a T.f_law_from_behind.fd ["_law_number", "_law_most"] (liftSp K c_law_from_behind) :=
  fnM (k := 0) (N := ["_law_number", "_law_most", "_law_found", "_law_size"]) (m := m_law_from_behind) T.f_law_from_behind.F sc_law_from_behind len_law_from_behind (fun cdv A outer s H E hr =>
 (iss_cons (is_set 2 sc_law_from_behind.nd ie_int)
 (iss_cons (is_set 3 sc_law_from_behind.nd ie_int)
 (iss_cons (is_while PassesOwn.never (it_cmp om_ltI (ie_var 3) (ie_var 1) (nomark _))
 (iss_cons (is_set 2 sc_law_from_behind.nd (ie_op om_add (ie_op om_mul ie_int (ie_var 2)) (ie_op om_mod (ie_var 0) ie_int)))
 (iss_cons (is_set 0 sc_law_from_behind.nd (ie_op om_fdiv (ie_var 0) ie_int))
 (iss_one (is_set 3 sc_law_from_behind.nd (ie_op om_mul ie_int (ie_var 3)))))))
 (iss_one (is_ret (ie_var 2)))))))
  p_law_from_behind
theorem ok_law_places (T : Txt K mg) : FnOk P w K mg base CX0 3 T.f_law_places.a T.f_law_places.fd ["_law_box_here", "_law_many"] (liftSp K c_law_places) :=
  fnM (k := 2) (N := ["_law_box_here", "_law_many", "_law_way", "_law_parts", "_law_size", "_law_block", "_law_k"]) (m := m_law_places) T.f_law_places.F sc_law_places len_law_places (fun cdv A outer s H E hr =>
 (iss_cons (is_set 2 sc_law_places.nd (ie_call (ok_law_draw T) (hr.mono (by omega)) T.f_law_draw.m T.f_law_draw.F.kp T.f_law_draw.b (ia_cons (ie_var 0) (ia_cons ie_int ia_nil))))
 (iss_cons (is_if (it_cmp om_ltI (ie_var 2) ie_int (nomark _))
 (iss_one (is_ret (ie_call (ok_law_mixed_up T) (hr.mono (by omega)) T.f_law_mixed_up.m T.f_law_mixed_up.F.kp T.f_law_mixed_up.b (ia_cons (ie_var 0) (ia_cons (ie_lstR1 T.b_list T.b_range (ie_var 1)) ia_nil)))))
 iss_nil)
 (iss_cons (is_if (it_cmp (om_eq hr.units) (ie_var 2) ie_int (nomark _))
 (iss_one (is_ret (ie_lstR1 T.b_list T.b_range (ie_var 1))))
 iss_nil)
 (iss_cons (is_if (it_cmp (om_eq hr.units) (ie_var 2) ie_int (nomark _))
 (iss_one (is_ret (ie_lstR3 T.b_list T.b_range (ia_cons (ie_op om_sub (ie_var 1) ie_int) (ia_cons (ie_un um_neg ie_int) (ia_cons (ie_un um_neg ie_int) ia_nil))))))
 iss_nil)
 (iss_cons (is_if (it_cmp (om_eq hr.units) (ie_var 2) ie_int (nomark _))
 (iss_cons (is_setLc 3 (own := [("_law_size", 4)]) rfl sc_law_places.nd rfl rfl rfl (sw_true rfl rfl rfl (by decide +kernel)) (ii_range2 T.b_range ie_int (ie_op om_add (ie_var 1) ie_int)) (blkOk_by (show blkC ["_law_box_here", "_law_many", "_law_way", "_law_parts", "_law_size", "_law_block", "_law_k"] (defScope s_law_places) _ _ = true from by decide +kernel)) (fun _ _ _ _ _ => (ig_name 4 sc_law_places.nd)) (fun _ _ _ _ _ => (its_one (it_cmp (om_eq hr.units) (ie_op om_mod (ie_var 1) (ie_var 4)) ie_int (nomark _)))) (fun _ _ _ _ _ => (ie_var 4)))
 (iss_cons (is_set 4 sc_law_places.nd (ie_ix ix_m (ie_var 3) (ie_call (ok_law_draw T) (hr.mono (by omega)) T.f_law_draw.m T.f_law_draw.F.kp T.f_law_draw.b (ia_cons (ie_var 0) (ia_cons (ie_callB cm_len (by rfl) T.b_len PySem.boot_len (ia_cons (ie_var 3) ia_nil)) ia_nil))) (fun _ _ => rfl)))
 (iss_cons (is_set 5 sc_law_places.nd (ie_call (ok_law_mixed_up T) (hr.mono (by omega)) T.f_law_mixed_up.m T.f_law_mixed_up.F.kp T.f_law_mixed_up.b (ia_cons (ie_var 0) (ia_cons (ie_lstR1 T.b_list T.b_range (ie_var 4)) ia_nil))))
 (iss_one (is_ret (ie_lc (own := [("_law_k", 6)]) rfl sc_law_places.nd rfl (ii_range1 T.b_range (ie_var 1)) (blkOk_by (show blkC ["_law_box_here", "_law_many", "_law_way", "_law_parts", "_law_size", "_law_block", "_law_k"] (defScope s_law_places) _ _ = true from by decide +kernel)) (fun _ _ _ _ _ => (ig_name 6 sc_law_places.nd)) (fun _ _ _ _ _ => its_nil) (fun _ _ _ _ _ => (ie_op om_add (ie_op om_mul (ie_ix ix_m (ie_var 5) (ie_op om_mod (ie_var 6) (ie_var 4)) (fun _ _ => rfl)) (ie_var 1)) (ie_op om_fdiv (ie_var 6) (ie_var 4))))))))))
 iss_nil)
 (iss_one (is_ret (ie_lc (own := [("_law_k", 6)]) rfl sc_law_places.nd rfl (ii_range1 T.b_range (ie_var 1)) (blkOk_by (show blkC ["_law_box_here", "_law_many", "_law_way", "_law_parts", "_law_size", "_law_block", "_law_k"] (defScope s_law_places) _ _ = true from by decide +kernel)) (fun _ _ _ _ _ => (ig_name 6 sc_law_places.nd)) (fun _ _ _ _ _ => its_nil) (fun _ _ _ _ _ => (ie_call (ok_law_from_behind T) (hr.mono (by omega)) T.f_law_from_behind.m T.f_law_from_behind.F.kp T.f_law_from_behind.b (ia_cons (ie_var 6) (ia_cons ie_int ia_nil)))))))))))))
  p_law_places
theorem ok_law_order (T : Txt K mg) : FnOk P w K mg base CX0 1 T.f_law_order.a T.f_law_order.fd ["_law_ring", "_law_house", "_law_sight"] (liftSp K c_law_order) :=
  fnM (k := 0) (N := ["_law_ring", "_law_house", "_law_sight", "_law_many", "_law_names", "_law_step", "_law_one", "_law_other"]) (m := m_law_order) T.f_law_order.F sc_law_order len_law_order (fun cdv A outer s H E hr =>
 (iss_cons (is_set 3 sc_law_order.nd (ie_callB cm_len (by rfl) T.b_len PySem.boot_len (ia_cons (ie_var 0) ia_nil)))
 (iss_cons (is_set 4 sc_law_order.nd (ie_lc (own := [("_law_step", 5)]) rfl sc_law_order.nd rfl (ii_range2 T.b_range (ie_un um_neg (ie_ix ix_m (ie_var 2) ie_int (fun _ _ => rfl))) (ie_op om_add (ie_ix ix_m (ie_var 2) ie_int (fun _ _ => rfl)) ie_int)) (blkOk_by (show blkC ["_law_ring", "_law_house", "_law_sight", "_law_many", "_law_names", "_law_step", "_law_one", "_law_other"] (defScope s_law_order) _ _ = true from by decide +kernel)) (fun _ _ _ _ _ => (ig_name 5 sc_law_order.nd)) (fun _ _ _ _ _ => its_nil) (fun _ _ _ _ _ => (ie_ix ix_m (ie_var 0) (ie_op om_mod (ie_op om_add (ie_var 1) (ie_var 5)) (ie_var 3)) (fun _ _ => rfl)))))
 (iss_one (is_ret (ie_lc (own := [("_law_one", 6)]) rfl sc_law_order.nd rfl (ii_iter (ie_var 4)) (blkOk_by (show blkC ["_law_ring", "_law_house", "_law_sight", "_law_many", "_law_names", "_law_step", "_law_one", "_law_other"] (defScope s_law_order) _ _ = true from by decide +kernel)) (fun _ _ _ _ _ => (ig_name 6 sc_law_order.nd)) (fun _ _ _ _ _ => its_nil) (fun _ _ _ _ _ => (ie_lc (own := [("_law_other", 7)]) rfl sc_law_order.nd rfl (ii_iter (ie_var 4)) (blkOk_by (by kernel_rfl)) (fun _ _ _ _ _ => (ig_name 7 sc_law_order.nd)) (fun _ _ _ _ _ => its_nil) (fun _ _ _ _ _ => (ie_op om_sub (ie_callTy cm_int (by rfl) T.b_int PyProof.Rows.boot_int (ia_cons (ie_cmp om_ltI (ie_var 6) (ie_var 7) (nomark _)) ia_nil)) (ie_callTy cm_int (by rfl) T.b_int PyProof.Rows.boot_int (ia_cons (ie_cmp om_gtI (ie_var 6) (ie_var 7) (nomark _)) ia_nil))))))))))))
  p_law_order
theorem ok_law_told (T : Txt K mg) : FnOk P w K mg base CX0 1 T.f_law_told.a T.f_law_told.fd ["_law_turn", "_law_house", "_law_side"] (liftSp K c_law_told) :=
  fnM (k := 0) (N := ["_law_turn", "_law_house", "_law_side", "_law_one", "_law_which", "_law_letters"]) (m := m_law_told) T.f_law_told.F sc_law_told len_law_told (fun cdv A outer s H E hr =>
 (iss_one (is_ret (ie_callB (cm_sum rfl) (by rfl) T.b_sum PyProof.Rows.boot_sum (ia_cons (ie_lc (own := [("_law_one", 3), ("_law_which", 4), ("_law_letters", 5)]) rfl sc_law_told.nd rfl (ii_iter (ie_var 0)) (blkOk_by (show blkC ["_law_turn", "_law_house", "_law_side", "_law_one", "_law_which", "_law_letters"] (defScope s_law_told) _ _ = true from by decide +kernel)) (fun _ _ _ _ _ => (ig_tup rfl (ig_cons (ig_name 3 sc_law_told.nd) (ig_cons (ig_name 4 sc_law_told.nd) (ig_cons (ig_name 5 sc_law_told.nd) ig_nil))))) (fun _ _ _ _ _ => (its_one (it_cmp (om_eq hr.units) (ie_tup (ia_cons (ie_var 3) (ia_cons (ie_var 4) ia_nil))) (ie_tup (ia_cons (ie_var 1) (ia_cons (ie_var 2) ia_nil))) (nomark _)))) (fun _ _ _ _ _ => (ie_var 5))) ia_nil)))))
  p_law_told
theorem ok_law_behind (T : Txt K mg) : FnOk P w K mg base CX0 2 T.f_law_behind.a T.f_law_behind.fd ["_law_ring", "_law_row", "_law_sights", "_law_turn"] (liftSp K c_law_behind) :=
  fnM (k := 1) (N := ["_law_ring", "_law_row", "_law_sights", "_law_turn", "_law_many", "_law_left", "_law_heard", "_law_later", "_law_house", "_law_orders", "_law_made", "_law_near", "_law_right", "_law_found", "_law_other", "_law_like"]) (m := m_law_behind) T.f_law_behind.F sc_law_behind len_law_behind (fun cdv A outer s H E hr =>
 (iss_cons (is_set 4 sc_law_behind.nd (ie_callB cm_len (by rfl) T.b_len PySem.boot_len (ia_cons (ie_var 0) ia_nil)))
 (iss_cons (is_set 5 sc_law_behind.nd (ie_lc (own := [("_law_house", 8)]) rfl sc_law_behind.nd rfl (ii_range1 T.b_range (ie_var 4)) (blkOk_by (show blkC ["_law_ring", "_law_row", "_law_sights", "_law_turn", "_law_many", "_law_left", "_law_heard", "_law_later", "_law_house", "_law_orders", "_law_made", "_law_near", "_law_right", "_law_found", "_law_other", "_law_like"] (defScope s_law_behind) _ _ = true from by decide +kernel)) (fun _ _ _ _ _ => (ig_name 8 sc_law_behind.nd)) (fun _ _ _ _ _ => its_nil) (fun _ _ _ _ _ => (ie_call (ok_law_told T) (hr.mono (by omega)) T.f_law_told.m T.f_law_told.F.kp T.f_law_told.b (ia_cons (ie_var 3) (ia_cons (ie_op om_mod (ie_op om_sub (ie_var 8) ie_int) (ie_var 4)) (ia_cons ie_int ia_nil)))))))
 (iss_cons (is_setLc 6 (own := [("_law_house", 8)]) rfl sc_law_behind.nd rfl rfl rfl (sw_true rfl rfl rfl (by decide +kernel)) (ii_range1 T.b_range (ie_var 4)) (blkOk_by (show blkC ["_law_ring", "_law_row", "_law_sights", "_law_turn", "_law_many", "_law_left", "_law_heard", "_law_later", "_law_house", "_law_orders", "_law_made", "_law_near", "_law_right", "_law_found", "_law_other", "_law_like"] (defScope s_law_behind) _ _ = true from by decide +kernel)) (fun _ _ _ _ _ => (ig_name 8 sc_law_behind.nd)) (fun _ _ _ _ _ => its_nil) (fun _ _ _ _ _ => (ie_tup (ia_cons (ie_ix ix_m (ie_var 5) (ie_var 8) (fun _ _ => rfl)) (ia_cons (ie_call (ok_law_told T) (hr.mono (by omega)) T.f_law_told.m T.f_law_told.F.kp T.f_law_told.b (ia_cons (ie_var 3) (ia_cons (ie_op om_mod (ie_op om_add (ie_var 8) ie_int) (ie_var 4)) (ia_cons (ie_un um_neg ie_int) ia_nil)))) ia_nil)))))
 (iss_cons (is_set 7 sc_law_behind.nd (ie_lst ia_nil))
 (iss_cons (is_for PassesOwn.never rfl (ii_range1 T.b_range (ie_var 4)) (ig_name 8 sc_law_behind.nd)
 (iss_cons (is_asg (ie_ix ix_m (ie_var 2) (ie_var 8) (fun _ _ => rfl)) (ig_tup rfl (ig_cons (ig_name 11 sc_law_behind.nd) (ig_cons (ig_name 12 sc_law_behind.nd) ig_nil))))
 (iss_cons (is_if (it_cmp om_gtI (ie_ix ix_m (ie_ix ix_m (ie_var 6) (ie_var 8) (fun _ _ => rfl)) ie_int (fun _ _ => rfl)) ie_int (nomark _))
 (iss_one (is_set 11 sc_law_behind.nd (ie_callB (cm_max2 rfl) (by rfl) T.b_max PyProof.Rows.boot_max (ia_cons (ie_var 11) (ia_cons (ie_op om_add (ie_ix ix_m (ie_ix ix_m (ie_var 2) (ie_op om_sub (ie_var 8) ie_int) (fun _ _ => rfl)) ie_int (fun _ _ => rfl)) ie_int) ia_nil)))))
 iss_nil)
 (iss_cons (is_if (it_cmp om_gtI (ie_ix ix_m (ie_ix ix_m (ie_var 6) (ie_var 8) (fun _ _ => rfl)) ie_int (fun _ _ => rfl)) ie_int (nomark _))
 (iss_one (is_set 12 sc_law_behind.nd (ie_callB (cm_max2 rfl) (by rfl) T.b_max PyProof.Rows.boot_max (ia_cons (ie_var 12) (ia_cons (ie_op om_add (ie_ix ix_m (ie_ix ix_m (ie_var 2) (ie_op om_mod (ie_op om_add (ie_var 8) ie_int) (ie_var 4)) (fun _ _ => rfl)) ie_int (fun _ _ => rfl)) ie_int) ia_nil)))))
 iss_nil)
 (iss_one (is_expr (ie_bm PySem.F.plainAttrs_list PySem.F.slot_list_append PySem.F.type_list_append mi_append (ie_var 7) (ia_cons (ie_tup (ia_cons (ie_var 11) (ia_cons (ie_var 12) ia_nil))) ia_nil))))))))
 (iss_cons (is_setLc 9 (own := [("_law_house", 8)]) rfl sc_law_behind.nd rfl rfl rfl (sw_true rfl rfl rfl (by decide +kernel)) (ii_range1 T.b_range (ie_var 4)) (blkOk_by (show blkC ["_law_ring", "_law_row", "_law_sights", "_law_turn", "_law_many", "_law_left", "_law_heard", "_law_later", "_law_house", "_law_orders", "_law_made", "_law_near", "_law_right", "_law_found", "_law_other", "_law_like"] (defScope s_law_behind) _ _ = true from by decide +kernel)) (fun _ _ _ _ _ => (ig_name 8 sc_law_behind.nd)) (fun _ _ _ _ _ => its_nil) (fun _ _ _ _ _ => (ie_call (ok_law_order T) (hr.mono (by omega)) T.f_law_order.m T.f_law_order.F.kp T.f_law_order.b (ia_cons (ie_var 0) (ia_cons (ie_var 8) (ia_cons (ie_ix ix_m (ie_var 7) (ie_var 8) (fun _ _ => rfl)) ia_nil))))))
 (iss_cons (is_set 10 sc_law_behind.nd (ie_lst ia_nil))
 (iss_cons (is_for PassesOwn.never rfl (ii_range1 T.b_range (ie_var 4)) (ig_name 8 sc_law_behind.nd)
 (iss_cons (is_set 13 sc_law_behind.nd (ie_lst ia_nil))
 (iss_cons (is_for PassesOwn.never rfl (ii_range1 T.b_range (ie_var 8)) (ig_name 14 sc_law_behind.nd)
 (iss_cons (is_set 15 sc_law_behind.nd (ie_and (ie_cmp (om_eq hr.units) (ie_ix ix_m (ie_var 1) (ie_var 14) (fun _ _ => rfl)) (ie_ix ix_m (ie_var 1) (ie_var 8) (fun _ _ => rfl)) (nomark _)) (ie_and (ie_cmp (om_eq hr.units) (ie_ix ix_m (ie_var 6) (ie_var 14) (fun _ _ => rfl)) (ie_ix ix_m (ie_var 6) (ie_var 8) (fun _ _ => rfl)) (nomark _)) (ie_one (ie_cmp (om_eq hr.units) (ie_ix ix_m (ie_var 7) (ie_var 14) (fun _ _ => rfl)) (ie_ix ix_m (ie_var 7) (ie_var 8) (fun _ _ => rfl)) (nomark _))))))
 (iss_cons (is_if (IW.it (iw_and (it_val (ie_var 15)) (iw_and1 (it_cmp om_gtI (ie_ix ix_m (ie_ix ix_m (ie_var 6) (ie_var 8) (fun _ _ => rfl)) ie_int (fun _ _ => rfl)) ie_int (nomark _)))))
 (iss_one (is_set 15 sc_law_behind.nd (ie_cmp (om_eq hr.units) (ie_ix ix_m (ie_var 1) (ie_op om_sub (ie_var 14) ie_int) (fun _ _ => rfl)) (ie_ix ix_m (ie_var 1) (ie_op om_sub (ie_var 8) ie_int) (fun _ _ => rfl)) (nomark _))))
 iss_nil)
 (iss_cons (is_if (IW.it (iw_and (it_val (ie_var 15)) (iw_and1 (it_cmp om_gtI (ie_ix ix_m (ie_ix ix_m (ie_var 6) (ie_var 8) (fun _ _ => rfl)) ie_int (fun _ _ => rfl)) ie_int (nomark _)))))
 (iss_one (is_set 15 sc_law_behind.nd (ie_cmp (om_eq hr.units) (ie_ix ix_m (ie_var 1) (ie_op om_mod (ie_op om_add (ie_var 14) ie_int) (ie_var 4)) (fun _ _ => rfl)) (ie_ix ix_m (ie_var 1) (ie_op om_mod (ie_op om_add (ie_var 8) ie_int) (ie_var 4)) (fun _ _ => rfl)) (nomark _))))
 iss_nil)
 (iss_one (is_if (IW.it (iw_and (it_val (ie_var 15)) (iw_and1 (it_cmp (om_eq hr.units) (ie_ix ix_m (ie_var 9) (ie_var 14) (fun _ _ => rfl)) (ie_ix ix_m (ie_var 9) (ie_var 8) (fun _ _ => rfl)) (nomark _)))))
 (iss_one (is_expr (ie_bm PySem.F.plainAttrs_list PySem.F.slot_list_append PySem.F.type_list_append mi_append (ie_var 13) (ia_cons (ie_ix ix_m (ie_var 10) (ie_var 14) (fun _ _ => rfl)) ia_nil))))
 iss_nil))))))
 (iss_one (is_expr (ie_bm PySem.F.plainAttrs_list PySem.F.slot_list_append PySem.F.type_list_append mi_append (ie_var 10) (ia_cons (ie_ix ix_m (ie_op om_add (ie_var 13) (ie_lst (ia_cons (ie_op om_add (ie_callB (cm_maxA rfl) (by rfl) T.b_max PyProof.Rows.boot_max (ia_cons (ie_op om_add (ie_var 10) (ie_lst (ia_cons (ie_un um_neg ie_int) ia_nil))) ia_nil)) ie_int) ia_nil))) ie_int (fun _ _ => rfl)) ia_nil)))))))
 (iss_one (is_ret (ie_tup (ia_cons (ie_callTy cm_tuple (by rfl) T.b_tuple PyProof.Rows.boot_tuple (ia_cons (ie_var 10) ia_nil)) (ia_cons (ie_var 7) ia_nil))))))))))))))
  p_law_behind
theorem ok_law_marks (T : Txt K mg) : FnOk P w K mg base CX0 3 T.f_law_marks.a T.f_law_marks.fd ["_law_ring", "_law_log"] (liftSp K c_law_marks) :=
  fnM (k := 2) (N := ["_law_ring", "_law_log", "_law_rows", "_law_sights", "_law_turn", "_law_row"]) (m := m_law_marks) T.f_law_marks.F sc_law_marks len_law_marks (fun cdv A outer s H E hr =>
 (iss_cons (is_par 2 3 rfl sc_law_marks.nd (ie_lst (ia_cons (ie_op om_mulT (ie_tup (ia_cons ie_int ia_nil)) (ie_callB cm_len (by rfl) T.b_len PySem.boot_len (ia_cons (ie_var 0) ia_nil))) ia_nil)) (ie_op om_mul (ie_lst (ia_cons (ie_tup (ia_cons ie_int (ia_cons ie_int ia_nil))) ia_nil)) (ie_callB cm_len (by rfl) T.b_len PySem.boot_len (ia_cons (ie_var 0) ia_nil))))
 (iss_cons (is_for PassesOwn.never rfl (ii_iter (ie_var 1)) (ig_name 4 sc_law_marks.nd)
 (iss_cons (is_asg (ie_call (ok_law_behind T) (hr.mono (by omega)) T.f_law_behind.m T.f_law_behind.F.kp T.f_law_behind.b (ia_cons (ie_var 0) (ia_cons (ie_ix ix_m (ie_var 2) (ie_un um_neg ie_int) (fun _ _ => rfl)) (ia_cons (ie_var 3) (ia_cons (ie_var 4) ia_nil))))) (ig_tup rfl (ig_cons (ig_name 5 sc_law_marks.nd) (ig_cons (ig_name 3 sc_law_marks.nd) ig_nil))))
 (iss_one (is_expr (ie_bm PySem.F.plainAttrs_list PySem.F.slot_list_append PySem.F.type_list_append mi_append (ie_var 2) (ia_cons (ie_var 5) ia_nil))))))
 (iss_one (is_ret (ie_callTy cm_tuple (by rfl) T.b_tuple PyProof.Rows.boot_tuple (ia_cons (ie_var 2) ia_nil)))))))
  p_law_marks
theorem ok_law_small_ring (T : Txt K mg) : FnOk P w K mg base CX0 4 T.f_law_small_ring.a T.f_law_small_ring.fd ["_law_box_here", "_law_most"] (liftSp K c_law_small_ring) :=
  fnM (k := 3) (N := ["_law_box_here", "_law_most", "_law_many", "_law_places_here", "_law_gap", "_law_place"]) (m := m_law_small_ring) T.f_law_small_ring.F sc_law_small_ring len_law_small_ring (fun cdv A outer s H E hr =>
 (iss_cons (is_set 2 sc_law_small_ring.nd (ie_op om_add ie_int (ie_call (ok_law_draw T) (hr.mono (by omega)) T.f_law_draw.m T.f_law_draw.F.kp T.f_law_draw.b (ia_cons (ie_var 0) (ia_cons (ie_var 1) ia_nil)))))
 (iss_cons (is_set 3 sc_law_small_ring.nd (ie_call (ok_law_places T) (hr.mono (by omega)) T.f_law_places.m T.f_law_places.F.kp T.f_law_places.b (ia_cons (ie_var 0) (ia_cons (ie_var 2) ia_nil))))
 (iss_cons (is_set 4 sc_law_small_ring.nd (ie_op om_add ie_int (ie_call (ok_law_draw T) (hr.mono (by omega)) T.f_law_draw.m T.f_law_draw.F.kp T.f_law_draw.b (ia_cons (ie_var 0) (ia_cons ie_int ia_nil)))))
 (iss_one (is_ret (ie_callTy cm_tuple (by rfl) T.b_tuple PyProof.Rows.boot_tuple (ia_cons (ie_lc (own := [("_law_place", 5)]) rfl sc_law_small_ring.nd rfl (ii_iter (ie_var 3)) (blkOk_by (show blkC ["_law_box_here", "_law_most", "_law_many", "_law_places_here", "_law_gap", "_law_place"] (defScope s_law_small_ring) _ _ = true from by decide +kernel)) (fun _ _ _ _ _ => (ig_name 5 sc_law_small_ring.nd)) (fun _ _ _ _ _ => its_nil) (fun _ _ _ _ _ => (ie_op om_add (ie_op om_mul (ie_var 4) (ie_var 5)) ie_int))) ia_nil))))))))
  p_law_small_ring
theorem ok_law_any_log (T : Txt K mg) : FnOk P w K mg base CX0 2 T.f_law_any_log.a T.f_law_any_log.fd ["_law_box_here", "_law_many"] (liftSp K c_law_any_log) :=
  fnM (k := 1) (N := ["_law_box_here", "_law_many", "_law_log", "_law_k", "_law_often", "_law_keys", "_law_key"]) (m := m_law_any_log) T.f_law_any_log.F sc_law_any_log len_law_any_log (fun cdv A outer s H E hr =>
 (iss_cons (is_set 2 sc_law_any_log.nd (ie_lst ia_nil))
 (iss_cons (is_for PassesOwn.never rfl (ii_range1 T.b_range (ie_ix ix_m (ie_lst (ia_cons (ie_call (ok_law_draw T) (hr.mono (by omega)) T.f_law_draw.m T.f_law_draw.F.kp T.f_law_draw.b (ia_cons (ie_var 0) (ia_cons ie_int ia_nil))) (ia_cons (ie_call (ok_law_draw T) (hr.mono (by omega)) T.f_law_draw.m T.f_law_draw.F.kp T.f_law_draw.b (ia_cons (ie_var 0) (ia_cons ie_int ia_nil))) ia_nil))) (ie_callTy cm_int (by rfl) T.b_int PyProof.Rows.boot_int (ia_cons (ie_cmp (om_eq hr.units) (ie_call (ok_law_draw T) (hr.mono (by omega)) T.f_law_draw.m T.f_law_draw.F.kp T.f_law_draw.b (ia_cons (ie_var 0) (ia_cons ie_int ia_nil))) ie_int (nomark _)) ia_nil)) (fun _ _ => rfl))) (ig_name 3 sc_law_any_log.nd)
 (iss_cons (is_set 4 sc_law_any_log.nd (ie_op om_add ie_int (ie_call (ok_law_draw T) (hr.mono (by omega)) T.f_law_draw.m T.f_law_draw.F.kp T.f_law_draw.b (ia_cons (ie_var 0) (ia_cons ie_int ia_nil)))))
 (iss_cons (is_setLc 5 (own := [("_law_k", 3)]) rfl sc_law_any_log.nd rfl rfl rfl (sw_true rfl rfl rfl (by decide +kernel)) (ii_range1 T.b_range (ie_op om_mul ie_int (ie_var 1))) (blkOk_by (show blkC ["_law_box_here", "_law_many", "_law_log", "_law_k", "_law_often", "_law_keys", "_law_key"] (defScope s_law_any_log) _ _ = true from by decide +kernel)) (fun _ _ _ _ _ => (ig_name 3 sc_law_any_log.nd)) (fun _ _ _ _ _ => its_nil) (fun _ _ _ _ _ => (ie_tup (ia_cons (ie_op om_fdiv (ie_var 3) ie_int) (ia_cons (ie_op om_sub (ie_op om_mul ie_int (ie_op om_mod (ie_var 3) ie_int)) ie_int) ia_nil)))))
 (iss_one (is_expr (ie_bm PySem.F.plainAttrs_list PySem.F.slot_list_append PySem.F.type_list_append mi_append (ie_var 2) (ia_cons (ie_callTy cm_tuple (by rfl) T.b_tuple PyProof.Rows.boot_tuple (ia_cons (ie_lc (own := [("_law_key", 6)]) rfl sc_law_any_log.nd rfl (ii_iter (ie_var 5)) (blkOk_by (show blkC ["_law_box_here", "_law_many", "_law_log", "_law_k", "_law_often", "_law_keys", "_law_key"] (defScope s_law_any_log) _ _ = true from by decide +kernel)) (fun _ _ _ _ _ => (ig_name 6 sc_law_any_log.nd)) (fun _ _ _ _ _ => (its_one (it_cmp (om_eq hr.units) (ie_call (ok_law_draw T) (hr.mono (by omega)) T.f_law_draw.m T.f_law_draw.F.kp T.f_law_draw.b (ia_cons (ie_var 0) (ia_cons (ie_var 4) ia_nil))) ie_int (nomark _)))) (fun _ _ _ _ _ => (ie_op om_add (ie_var 6) (ie_tup (ia_cons (ie_op om_add ie_int (ie_call (ok_law_draw T) (hr.mono (by omega)) T.f_law_draw.m T.f_law_draw.F.kp T.f_law_draw.b (ia_cons (ie_var 0) (ia_cons ie_int ia_nil)))) ia_nil))))) ia_nil)) ia_nil)))))))
 (iss_one (is_ret (ie_callTy cm_tuple (by rfl) T.b_tuple PyProof.Rows.boot_tuple (ia_cons (ie_var 2) ia_nil)))))))
  p_law_any_log
theorem ok_law_comparing_turn (T : Txt K mg) : FnOk P w K mg base CX0 2 T.f_law_comparing_turn.a T.f_law_comparing_turn.fd ["_law_box_here", "_law_row"] (liftSp K c_law_comparing_turn) :=
  fnM (k := 1) (N := ["_law_box_here", "_law_row", "_law_telling", "_law_mark", "_law_turn", "_law_house", "_law_side", "_law_letters"]) (m := m_law_comparing_turn) T.f_law_comparing_turn.F sc_law_comparing_turn len_law_comparing_turn (fun cdv A outer s H E hr =>
 (iss_cons (is_set 2 sc_law_comparing_turn.nd ie_disp0)
 (iss_cons (is_for PassesOwn.never rfl (ii_iter (ie_sortSet T.b_sorted T.b_set (ie_var 1))) (ig_name 3 sc_law_comparing_turn.nd)
 (iss_one (is_dput hr.units (ie_tup (ia_cons (ie_ix ix_m (ie_lst (ia_cons ie_int (ia_cons ie_int (ia_cons ie_int (ia_cons ie_int ia_nil))))) (ie_call (ok_law_draw T) (hr.mono (by omega)) T.f_law_draw.m T.f_law_draw.F.kp T.f_law_draw.b (ia_cons (ie_var 0) (ia_cons ie_int ia_nil))) (fun _ _ => rfl)) (ia_cons (ie_ix ix_m (ie_lst (ia_cons ie_int (ia_cons ie_int (ia_cons ie_int (ia_cons ie_int ia_nil))))) (ie_call (ok_law_draw T) (hr.mono (by omega)) T.f_law_draw.m T.f_law_draw.F.kp T.f_law_draw.b (ia_cons (ie_var 0) (ia_cons ie_int ia_nil))) (fun _ _ => rfl)) ia_nil))) (ie_var 2) (ie_var 3))))
 (iss_cons (is_set 4 sc_law_comparing_turn.nd (ie_lst ia_nil))
 (iss_cons (is_for PassesOwn.never rfl (ii_enum T.b_enumerate (ie_var 1)) (ig_tup rfl (ig_cons (ig_name 5 sc_law_comparing_turn.nd) (ig_cons (ig_name 3 sc_law_comparing_turn.nd) ig_nil)))
 (iss_one (is_for PassesOwn.never rfl (ii_zip T.b_zip (ie_tup (ia_cons (ie_un um_neg ie_int) (ia_cons ie_int ia_nil))) (ie_dget hr.units (ie_var 2) (ie_var 3) (fun _ _ => rfl))) (ig_tup rfl (ig_cons (ig_name 6 sc_law_comparing_turn.nd) (ig_cons (ig_name 7 sc_law_comparing_turn.nd) ig_nil)))
 (iss_one (is_if (it_cmp om_gtI (ie_var 7) ie_int (nomark _))
 (iss_one (is_expr (ie_bm PySem.F.plainAttrs_list PySem.F.slot_list_append PySem.F.type_list_append mi_append (ie_var 4) (ia_cons (ie_tup (ia_cons (ie_var 5) (ia_cons (ie_var 6) (ia_cons (ie_var 7) ia_nil)))) ia_nil))))
 iss_nil)))))
 (iss_one (is_ret (ie_callTy cm_tuple (by rfl) T.b_tuple PyProof.Rows.boot_tuple (ia_cons (ie_var 4) ia_nil)))))))))
  p_law_comparing_turn
theorem ok_law_comparing_log (T : Txt K mg) : FnOk P w K mg base CX0 3 T.f_law_comparing_log.a T.f_law_comparing_log.fd ["_law_box_here", "_law_ring", "_law_many"] (liftSp K c_law_comparing_log) :=
  fnM (k := 2) (N := ["_law_box_here", "_law_ring", "_law_many", "_law_log", "_law_row", "_law_sights", "_law_k"]) (m := m_law_comparing_log) T.f_law_comparing_log.F sc_law_comparing_log len_law_comparing_log (fun cdv A outer s H E hr =>
 (iss_cons (is_par3 3 4 5 rfl sc_law_comparing_log.nd (ie_lst ia_nil) (ie_op om_mulT (ie_tup (ia_cons ie_int ia_nil)) (ie_callB cm_len (by rfl) T.b_len PySem.boot_len (ia_cons (ie_var 1) ia_nil))) (ie_op om_mul (ie_lst (ia_cons (ie_tup (ia_cons ie_int (ia_cons ie_int ia_nil))) ia_nil)) (ie_callB cm_len (by rfl) T.b_len PySem.boot_len (ia_cons (ie_var 1) ia_nil))))
 (iss_cons (is_for PassesOwn.never rfl (ii_range1 T.b_range (ie_var 2)) (ig_name 6 sc_law_comparing_log.nd)
 (iss_cons (is_expr (ie_bm PySem.F.plainAttrs_list PySem.F.slot_list_append PySem.F.type_list_append mi_append (ie_var 3) (ia_cons (ie_call (ok_law_comparing_turn T) (hr.mono (by omega)) T.f_law_comparing_turn.m T.f_law_comparing_turn.F.kp T.f_law_comparing_turn.b (ia_cons (ie_var 0) (ia_cons (ie_var 4) ia_nil))) ia_nil)))
 (iss_one (is_asg (ie_call (ok_law_behind T) (hr.mono (by omega)) T.f_law_behind.m T.f_law_behind.F.kp T.f_law_behind.b (ia_cons (ie_var 1) (ia_cons (ie_var 4) (ia_cons (ie_var 5) (ia_cons (ie_ix ix_m (ie_var 3) (ie_un um_neg ie_int) (fun _ _ => rfl)) ia_nil))))) (ig_tup rfl (ig_cons (ig_name 4 sc_law_comparing_log.nd) (ig_cons (ig_name 5 sc_law_comparing_log.nd) ig_nil)))))))
 (iss_one (is_ret (ie_callTy cm_tuple (by rfl) T.b_tuple PyProof.Rows.boot_tuple (ia_cons (ie_var 3) ia_nil)))))))
  p_law_comparing_log
theorem ok_law_same (T : Txt K mg) : ∀ n : Nat, FnOk P w K mg base CX0 (1 + n) T.f_law_same.a T.f_law_same.fd ["_law_found", "_law_due"] (liftSp K (c_law_same n))
  | 0 => fnNone fun _ _ _ _ q => q
  | n + 1 => fnM (k := 1 + n) (N := ["_law_found", "_law_due", "_law_one", "_law_other"]) (m := m_law_same n) T.f_law_same.F sc_law_same (len_law_same (n + 1)) (fun cdv A outer s H E hr =>
 (iss_cons (is_if (it_val (ie_isi T.b_isinstance T.b_tuple (ie_var 1) bt_tuple kt_tuple))
 (iss_cons (is_if (IW.it (iw_or (it_not (it_val (ie_isi T.b_isinstance T.b_tuple (ie_var 0) bt_tuple kt_tuple))) (iw_or1 (it_cmp (om_ne hr.units) (ie_callB cm_len (by rfl) T.b_len PySem.boot_len (ia_cons (ie_var 0) ia_nil)) (ie_callB cm_len (by rfl) T.b_len PySem.boot_len (ia_cons (ie_var 1) ia_nil)) (nomark _)))))
 (iss_one (is_ret ie_bl))
 iss_nil)
 (iss_one (is_ret (ie_callB (cm_all rfl) (by rfl) T.b_all PyProof.Rows.boot_all (ia_cons (ie_lc (own := [("_law_one", 2), ("_law_other", 3)]) rfl sc_law_same.nd rfl (ii_zip T.b_zip (ie_var 0) (ie_var 1)) (blkOk_by (show blkC ["_law_found", "_law_due", "_law_one", "_law_other"] (defScope s_law_same) _ _ = true from by decide +kernel)) (fun _ _ _ _ _ => (ig_tup rfl (ig_cons (ig_name 2 sc_law_same.nd) (ig_cons (ig_name 3 sc_law_same.nd) ig_nil)))) (fun _ _ _ _ _ => its_nil) (fun _ _ _ _ _ => (ie_call (ok_law_same T n) (hr.mono (by omega)) T.f_law_same.m T.f_law_same.F.kp T.f_law_same.b (ia_cons (ie_var 2) (ia_cons (ie_var 3) ia_nil))))) ia_nil)))))
 iss_nil)
 (iss_cons (is_if (it_val (ie_isi T.b_isinstance T.b_str (ie_var 1) bt_str kt_str))
 (iss_one (is_ret (ie_and (ie_isi T.b_isinstance T.b_str (ie_var 0) bt_str kt_str) (ie_one (ie_cmp (om_eq hr.units) (ie_var 0) (ie_var 1) (nomark _))))))
 iss_nil)
 (iss_cons (is_if (it_cmp om_is (ie_var 1) ie_non (nomark _))
 (iss_one (is_ret (ie_cmp om_is (ie_var 0) ie_non (nomark _))))
 iss_nil)
 (iss_one (is_ret (ie_and (ie_isi T.b_isinstance T.b_int (ie_var 0) bt_int kt_int) (ie_and (ie_not (ie_isi T.b_isinstance T.b_bool (ie_var 0) bt_bool kt_bool)) (ie_one (ie_cmp (om_eq hr.units) (ie_var 0) (ie_var 1) (nomark _)))))))))))
      (p_law_same n)
theorem ok_law (T : Txt K mg) : FnOk P w K mg base CX0 5 T.f_law.a T.f_law.fd ["_law_script"] (liftSp K c_law) :=
  fnM (k := 4) (N := ["_law_script", "_law_box_here", "_law_again", "_law_ring", "_law_log", "_law_rows", "_law_k", "_law_row", "_law_due", "_law_house", "_law_mark"]) (m := m_law) T.f_law.F sc_law len_law (fun cdv A outer s H E hr =>
 (iss_cons (is_set 1 sc_law.nd (ie_call (ok_law_box T) (hr.mono (by omega)) T.f_law_box.m T.f_law_box.F.kp T.f_law_box.b (ia_cons (ie_var 0) ia_nil)))
 (iss_cons (is_for PassesOwn.never rfl (ii_range1 T.b_range ie_int) (ig_name 2 sc_law.nd)
 (iss_cons (is_set 3 sc_law.nd (ie_call (ok_law_small_ring T) (hr.mono (by omega)) T.f_law_small_ring.m T.f_law_small_ring.F.kp T.f_law_small_ring.b (ia_cons (ie_var 1) (ia_cons ie_int ia_nil))))
 (iss_cons (is_set 4 sc_law.nd (ie_ix ix_m (ie_lst (ia_cons (ie_call (ok_law_any_log T) (hr.mono (by omega)) T.f_law_any_log.m T.f_law_any_log.F.kp T.f_law_any_log.b (ia_cons (ie_var 1) (ia_cons (ie_callB cm_len (by rfl) T.b_len PySem.boot_len (ia_cons (ie_var 3) ia_nil)) ia_nil))) (ia_cons (ie_call (ok_law_comparing_log T) (hr.mono (by omega)) T.f_law_comparing_log.m T.f_law_comparing_log.F.kp T.f_law_comparing_log.b (ia_cons (ie_var 1) (ia_cons (ie_var 3) (ia_cons ie_int ia_nil)))) ia_nil))) (ie_call (ok_law_draw T) (hr.mono (by omega)) T.f_law_draw.m T.f_law_draw.F.kp T.f_law_draw.b (ia_cons (ie_var 1) (ia_cons ie_int ia_nil))) (fun _ _ => rfl)))
 (iss_cons (is_set 5 sc_law.nd (ie_call (ok_law_marks T) (hr.mono (by omega)) T.f_law_marks.m T.f_law_marks.F.kp T.f_law_marks.b (ia_cons (ie_var 3) (ia_cons (ie_var 4) ia_nil))))
 (iss_one (is_for PassesOwn.never rfl (ii_enum T.b_enumerate (ie_var 5)) (ig_tup rfl (ig_cons (ig_name 6 sc_law.nd) (ig_cons (ig_name 7 sc_law.nd) ig_nil)))
 (iss_cons (is_set 8 sc_law.nd (ie_callTy cm_tuple (by rfl) T.b_tuple PyProof.Rows.boot_tuple (ia_cons (ie_lc (own := [("_law_house", 9), ("_law_mark", 10)]) rfl sc_law.nd rfl (ii_enum T.b_enumerate (ie_var 7)) (blkOk_by (show blkC ["_law_script", "_law_box_here", "_law_again", "_law_ring", "_law_log", "_law_rows", "_law_k", "_law_row", "_law_due", "_law_house", "_law_mark"] (defScope s_law) _ _ = true from by decide +kernel)) (fun _ _ _ _ _ => (ig_tup rfl (ig_cons (ig_name 9 sc_law.nd) (ig_cons (ig_name 10 sc_law.nd) ig_nil)))) (fun _ _ _ _ _ => (its_one (it_cmp (om_eq hr.units) (ie_bmT PySem.F.slot_tuple_count PySem.F.type_tuple_count mi_count (ie_var 7) (ia_cons (ie_var 10) ia_nil)) ie_int (nomark _)))) (fun _ _ _ _ _ => (ie_var 9))) ia_nil)))
 (iss_one (is_if (it_not (it_val (ie_call (ok_law_same T 3) (hr.mono (by omega)) T.f_law_same.m T.f_law_same.F.kp T.f_law_same.b (ia_cons (ie_call (ok_alone T) (hr.mono (by omega)) T.f_alone.m T.f_alone.F.kp T.f_alone.b (ia_cons (ie_var 3) (ia_cons (ie_slice (ie_var 4) io_none (io_some (ie_var 6))) ia_nil))) (ia_cons (ie_var 8) ia_nil)))))
 (iss_one (is_ret ie_bl))
 iss_nil)))))))))
 (iss_one (is_ret (ie_cmp (om_eq hr.units) (ie_call (ok_alone T) (hr.mono (by omega)) T.f_alone.m T.f_alone.F.kp T.f_alone.b (ia_cons (ie_tup (ia_cons ie_int ia_nil)) (ia_cons (ie_tup ia_nil) ia_nil))) (ie_tup (ia_cons ie_int ia_nil)) (nomark _)))))))
  p_law
end
theorem all_mk {l : PySem.W.OpenLaw} {w : World} {K : PySem.W.Frag} {h : Heap} {mg : Str → Option Value} {fa : Addr} (X : K.In h) (G : h.Ns mainGlobals mg) (hfa : mg "law" = some (.ref fa))
    {f1 : Addr} {od1 an1 : Option Addr} {sl1 : Array (Option Value)} {oc1 kV1 dc1 pm1 cd1 ct1 : Value} (a1 : PySem.W.nsIn K mainGlobals "order_around" = some (some (.ref f1))) (l1 : K.lookup f1 = some ⟨oc1, od1, .func (PySem.W.fnOf "order_around" "order_around" (defArgs s_order_around) (defBody s_order_around) (defScope s_order_around) .none kV1 dc1 pm1 an1 cd1 ct1), sl1⟩) (c1 : PySem.W.codeIn K cd1 "order_around" = true) (k1 : PySem.W.keepIn K (.ref f1) = true)
    {f2 : Addr} {od2 an2 : Option Addr} {sl2 : Array (Option Value)} {oc2 kV2 dc2 pm2 cd2 ct2 : Value} (a2 : PySem.W.nsIn K mainGlobals "numbered" = some (some (.ref f2))) (l2 : K.lookup f2 = some ⟨oc2, od2, .func (PySem.W.fnOf "numbered" "numbered" (defArgs s_numbered) (defBody s_numbered) (defScope s_numbered) .none kV2 dc2 pm2 an2 cd2 ct2), sl2⟩) (c2 : PySem.W.codeIn K cd2 "numbered" = true) (k2 : PySem.W.keepIn K (.ref f2) = true)
    {f3 : Addr} {od3 an3 : Option Addr} {sl3 : Array (Option Value)} {oc3 kV3 dc3 pm3 cd3 ct3 : Value} (a3 : PySem.W.nsIn K mainGlobals "told_in" = some (some (.ref f3))) (l3 : K.lookup f3 = some ⟨oc3, od3, .func (PySem.W.fnOf "told_in" "told_in" (defArgs s_told_in) (defBody s_told_in) (defScope s_told_in) .none kV3 dc3 pm3 an3 cd3 ct3), sl3⟩) (c3 : PySem.W.codeIn K cd3 "told_in" = true) (k3 : PySem.W.keepIn K (.ref f3) = true)
    {f4 : Addr} {od4 an4 : Option Addr} {sl4 : Array (Option Value)} {oc4 kV4 dc4 pm4 cd4 ct4 : Value} (a4 : PySem.W.nsIn K mainGlobals "sights_behind" = some (some (.ref f4))) (l4 : K.lookup f4 = some ⟨oc4, od4, .func (PySem.W.fnOf "sights_behind" "sights_behind" (defArgs s_sights_behind) (defBody s_sights_behind) (defScope s_sights_behind) .none kV4 dc4 pm4 an4 cd4 ct4), sl4⟩) (c4 : PySem.W.codeIn K cd4 "sights_behind" = true) (k4 : PySem.W.keepIn K (.ref f4) = true)
    {f5 : Addr} {od5 an5 : Option Addr} {sl5 : Array (Option Value)} {oc5 kV5 dc5 pm5 cd5 ct5 : Value} (a5 : PySem.W.nsIn K mainGlobals "heard_from" = some (some (.ref f5))) (l5 : K.lookup f5 = some ⟨oc5, od5, .func (PySem.W.fnOf "heard_from" "heard_from" (defArgs s_heard_from) (defBody s_heard_from) (defScope s_heard_from) .none kV5 dc5 pm5 an5 cd5 ct5), sl5⟩) (c5 : PySem.W.codeIn K cd5 "heard_from" = true) (k5 : PySem.W.keepIn K (.ref f5) = true)
    {f6 : Addr} {od6 an6 : Option Addr} {sl6 : Array (Option Value)} {oc6 kV6 dc6 pm6 cd6 ct6 : Value} (a6 : PySem.W.nsIn K mainGlobals "row_behind" = some (some (.ref f6))) (l6 : K.lookup f6 = some ⟨oc6, od6, .func (PySem.W.fnOf "row_behind" "row_behind" (defArgs s_row_behind) (defBody s_row_behind) (defScope s_row_behind) .none kV6 dc6 pm6 an6 cd6 ct6), sl6⟩) (c6 : PySem.W.codeIn K cd6 "row_behind" = true) (k6 : PySem.W.keepIn K (.ref f6) = true)
    {f7 : Addr} {od7 an7 : Option Addr} {sl7 : Array (Option Value)} {oc7 kV7 dc7 pm7 cd7 ct7 : Value} (a7 : PySem.W.nsIn K mainGlobals "marks" = some (some (.ref f7))) (l7 : K.lookup f7 = some ⟨oc7, od7, .func (PySem.W.fnOf "marks" "marks" (defArgs s_marks) (defBody s_marks) (defScope s_marks) .none kV7 dc7 pm7 an7 cd7 ct7), sl7⟩) (c7 : PySem.W.codeIn K cd7 "marks" = true) (k7 : PySem.W.keepIn K (.ref f7) = true)
    {f8 : Addr} {od8 an8 : Option Addr} {sl8 : Array (Option Value)} {oc8 kV8 dc8 pm8 cd8 ct8 : Value} (a8 : PySem.W.nsIn K mainGlobals "alone" = some (some (.ref f8))) (l8 : K.lookup f8 = some ⟨oc8, od8, .func (PySem.W.fnOf "alone" "alone" (defArgs s_alone) (defBody s_alone) (defScope s_alone) .none kV8 dc8 pm8 an8 cd8 ct8), sl8⟩) (c8 : PySem.W.codeIn K cd8 "alone" = true) (k8 : PySem.W.keepIn K (.ref f8) = true)
    {f9 : Addr} {od9 an9 : Option Addr} {sl9 : Array (Option Value)} {oc9 kV9 dc9 pm9 cd9 ct9 : Value} (a9 : PySem.W.nsIn K mainGlobals "_law_box" = some (some (.ref f9))) (l9 : K.lookup f9 = some ⟨oc9, od9, .func (PySem.W.fnOf "_law_box" "_law_box" (defArgs s_law_box) (defBody s_law_box) (defScope s_law_box) .none kV9 dc9 pm9 an9 cd9 ct9), sl9⟩) (c9 : PySem.W.codeIn K cd9 "_law_box" = true) (k9 : PySem.W.keepIn K (.ref f9) = true)
    {f10 : Addr} {od10 an10 : Option Addr} {sl10 : Array (Option Value)} {oc10 kV10 dc10 pm10 cd10 ct10 : Value} (a10 : PySem.W.nsIn K mainGlobals "_law_draw" = some (some (.ref f10))) (l10 : K.lookup f10 = some ⟨oc10, od10, .func (PySem.W.fnOf "_law_draw" "_law_draw" (defArgs s_law_draw) (defBody s_law_draw) (defScope s_law_draw) .none kV10 dc10 pm10 an10 cd10 ct10), sl10⟩) (c10 : PySem.W.codeIn K cd10 "_law_draw" = true) (k10 : PySem.W.keepIn K (.ref f10) = true)
    {f11 : Addr} {od11 an11 : Option Addr} {sl11 : Array (Option Value)} {oc11 kV11 dc11 pm11 cd11 ct11 : Value} (a11 : PySem.W.nsIn K mainGlobals "_law_mixed_up" = some (some (.ref f11))) (l11 : K.lookup f11 = some ⟨oc11, od11, .func (PySem.W.fnOf "_law_mixed_up" "_law_mixed_up" (defArgs s_law_mixed_up) (defBody s_law_mixed_up) (defScope s_law_mixed_up) .none kV11 dc11 pm11 an11 cd11 ct11), sl11⟩) (c11 : PySem.W.codeIn K cd11 "_law_mixed_up" = true) (k11 : PySem.W.keepIn K (.ref f11) = true)
    {f12 : Addr} {od12 an12 : Option Addr} {sl12 : Array (Option Value)} {oc12 kV12 dc12 pm12 cd12 ct12 : Value} (a12 : PySem.W.nsIn K mainGlobals "_law_from_behind" = some (some (.ref f12))) (l12 : K.lookup f12 = some ⟨oc12, od12, .func (PySem.W.fnOf "_law_from_behind" "_law_from_behind" (defArgs s_law_from_behind) (defBody s_law_from_behind) (defScope s_law_from_behind) .none kV12 dc12 pm12 an12 cd12 ct12), sl12⟩) (c12 : PySem.W.codeIn K cd12 "_law_from_behind" = true) (k12 : PySem.W.keepIn K (.ref f12) = true)
    {f13 : Addr} {od13 an13 : Option Addr} {sl13 : Array (Option Value)} {oc13 kV13 dc13 pm13 cd13 ct13 : Value} (a13 : PySem.W.nsIn K mainGlobals "_law_places" = some (some (.ref f13))) (l13 : K.lookup f13 = some ⟨oc13, od13, .func (PySem.W.fnOf "_law_places" "_law_places" (defArgs s_law_places) (defBody s_law_places) (defScope s_law_places) .none kV13 dc13 pm13 an13 cd13 ct13), sl13⟩) (c13 : PySem.W.codeIn K cd13 "_law_places" = true) (k13 : PySem.W.keepIn K (.ref f13) = true)
    {f14 : Addr} {od14 an14 : Option Addr} {sl14 : Array (Option Value)} {oc14 kV14 dc14 pm14 cd14 ct14 : Value} (a14 : PySem.W.nsIn K mainGlobals "_law_order" = some (some (.ref f14))) (l14 : K.lookup f14 = some ⟨oc14, od14, .func (PySem.W.fnOf "_law_order" "_law_order" (defArgs s_law_order) (defBody s_law_order) (defScope s_law_order) .none kV14 dc14 pm14 an14 cd14 ct14), sl14⟩) (c14 : PySem.W.codeIn K cd14 "_law_order" = true) (k14 : PySem.W.keepIn K (.ref f14) = true)
    {f15 : Addr} {od15 an15 : Option Addr} {sl15 : Array (Option Value)} {oc15 kV15 dc15 pm15 cd15 ct15 : Value} (a15 : PySem.W.nsIn K mainGlobals "_law_told" = some (some (.ref f15))) (l15 : K.lookup f15 = some ⟨oc15, od15, .func (PySem.W.fnOf "_law_told" "_law_told" (defArgs s_law_told) (defBody s_law_told) (defScope s_law_told) .none kV15 dc15 pm15 an15 cd15 ct15), sl15⟩) (c15 : PySem.W.codeIn K cd15 "_law_told" = true) (k15 : PySem.W.keepIn K (.ref f15) = true)
    {f16 : Addr} {od16 an16 : Option Addr} {sl16 : Array (Option Value)} {oc16 kV16 dc16 pm16 cd16 ct16 : Value} (a16 : PySem.W.nsIn K mainGlobals "_law_behind" = some (some (.ref f16))) (l16 : K.lookup f16 = some ⟨oc16, od16, .func (PySem.W.fnOf "_law_behind" "_law_behind" (defArgs s_law_behind) (defBody s_law_behind) (defScope s_law_behind) .none kV16 dc16 pm16 an16 cd16 ct16), sl16⟩) (c16 : PySem.W.codeIn K cd16 "_law_behind" = true) (k16 : PySem.W.keepIn K (.ref f16) = true)
    {f17 : Addr} {od17 an17 : Option Addr} {sl17 : Array (Option Value)} {oc17 kV17 dc17 pm17 cd17 ct17 : Value} (a17 : PySem.W.nsIn K mainGlobals "_law_marks" = some (some (.ref f17))) (l17 : K.lookup f17 = some ⟨oc17, od17, .func (PySem.W.fnOf "_law_marks" "_law_marks" (defArgs s_law_marks) (defBody s_law_marks) (defScope s_law_marks) .none kV17 dc17 pm17 an17 cd17 ct17), sl17⟩) (c17 : PySem.W.codeIn K cd17 "_law_marks" = true) (k17 : PySem.W.keepIn K (.ref f17) = true)
    {f18 : Addr} {od18 an18 : Option Addr} {sl18 : Array (Option Value)} {oc18 kV18 dc18 pm18 cd18 ct18 : Value} (a18 : PySem.W.nsIn K mainGlobals "_law_small_ring" = some (some (.ref f18))) (l18 : K.lookup f18 = some ⟨oc18, od18, .func (PySem.W.fnOf "_law_small_ring" "_law_small_ring" (defArgs s_law_small_ring) (defBody s_law_small_ring) (defScope s_law_small_ring) .none kV18 dc18 pm18 an18 cd18 ct18), sl18⟩) (c18 : PySem.W.codeIn K cd18 "_law_small_ring" = true) (k18 : PySem.W.keepIn K (.ref f18) = true)
    {f19 : Addr} {od19 an19 : Option Addr} {sl19 : Array (Option Value)} {oc19 kV19 dc19 pm19 cd19 ct19 : Value} (a19 : PySem.W.nsIn K mainGlobals "_law_any_log" = some (some (.ref f19))) (l19 : K.lookup f19 = some ⟨oc19, od19, .func (PySem.W.fnOf "_law_any_log" "_law_any_log" (defArgs s_law_any_log) (defBody s_law_any_log) (defScope s_law_any_log) .none kV19 dc19 pm19 an19 cd19 ct19), sl19⟩) (c19 : PySem.W.codeIn K cd19 "_law_any_log" = true) (k19 : PySem.W.keepIn K (.ref f19) = true)
    {f20 : Addr} {od20 an20 : Option Addr} {sl20 : Array (Option Value)} {oc20 kV20 dc20 pm20 cd20 ct20 : Value} (a20 : PySem.W.nsIn K mainGlobals "_law_comparing_turn" = some (some (.ref f20))) (l20 : K.lookup f20 = some ⟨oc20, od20, .func (PySem.W.fnOf "_law_comparing_turn" "_law_comparing_turn" (defArgs s_law_comparing_turn) (defBody s_law_comparing_turn) (defScope s_law_comparing_turn) .none kV20 dc20 pm20 an20 cd20 ct20), sl20⟩) (c20 : PySem.W.codeIn K cd20 "_law_comparing_turn" = true) (k20 : PySem.W.keepIn K (.ref f20) = true)
    {f21 : Addr} {od21 an21 : Option Addr} {sl21 : Array (Option Value)} {oc21 kV21 dc21 pm21 cd21 ct21 : Value} (a21 : PySem.W.nsIn K mainGlobals "_law_comparing_log" = some (some (.ref f21))) (l21 : K.lookup f21 = some ⟨oc21, od21, .func (PySem.W.fnOf "_law_comparing_log" "_law_comparing_log" (defArgs s_law_comparing_log) (defBody s_law_comparing_log) (defScope s_law_comparing_log) .none kV21 dc21 pm21 an21 cd21 ct21), sl21⟩) (c21 : PySem.W.codeIn K cd21 "_law_comparing_log" = true) (k21 : PySem.W.keepIn K (.ref f21) = true)
    {f22 : Addr} {od22 an22 : Option Addr} {sl22 : Array (Option Value)} {oc22 kV22 dc22 pm22 cd22 ct22 : Value} (a22 : PySem.W.nsIn K mainGlobals "_law_same" = some (some (.ref f22))) (l22 : K.lookup f22 = some ⟨oc22, od22, .func (PySem.W.fnOf "_law_same" "_law_same" (defArgs s_law_same) (defBody s_law_same) (defScope s_law_same) .none kV22 dc22 pm22 an22 cd22 ct22), sl22⟩) (c22 : PySem.W.codeIn K cd22 "_law_same" = true) (k22 : PySem.W.keepIn K (.ref f22) = true)
    {f23 : Addr} {od23 an23 : Option Addr} {sl23 : Array (Option Value)} {oc23 kV23 dc23 pm23 cd23 ct23 : Value} (a23 : PySem.W.nsIn K mainGlobals "law" = some (some (.ref f23))) (l23 : K.lookup f23 = some ⟨oc23, od23, .func (PySem.W.fnOf "law" "law" (defArgs s_law) (defBody s_law) (defScope s_law) .none kV23 dc23 pm23 an23 cd23 ct23), sl23⟩) (c23 : PySem.W.codeIn K cd23 "law" = true) (k23 : PySem.W.keepIn K (.ref f23) = true)
    (z1 : PySem.W.nsIn K mainGlobals "abs" = some none)
    (z2 : PySem.W.nsIn K mainGlobals "all" = some none)
    (z3 : PySem.W.nsIn K mainGlobals "bool" = some none)
    (z4 : PySem.W.nsIn K mainGlobals "dict" = some none)
    (z5 : PySem.W.nsIn K mainGlobals "enumerate" = some none)
    (z6 : PySem.W.nsIn K mainGlobals "int" = some none)
    (z7 : PySem.W.nsIn K mainGlobals "isinstance" = some none)
    (z8 : PySem.W.nsIn K mainGlobals "len" = some none)
    (z9 : PySem.W.nsIn K mainGlobals "list" = some none)
    (z10 : PySem.W.nsIn K mainGlobals "max" = some none)
    (z11 : PySem.W.nsIn K mainGlobals "range" = some none)
    (z12 : PySem.W.nsIn K mainGlobals "set" = some none)
    (z13 : PySem.W.nsIn K mainGlobals "sorted" = some none)
    (z14 : PySem.W.nsIn K mainGlobals "str" = some none)
    (z15 : PySem.W.nsIn K mainGlobals "sum" = some none)
    (z16 : PySem.W.nsIn K mainGlobals "tuple" = some none)
    (z17 : PySem.W.nsIn K mainGlobals "zip" = some none)
    : ∃ fd : FuncData, (∀ (s : Shared) (v : Value), BindsTo s fd ⟨[v], []⟩ [("_law_script", v)]) ∧ ∀ base : Heap, K.In base → base.Ns mainGlobals mg → FnOk l.prog w K mg base CX0 5 fa fd ["_law_script"] (liftSp K c_law) := by
  have e := hfa.symm.trans (PySem.W.mg_of X G a23)
  cases e
  have F1 := fun_mk (st := s_order_around) l1 c1 k1
  have b1 := F1.binds (ps := ["ring", "house", "left", "right"]) fun _ _ _ _ _ _ us hl => match us, hl with | [_, _, _, _], _ => rfl
  have F2 := fun_mk (st := s_numbered) l2 c2 k2
  have b2 := F2.binds (ps := ["keys"]) fun _ _ _ _ _ _ us hl => match us, hl with | [_], _ => rfl
  have F3 := fun_mk (st := s_told_in) l3 c3 k3
  have b3 := F3.binds (ps := ["turn"]) fun _ _ _ _ _ _ us hl => match us, hl with | [_], _ => rfl
  have F4 := fun_mk (st := s_sights_behind) l4 c4 k4
  have b4 := F4.binds (ps := ["sights", "told"]) fun _ _ _ _ _ _ us hl => match us, hl with | [_, _], _ => rfl
  have F5 := fun_mk (st := s_heard_from) l5 c5 k5
  have b5 := F5.binds (ps := ["row", "told", "teller", "side"]) fun _ _ _ _ _ _ us hl => match us, hl with | [_, _, _, _], _ => rfl
  have F6 := fun_mk (st := s_row_behind) l6 c6 k6
  have b6 := F6.binds (ps := ["ring", "row", "told", "sights"]) fun _ _ _ _ _ _ us hl => match us, hl with | [_, _, _, _], _ => rfl
  have F7 := fun_mk (st := s_marks) l7 c7 k7
  have b7 := F7.binds (ps := ["ring", "log"]) fun _ _ _ _ _ _ us hl => match us, hl with | [_, _], _ => rfl
  have F8 := fun_mk (st := s_alone) l8 c8 k8
  have b8 := F8.binds (ps := ["ring", "log"]) fun _ _ _ _ _ _ us hl => match us, hl with | [_, _], _ => rfl
  have F9 := fun_mk (st := s_law_box) l9 c9 k9
  have b9 := F9.binds (ps := ["_law_script"]) fun _ _ _ _ _ _ us hl => match us, hl with | [_], _ => rfl
  have F10 := fun_mk (st := s_law_draw) l10 c10 k10
  have b10 := F10.binds (ps := ["_law_box_here", "_law_many"]) fun _ _ _ _ _ _ us hl => match us, hl with | [_, _], _ => rfl
  have F11 := fun_mk (st := s_law_mixed_up) l11 c11 k11
  have b11 := F11.binds (ps := ["_law_box_here", "_law_things"]) fun _ _ _ _ _ _ us hl => match us, hl with | [_, _], _ => rfl
  have F12 := fun_mk (st := s_law_from_behind) l12 c12 k12
  have b12 := F12.binds (ps := ["_law_number", "_law_most"]) fun _ _ _ _ _ _ us hl => match us, hl with | [_, _], _ => rfl
  have F13 := fun_mk (st := s_law_places) l13 c13 k13
  have b13 := F13.binds (ps := ["_law_box_here", "_law_many"]) fun _ _ _ _ _ _ us hl => match us, hl with | [_, _], _ => rfl
  have F14 := fun_mk (st := s_law_order) l14 c14 k14
  have b14 := F14.binds (ps := ["_law_ring", "_law_house", "_law_sight"]) fun _ _ _ _ _ _ us hl => match us, hl with | [_, _, _], _ => rfl
  have F15 := fun_mk (st := s_law_told) l15 c15 k15
  have b15 := F15.binds (ps := ["_law_turn", "_law_house", "_law_side"]) fun _ _ _ _ _ _ us hl => match us, hl with | [_, _, _], _ => rfl
  have F16 := fun_mk (st := s_law_behind) l16 c16 k16
  have b16 := F16.binds (ps := ["_law_ring", "_law_row", "_law_sights", "_law_turn"]) fun _ _ _ _ _ _ us hl => match us, hl with | [_, _, _, _], _ => rfl
  have F17 := fun_mk (st := s_law_marks) l17 c17 k17
  have b17 := F17.binds (ps := ["_law_ring", "_law_log"]) fun _ _ _ _ _ _ us hl => match us, hl with | [_, _], _ => rfl
  have F18 := fun_mk (st := s_law_small_ring) l18 c18 k18
  have b18 := F18.binds (ps := ["_law_box_here", "_law_most"]) fun _ _ _ _ _ _ us hl => match us, hl with | [_, _], _ => rfl
  have F19 := fun_mk (st := s_law_any_log) l19 c19 k19
  have b19 := F19.binds (ps := ["_law_box_here", "_law_many"]) fun _ _ _ _ _ _ us hl => match us, hl with | [_, _], _ => rfl
  have F20 := fun_mk (st := s_law_comparing_turn) l20 c20 k20
  have b20 := F20.binds (ps := ["_law_box_here", "_law_row"]) fun _ _ _ _ _ _ us hl => match us, hl with | [_, _], _ => rfl
  have F21 := fun_mk (st := s_law_comparing_log) l21 c21 k21
  have b21 := F21.binds (ps := ["_law_box_here", "_law_ring", "_law_many"]) fun _ _ _ _ _ _ us hl => match us, hl with | [_, _, _], _ => rfl
  have F22 := fun_mk (st := s_law_same) l22 c22 k22
  have b22 := F22.binds (ps := ["_law_found", "_law_due"]) fun _ _ _ _ _ _ us hl => match us, hl with | [_, _], _ => rfl
  have F23 := fun_mk (st := s_law) l23 c23 k23
  have b23 := F23.binds (ps := ["_law_script"]) fun _ _ _ _ _ _ us hl => match us, hl with | [_], _ => rfl
  have T : Txt K mg := { f_order_around := ⟨_, _, F1, b1, PySem.W.mg_of X G a1⟩, f_numbered := ⟨_, _, F2, b2, PySem.W.mg_of X G a2⟩, f_told_in := ⟨_, _, F3, b3, PySem.W.mg_of X G a3⟩, f_sights_behind := ⟨_, _, F4, b4, PySem.W.mg_of X G a4⟩, f_heard_from := ⟨_, _, F5, b5, PySem.W.mg_of X G a5⟩, f_row_behind := ⟨_, _, F6, b6, PySem.W.mg_of X G a6⟩, f_marks := ⟨_, _, F7, b7, PySem.W.mg_of X G a7⟩, f_alone := ⟨_, _, F8, b8, PySem.W.mg_of X G a8⟩, f_law_box := ⟨_, _, F9, b9, PySem.W.mg_of X G a9⟩, f_law_draw := ⟨_, _, F10, b10, PySem.W.mg_of X G a10⟩, f_law_mixed_up := ⟨_, _, F11, b11, PySem.W.mg_of X G a11⟩, f_law_from_behind := ⟨_, _, F12, b12, PySem.W.mg_of X G a12⟩, f_law_places := ⟨_, _, F13, b13, PySem.W.mg_of X G a13⟩, f_law_order := ⟨_, _, F14, b14, PySem.W.mg_of X G a14⟩, f_law_told := ⟨_, _, F15, b15, PySem.W.mg_of X G a15⟩, f_law_behind := ⟨_, _, F16, b16, PySem.W.mg_of X G a16⟩, f_law_marks := ⟨_, _, F17, b17, PySem.W.mg_of X G a17⟩, f_law_small_ring := ⟨_, _, F18, b18, PySem.W.mg_of X G a18⟩, f_law_any_log := ⟨_, _, F19, b19, PySem.W.mg_of X G a19⟩, f_law_comparing_turn := ⟨_, _, F20, b20, PySem.W.mg_of X G a20⟩, f_law_comparing_log := ⟨_, _, F21, b21, PySem.W.mg_of X G a21⟩, f_law_same := ⟨_, _, F22, b22, PySem.W.mg_of X G a22⟩, f_law := ⟨_, _, F23, b23, PySem.W.mg_of X G a23⟩, b_abs := PySem.W.mg_none_of X G z1, b_all := PySem.W.mg_none_of X G z2, b_bool := PySem.W.mg_none_of X G z3, b_dict := PySem.W.mg_none_of X G z4, b_enumerate := PySem.W.mg_none_of X G z5, b_int := PySem.W.mg_none_of X G z6, b_isinstance := PySem.W.mg_none_of X G z7, b_len := PySem.W.mg_none_of X G z8, b_list := PySem.W.mg_none_of X G z9, b_max := PySem.W.mg_none_of X G z10, b_range := PySem.W.mg_none_of X G z11, b_set := PySem.W.mg_none_of X G z12, b_sorted := PySem.W.mg_none_of X G z13, b_str := PySem.W.mg_none_of X G z14, b_sum := PySem.W.mg_none_of X G z15, b_tuple := PySem.W.mg_none_of X G z16, b_zip := PySem.W.mg_none_of X G z17 }
  refine ⟨PySem.W.fnOf "law" "law" (defArgs s_law) (defBody s_law) (defScope s_law) .none kV23 dc23 pm23 an23 cd23 ct23, fun s v => .of_eq rfl, fun base _ _ => ?_⟩
  exact fnM (k := 4) (N := ["_law_script", "_law_box_here", "_law_again", "_law_ring", "_law_log", "_law_rows", "_law_k", "_law_row", "_law_due", "_law_house", "_law_mark"]) (m := m_law) F23 sc_law len_law (fun cdv A outer s H E hr =>
 (iss_cons (is_set 1 sc_law.nd (ie_call (ok_law_box T) (hr.mono (by omega)) T.f_law_box.m T.f_law_box.F.kp T.f_law_box.b (ia_cons (ie_var 0) ia_nil)))
 (iss_cons (is_for PassesOwn.never rfl (ii_range1 T.b_range ie_int) (ig_name 2 sc_law.nd)
 (iss_cons (is_set 3 sc_law.nd (ie_call (ok_law_small_ring T) (hr.mono (by omega)) T.f_law_small_ring.m T.f_law_small_ring.F.kp T.f_law_small_ring.b (ia_cons (ie_var 1) (ia_cons ie_int ia_nil))))
 (iss_cons (is_set 4 sc_law.nd (ie_ix ix_m (ie_lst (ia_cons (ie_call (ok_law_any_log T) (hr.mono (by omega)) T.f_law_any_log.m T.f_law_any_log.F.kp T.f_law_any_log.b (ia_cons (ie_var 1) (ia_cons (ie_callB cm_len (by rfl) T.b_len PySem.boot_len (ia_cons (ie_var 3) ia_nil)) ia_nil))) (ia_cons (ie_call (ok_law_comparing_log T) (hr.mono (by omega)) T.f_law_comparing_log.m T.f_law_comparing_log.F.kp T.f_law_comparing_log.b (ia_cons (ie_var 1) (ia_cons (ie_var 3) (ia_cons ie_int ia_nil)))) ia_nil))) (ie_call (ok_law_draw T) (hr.mono (by omega)) T.f_law_draw.m T.f_law_draw.F.kp T.f_law_draw.b (ia_cons (ie_var 1) (ia_cons ie_int ia_nil))) (fun _ _ => rfl)))
 (iss_cons (is_set 5 sc_law.nd (ie_call (ok_law_marks T) (hr.mono (by omega)) T.f_law_marks.m T.f_law_marks.F.kp T.f_law_marks.b (ia_cons (ie_var 3) (ia_cons (ie_var 4) ia_nil))))
 (iss_one (is_for PassesOwn.never rfl (ii_enum T.b_enumerate (ie_var 5)) (ig_tup rfl (ig_cons (ig_name 6 sc_law.nd) (ig_cons (ig_name 7 sc_law.nd) ig_nil)))
 (iss_cons (is_set 8 sc_law.nd (ie_callTy cm_tuple (by rfl) T.b_tuple PyProof.Rows.boot_tuple (ia_cons (ie_lc (own := [("_law_house", 9), ("_law_mark", 10)]) rfl sc_law.nd rfl (ii_enum T.b_enumerate (ie_var 7)) (blkOk_by (show blkC ["_law_script", "_law_box_here", "_law_again", "_law_ring", "_law_log", "_law_rows", "_law_k", "_law_row", "_law_due", "_law_house", "_law_mark"] (defScope s_law) _ _ = true from by decide +kernel)) (fun _ _ _ _ _ => (ig_tup rfl (ig_cons (ig_name 9 sc_law.nd) (ig_cons (ig_name 10 sc_law.nd) ig_nil)))) (fun _ _ _ _ _ => (its_one (it_cmp (om_eq hr.units) (ie_bmT PySem.F.slot_tuple_count PySem.F.type_tuple_count mi_count (ie_var 7) (ia_cons (ie_var 10) ia_nil)) ie_int (nomark _)))) (fun _ _ _ _ _ => (ie_var 9))) ia_nil)))
 (iss_one (is_if (it_not (it_val (ie_call (ok_law_same T 3) (hr.mono (by omega)) T.f_law_same.m T.f_law_same.F.kp T.f_law_same.b (ia_cons (ie_call (ok_alone T) (hr.mono (by omega)) T.f_alone.m T.f_alone.F.kp T.f_alone.b (ia_cons (ie_var 3) (ia_cons (ie_slice (ie_var 4) io_none (io_some (ie_var 6))) ia_nil))) (ia_cons (ie_var 8) ia_nil)))))
 (iss_one (is_ret ie_bl))
 iss_nil)))))))))
 (iss_one (is_ret (ie_cmp (om_eq hr.units) (ie_call (ok_alone T) (hr.mono (by omega)) T.f_alone.m T.f_alone.F.kp T.f_alone.b (ia_cons (ie_tup (ia_cons ie_int ia_nil)) (ia_cons (ie_tup ia_nil) ia_nil))) (ie_tup (ia_cons ie_int ia_nil)) (nomark _)))))))
    p_law
end Law
end M

open PySem PySem.W PyProof.Rows in
set_option maxRecDepth 100000 in
set_option maxHeartbeats 0 in
theorem PySem.Challenge.cw_ringchief_k56_alone_holds : PySem.Challenge.rw_ringchief_k56_alone.Holds := by
  w_on; o_law; k_head; (case hw => w_witness2)
  k_fill
  refine L2.walk_ofB (l := PySem.Challenge.rw_ringchief_k56_alone) (n := 63) (k := 5) (x := "_law_script") (CX := fun _ => L2.CX0) (sp := fun w => M.liftSp _ M.Law.c_law) rfl (by decide) rfl ⟨rfl, by decide, by decide⟩ (fun w h Y => PySem.W.kIn_of Y) ?F (fun _ H a ns hl hb hO hS => M.start_law hl hb hO hS (M.Law.law_start ns hl hb)) (fun _ _ _ _ _ h => h)
  case F =>
    intro w mg fa h KX G hmg
    refine' M.Law.all_mk KX G hmg ?a1 ?l1 ?c1 ?k1 ?a2 ?l2 ?c2 ?k2 ?a3 ?l3 ?c3 ?k3 ?a4 ?l4 ?c4 ?k4 ?a5 ?l5 ?c5 ?k5 ?a6 ?l6 ?c6 ?k6 ?a7 ?l7 ?c7 ?k7 ?a8 ?l8 ?c8 ?k8 ?a9 ?l9 ?c9 ?k9 ?a10 ?l10 ?c10 ?k10 ?a11 ?l11 ?c11 ?k11 ?a12 ?l12 ?c12 ?k12 ?a13 ?l13 ?c13 ?k13 ?a14 ?l14 ?c14 ?k14 ?a15 ?l15 ?c15 ?k15 ?a16 ?l16 ?c16 ?k16 ?a17 ?l17 ?c17 ?k17 ?a18 ?l18 ?c18 ?k18 ?a19 ?l19 ?c19 ?k19 ?a20 ?l20 ?c20 ?k20 ?a21 ?l21 ?c21 ?k21 ?a22 ?l22 ?c22 ?k22 ?a23 ?l23 ?c23 ?k23 ?z1 ?z2 ?z3 ?z4 ?z5 ?z6 ?z7 ?z8 ?z9 ?z10 ?z11 ?z12 ?z13 ?z14 ?z15 ?z16 ?z17
    (case a1 => k_is)
    (case l1 => k_is)
    (case c1 => k_is)
    (case k1 => k_is)
    (case a2 => k_is)
    (case l2 => k_is)
    (case c2 => k_is)
    (case k2 => k_is)
    (case a3 => k_is)
    (case l3 => k_is)
    (case c3 => k_is)
    (case k3 => k_is)
    (case a4 => k_is)
    (case l4 => k_is)
    (case c4 => k_is)
    (case k4 => k_is)
    (case a5 => k_is)
    (case l5 => k_is)
    (case c5 => k_is)
    (case k5 => k_is)
    (case a6 => k_is)
    (case l6 => k_is)
    (case c6 => k_is)
    (case k6 => k_is)
    (case a7 => k_is)
    (case l7 => k_is)
    (case c7 => k_is)
    (case k7 => k_is)
    (case a8 => k_is)
    (case l8 => k_is)
    (case c8 => k_is)
    (case k8 => k_is)
    (case a9 => k_is)
    (case l9 => k_is)
    (case c9 => k_is)
    (case k9 => k_is)
    (case a10 => k_is)
    (case l10 => k_is)
    (case c10 => k_is)
    (case k10 => k_is)
    (case a11 => k_is)
    (case l11 => k_is)
    (case c11 => k_is)
    (case k11 => k_is)
    (case a12 => k_is)
    (case l12 => k_is)
    (case c12 => k_is)
    (case k12 => k_is)
    (case a13 => k_is)
    (case l13 => k_is)
    (case c13 => k_is)
    (case k13 => k_is)
    (case a14 => k_is)
    (case l14 => k_is)
    (case c14 => k_is)
    (case k14 => k_is)
    (case a15 => k_is)
    (case l15 => k_is)
    (case c15 => k_is)
    (case k15 => k_is)
    (case a16 => k_is)
    (case l16 => k_is)
    (case c16 => k_is)
    (case k16 => k_is)
    (case a17 => k_is)
    (case l17 => k_is)
    (case c17 => k_is)
    (case k17 => k_is)
    (case a18 => k_is)
    (case l18 => k_is)
    (case c18 => k_is)
    (case k18 => k_is)
    (case a19 => k_is)
    (case l19 => k_is)
    (case c19 => k_is)
    (case k19 => k_is)
    (case a20 => k_is)
    (case l20 => k_is)
    (case c20 => k_is)
    (case k20 => k_is)
    (case a21 => k_is)
    (case l21 => k_is)
    (case c21 => k_is)
    (case k21 => k_is)
    (case a22 => k_is)
    (case l22 => k_is)
    (case c22 => k_is)
    (case k22 => k_is)
    (case a23 => k_is)
    (case l23 => k_is)
    (case c23 => k_is)
    (case k23 => k_is)
    (case z1 => k_is)
    (case z2 => k_is)
    (case z3 => k_is)
    (case z4 => k_is)
    (case z5 => k_is)
    (case z6 => k_is)
    (case z7 => k_is)
    (case z8 => k_is)
    (case z9 => k_is)
    (case z10 => k_is)
    (case z11 => k_is)
    (case z12 => k_is)
    (case z13 => k_is)
    (case z14 => k_is)
    (case z15 => k_is)
    (case z16 => k_is)
    (case z17 => k_is)
