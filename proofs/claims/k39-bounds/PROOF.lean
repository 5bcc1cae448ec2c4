import PyProof.Rows.All
import Wide.All
import OpenK.AllK
import Wide.FinOn
import HandS.ForMost
import HandS.Exc
import HandS.EndBits
import HandS.TupAny
import KE.KDictKeyed
import HandS.WideBits
import HandS.TupMul
import HandS.TupLe
import HandS.Zip
import KE.GoesEnum
import HandS.Style
import HandS.IsInst
import HandS.SortInts
import HandS.NoneIn
import HandS.Conv
import HandS.More
import KE.Datum
import PyProof.WalkInts
import PyProof.WalksMore
import KE.DataMinMax
import KE.SortData
import KE.DataCmp
import PyProof.Rows.TupDisplay
import HandS.DictTup
import KE.KItemsList
import PyProof.ZipIter
import PyProof.ListNew
import HandS.TupLen
import KE.KDictPairs
import HandS.Strs
import HandS.Deep
import KE.GoesMore
import HandS.SortRule
import HandS.SetFor
import HandS.Text
import HandS.SortKw
import PySem.Challenge.RW_ringchief_k39_bounds
set_option Elab.async false
set_option linter.all false
set_option maxRecDepth 100000
set_option maxHeartbeats 4000000
namespace M
open PySem L2
/-! ### data: tuples are values -/
inductive D where
  | non | bl (b : Bool) | int (i : Int) | str (x : Str) | tup (xs : List D) | tw (xs : List D) | rl (xs : List D) | ref (a : Addr)
inductive MO where
  | lst (xs : List D) | dK (kvs : List (Key × D)) | dT (kvs : List (List Key × D)) | fT (kvs : List (List Key × D)) (ws : List (List Key × V)) (od : Obj)
  | dN (kvs : List (NestedKey × D)) | fN (kvs : List (NestedKey × D)) (xs : List (NestedKey × Addr × V)) (od : Obj)
abbrev MH := Addr → Option MO
def up (h : MH) (a : Addr) (o : MO) : MH := fun b => if b = a then some o else h b
theorem up_same {h : MH} {a : Addr} {o : MO} : up h a o a = some o := by unfold up; rw [if_pos rfl]
theorem up_ne {h : MH} {a b : Addr} {o : MO} (n : b ≠ a) : up h a o b = h b := by unfold up; rw [if_neg n]
theorem up_up {h : MH} {a : Addr} {o u : MO} : up (up h a o) a u = up h a u := by
  funext b; unfold up; split <;> rfl
theorem ne_of {h : MH} {a b : Addr} {o : MO} (e : h a = some o) (n : h b = none) : a ≠ b := by
  intro q; subst q; rw [e] at n; cases n

/-- a tuple of the heap that has no dict of its own -/
def SqN (K : PySem.W.Frag) (H : Hp) (a : Addr) (xs : List V) : Prop :=
  (∃ o, H a = some (.frz o (.tup xs)) ∧ o.dict = none) ∨
    ∃ (o : Obj) (its : Array Value) (n : Nat), K.lookup a = some o ∧ o.cls = .type "tuple" ∧ o.dict = none ∧ o.data = .seq its n ∧ its.size ≤ sizeLine ∧ Vals xs its.toList
theorem SqN.t {K : PySem.W.Frag} {H : Hp} {a : Addr} {xs : List V} (h : SqN K H a xs) : SqT K H a xs := by
  rcases h with ⟨o, h, _⟩ | ⟨o, its, n, a1, a2, _, a3, a4, a5⟩
  · exact .inl (.inr ⟨o, h⟩)
  · exact .inr ⟨o, its, n, a1, a2, a3, a4, a5⟩
theorem SqN.of {K : PySem.W.Frag} {H : Hp} {a : Addr} {xs : List V} {o : Obj} (h : H a = some (.frz o (.tup xs))) (d : o.dict = none) : SqN K H a xs := .inl ⟨o, h, d⟩
/-! ### dicts with nested keys -/
mutual
/-- no text in it -/
def plainK : NestedKey → Bool
  | .none => true
  | .num _ => true
  | .text _ => false
  | .tup ks => plainKs ks
def plainKs : List NestedKey → Bool
  | [] => true
  | k :: ks => plainK k && plainKs ks
end
mutual
theorem hash_plain (w w' : World) : ∀ k : NestedKey, plainK k = true → k.hash w = k.hash w'
  | .none, _ => rfl
  | .num _, _ => rfl
  | .text _, h => by cases h
  | .tup ks, h => by
    rw [NestedKey.hash, NestedKey.hash, hashes_plain w w' ks h]
theorem hashes_plain (w w' : World) : ∀ ks : List NestedKey, plainKs ks = true → NestedKey.hashes w ks = NestedKey.hashes w' ks
  | [], _ => rfl
  | k :: ks, h => by
    have h : (plainK k && plainKs ks) = true := h
    rw [Bool.and_eq_true] at h
    rw [NestedKey.hashes, NestedKey.hashes, hash_plain w w' k h.1, hashes_plain w w' ks h.2]
end
def NPair (p : NestedKey × Addr × V) (q : NestedKey × Addr × Value) : Prop := p.1 = q.1 ∧ p.2.1 = q.2.1 ∧ RelV p.2.2 q.2.2
def NDesc (a : Addr) (xs : List (NestedKey × Addr × V)) (h : Heap) : Prop := xs.length ≤ sizeLine ∧ (a == sysModules) = false ∧ (∀ x ∈ xs, plainK x.1 = true ∧ x.1.depth ≤ 8) ∧
  ∃ ys : List (NestedKey × Addr × Value), Paired NPair xs ys ∧ ∃ o es ep, h.get? a = some o ∧ o.ExactDict ∧ o.data = .dict es ep ∧ (∀ (P : Program) (w : World), es.toList = ys.map (entryOfKey (nestedKind P w))) ∧ (ys.map (·.1)).Nodup
/-- what stands at a: a dict of the keys, their tuples and the values xs -/
def nob (a : Addr) (xs : List (NestedKey × Addr × V)) : HO := .ext (NDesc a xs)
mutual
def kD : NestedKey → D
  | .none => .non
  | .num i => .int i
  | .text x => .str x
  | .tup ks => .tup (kDs ks)
def kDs : List NestedKey → List D
  | [] => []
  | k :: ks => kD k :: kDs ks
end
/-- an immutable list of the heap -/
def SqI (K : PySem.W.Frag) (H : Hp) (a : Addr) (xs : List V) : Prop :=
  (∃ o, H a = some (.frz o (.lst xs))) ∨
    ∃ (o : Obj) (its : Array Value) (n : Nat), K.lookup a = some o ∧ o.cls = .type "list" ∧ o.dict = none ∧ o.data = .seq its n ∧ its.size ≤ sizeLine ∧ Vals xs its.toList
theorem SqI.l {K : PySem.W.Frag} {H : Hp} {a : Addr} {xs : List V} (h : SqI K H a xs) : SqL K H a xs := by
  rcases h with ⟨o, h⟩ | h
  · exact .inl (.inr ⟨o, h⟩)
  · exact .inr h
mutual
def RV (K : PySem.W.Frag) (H : Hp) : D → V → Prop
  | .non, v => v = .non
  | .bl b, v => v = .bl b
  | .int i, v => v = .int i
  | .str x, v => v = .str x
  | .tup ds, v => ∃ a vs, v = .ref a ∧ SqN K H a vs ∧ RVs K H ds vs
  | .tw ds, v => ∃ a vs, v = .ref a ∧ SqT K H a vs ∧ RVs K H ds vs
  | .rl ds, v => ∃ a vs, v = .ref a ∧ SqI K H a vs ∧ RVs K H ds vs
  | .ref a, v => v = .ref a
def RVs (K : PySem.W.Frag) (H : Hp) : List D → List V → Prop
  | [], vs => vs = []
  | d :: ds, vs => ∃ v r, vs = v :: r ∧ RV K H d v ∧ RVs K H ds r
end
/-- what is locked for a while alone -/
def Lk : HO → Prop
  | .dT _ => True
  | .ext _ => True
  | _ => False
/-- immutable things stay -/
def TL (H H' : Hp) : Prop := (∀ a xs, H a = some (.tup xs) → H' a = some (.tup xs)) ∧ ∀ a o u, H a = some (.frz o u) → ¬ Lk u → H' a = some (.frz o u)
theorem TL.refl (H : Hp) : TL H H := ⟨fun _ _ h => h, fun _ _ _ h _ => h⟩
theorem TL.trans {H H1 H2 : Hp} (a : TL H H1) (b : TL H1 H2) : TL H H2 := ⟨fun c xs h => b.1 c xs (a.1 c xs h), fun c o u h n => b.2 c o u (a.2 c o u h n) n⟩
theorem TL.new {H : Hp} {p : Addr} {o : HO} (n : H p = none) : TL H (upd H p o) :=
  ⟨fun a xs h => by rw [upd_ne (L2.ne_of_none h n)]; exact h, fun a o' u h _ => by rw [upd_ne (L2.ne_of_none h n)]; exact h⟩
/-- a store at what is neither a tuple nor locked -/
theorem TL.put {H : Hp} {p : Addr} {o u : HO} (n : H p = some u) (h1 : ∀ xs, u ≠ .tup xs) (h2 : ∀ a b, u ≠ .frz a b) : TL H (upd H p o) := by
  refine ⟨fun a xs h => ?_, fun a o' w h _ => ?_⟩
  · rw [upd_ne (fun e => ?_)]
    · exact h
    · subst e; rw [n] at h; cases h; exact h1 xs rfl
  · rw [upd_ne (fun e => ?_)]
    · exact h
    · subst e; rw [n] at h; cases h; exact h2 _ _ rfl
section
variable {K : PySem.W.Frag} {H H' : Hp}
theorem sqT_mono (t : TL H H') {a : Addr} {vs : List V} (h : SqT K H a vs) : SqT K H' a vs := by
  rcases h with (h | ⟨o, h⟩) | h
  · exact .inl (.inl (t.1 a vs h))
  · exact .inl (.inr ⟨o, t.2 a o _ h fun z => z⟩)
  · exact .inr h
theorem sqN_mono (t : TL H H') {a : Addr} {vs : List V} (h : SqN K H a vs) : SqN K H' a vs := by
  rcases h with ⟨o, h, d⟩ | h
  · exact .inl ⟨o, t.2 a o _ h fun z => z, d⟩
  · exact .inr h
theorem sqI_mono (t : TL H H') {a : Addr} {vs : List V} (h : SqI K H a vs) : SqI K H' a vs := by
  rcases h with ⟨o, h⟩ | h
  · exact .inl ⟨o, t.2 a o _ h fun z => z⟩
  · exact .inr h
mutual
theorem RV.mono (t : TL H H') : ∀ {d : D} {v : V}, RV K H d v → RV K H' d v
  | .non, _, h => by simpa only [RV] using h
  | .bl _, _, h => by simpa only [RV] using h
  | .int _, _, h => by simpa only [RV] using h
  | .str _, _, h => by simpa only [RV] using h
  | .ref _, _, h => by simpa only [RV] using h
  | .tup _, _, h => by
    simp only [RV] at h ⊢
    obtain ⟨a, vs, e, q, r⟩ := h
    exact ⟨a, vs, e, sqN_mono t q, RVs.mono t r⟩
  | .tw _, _, h => by
    simp only [RV] at h ⊢
    obtain ⟨a, vs, e, q, r⟩ := h
    exact ⟨a, vs, e, sqT_mono t q, RVs.mono t r⟩
  | .rl _, _, h => by
    simp only [RV] at h ⊢
    obtain ⟨a, vs, e, q, r⟩ := h
    exact ⟨a, vs, e, sqI_mono t q, RVs.mono t r⟩
theorem RVs.mono (t : TL H H') : ∀ {ds : List D} {vs : List V}, RVs K H ds vs → RVs K H' ds vs
  | [], _, h => by simpa only [RVs] using h
  | d :: ds, _, h => by
    simp only [RVs] at h ⊢
    obtain ⟨v, r, e, q, s⟩ := h
    exact ⟨v, r, e, RV.mono t q, RVs.mono t s⟩
end
theorem rv_int {i : Int} : RV K H (.int i) (.int i) := by simp only [RV]
theorem rv_bl {i : Bool} : RV K H (.bl i) (.bl i) := by simp only [RV]
theorem rv_str {i : Str} : RV K H (.str i) (.str i) := by simp only [RV]
theorem rv_non : RV K H .non .non := by simp only [RV]
theorem rv_ref {a : Addr} : RV K H (.ref a) (.ref a) := by simp only [RV]
theorem rv_tup {ds : List D} {a : Addr} {vs : List V} (h : SqN K H a vs) (r : RVs K H ds vs) : RV K H (.tup ds) (.ref a) := by
  simp only [RV]; exact ⟨a, vs, rfl, h, r⟩
theorem rv_tw {ds : List D} {a : Addr} {vs : List V} (h : SqT K H a vs) (r : RVs K H ds vs) : RV K H (.tw ds) (.ref a) := by
  simp only [RV]; exact ⟨a, vs, rfl, h, r⟩
theorem RV.tupN {ds : List D} {v : V} (h : RV K H (.tup ds) v) : ∃ a vs, v = .ref a ∧ SqN K H a vs ∧ RVs K H ds vs := by simpa only [RV] using h
theorem RV.tup {ds : List D} {v : V} (h : RV K H (.tup ds) v) : ∃ a vs, v = .ref a ∧ SqT K H a vs ∧ RVs K H ds vs := let ⟨a, vs, e, q, r⟩ := h.tupN; ⟨a, vs, e, q.t, r⟩
theorem RV.tw {ds : List D} {v : V} (h : RV K H (.tw ds) v) : ∃ a vs, v = .ref a ∧ SqT K H a vs ∧ RVs K H ds vs := by simpa only [RV] using h
theorem RV.rl {ds : List D} {v : V} (h : RV K H (.rl ds) v) : ∃ a vs, v = .ref a ∧ SqI K H a vs ∧ RVs K H ds vs := by simpa only [RV] using h
theorem RV.int {i : Int} {v : V} (h : RV K H (.int i) v) : v = .int i := by simpa only [RV] using h
theorem RV.bl {i : Bool} {v : V} (h : RV K H (.bl i) v) : v = .bl i := by simpa only [RV] using h
theorem RV.str {i : Str} {v : V} (h : RV K H (.str i) v) : v = .str i := by simpa only [RV] using h
theorem RV.non {v : V} (h : RV K H .non v) : v = .non := by simpa only [RV] using h
theorem RV.ref {a : Addr} {v : V} (h : RV K H (.ref a) v) : v = .ref a := by simpa only [RV] using h
theorem RVs.nil : RVs K H [] [] := by simp only [RVs]
theorem RVs.cons {d : D} {v : V} {ds : List D} {vs : List V} (h : RV K H d v) (r : RVs K H ds vs) : RVs K H (d :: ds) (v :: vs) := by
  simp only [RVs]; exact ⟨v, vs, rfl, h, r⟩
theorem RVs.inv {d : D} {ds : List D} {vs : List V} (h : RVs K H (d :: ds) vs) : ∃ v r, vs = v :: r ∧ RV K H d v ∧ RVs K H ds r := by simpa only [RVs] using h
theorem RVs.inv0 {vs : List V} (h : RVs K H [] vs) : vs = [] := by simpa only [RVs] using h
theorem RVs.length : ∀ {ds : List D} {vs : List V}, RVs K H ds vs → ds.length = vs.length
  | [], _, h => by rw [h.inv0] <;> rfl
  | d :: ds, _, h => by
    obtain ⟨v, r, rfl, _, s⟩ := h.inv
    simp [s.length]
theorem RVs.get : ∀ {ds : List D} {vs : List V} {i : Nat} {d : D}, RVs K H ds vs → ds[i]? = some d → ∃ v, vs[i]? = some v ∧ RV K H d v
  | [], _, _, _, _, e => by simp at e
  | x :: ds, _, 0, d, h, e => by
    obtain ⟨v, r, rfl, q, _⟩ := h.inv
    simp at e; subst e
    exact ⟨v, by simp, q⟩
  | x :: ds, _, i + 1, d, h, e => by
    obtain ⟨v, r, rfl, _, s⟩ := h.inv
    obtain ⟨w, e1, q⟩ := s.get (by simpa using e)
    exact ⟨w, by simpa using e1, q⟩
theorem RVs.get' {ds : List D} {vs : List V} {i : Nat} {v : V} (h : RVs K H ds vs) (e : vs[i]? = some v) : ∃ d, ds[i]? = some d ∧ RV K H d v := by
  have hl := h.length
  have hi : i < ds.length := by rw [hl]; exact (List.getElem?_eq_some_iff.mp e).1
  obtain ⟨w, e1, q⟩ := h.get (List.getElem?_eq_getElem hi)
  rw [e] at e1
  cases e1
  exact ⟨_, List.getElem?_eq_getElem hi, q⟩
theorem RVs.append : ∀ {ds es : List D} {vs ws : List V}, RVs K H ds vs → RVs K H es ws → RVs K H (ds ++ es) (vs ++ ws)
  | [], _, _, _, h, s => by rw [h.inv0]; exact s
  | d :: ds, _, _, _, h, s => by
    obtain ⟨v, r, rfl, q, t⟩ := h.inv
    exact .cons q (t.append s)
theorem RVs.take : ∀ {ds : List D} {vs : List V} (n : Nat), RVs K H ds vs → RVs K H (ds.take n) (vs.take n)
  | _, _, 0, _ => by simp only [List.take_zero]; exact .nil
  | [], _, n + 1, h => by rw [h.inv0]; exact .nil
  | d :: ds, _, n + 1, h => by
    obtain ⟨v, r, rfl, q, t⟩ := h.inv
    exact .cons q (t.take n)
theorem RVs.drop : ∀ {ds : List D} {vs : List V} (n : Nat), RVs K H ds vs → RVs K H (ds.drop n) (vs.drop n)
  | _, _, 0, h => h
  | [], _, n + 1, h => by rw [h.inv0]; exact .nil
  | d :: ds, _, n + 1, h => by
    obtain ⟨v, r, rfl, q, t⟩ := h.inv
    exact t.drop n
theorem RVs.set : ∀ {ds : List D} {vs : List V} {d : D} {v : V} (i : Nat), RVs K H ds vs → RV K H d v → RVs K H (ds.set i d) (vs.set i v)
  | [], _, _, _, _, h, _ => by rw [h.inv0]; exact .nil
  | x :: ds, _, d, w, 0, h, q => by
    obtain ⟨v, r, rfl, _, t⟩ := h.inv
    exact .cons q t
  | x :: ds, _, d, w, i + 1, h, q => by
    obtain ⟨v, r, rfl, p, t⟩ := h.inv
    exact .cons p (t.set i q)
theorem RVs.ints : ∀ {ns : List Int} {vs : List V}, RVs K H (ns.map D.int) vs → vs = ns.map V.int
  | [], _, h => h.inv0
  | n :: ns, _, h => by
    obtain ⟨v, r, rfl, q, t⟩ := h.inv
    rw [q.int, t.ints]; rfl
theorem RVs.of_ints : ∀ {ns : List Int}, RVs K H (ns.map D.int) (ns.map V.int)
  | [] => .nil
  | n :: ns => .cons rv_int .of_ints
theorem RVs.bls : ∀ {ns : List Bool} {vs : List V}, RVs K H (ns.map D.bl) vs → vs = ns.map V.bl
  | [], _, h => h.inv0
  | n :: ns, _, h => by
    obtain ⟨v, r, rfl, q, t⟩ := h.inv
    rw [q.bl, t.bls]; rfl
theorem RVs.strs : ∀ {ns : List Str} {vs : List V}, RVs K H (ns.map D.str) vs → vs = ns.map V.str
  | [], _, h => h.inv0
  | n :: ns, _, h => by
    obtain ⟨v, r, rfl, q, t⟩ := h.inv
    rw [q.str, t.strs]; rfl
theorem RVs.of_strs : ∀ {ns : List Str}, RVs K H (ns.map D.str) (ns.map V.str)
  | [] => .nil
  | n :: ns => .cons rv_str .of_strs
end
/-- entries -/
def RKV {κ : Type} (K : PySem.W.Frag) (H : Hp) (kvs : List (κ × D)) (ws : List (κ × V)) : Prop := kvs.map (·.1) = ws.map (·.1) ∧ RVs K H (kvs.map (·.2)) (ws.map (·.2))
theorem RKV.mono {κ : Type} {K : PySem.W.Frag} {H H' : Hp} (t : TL H H') {kvs : List (κ × D)} {ws : List (κ × V)} (h : RKV K H kvs ws) : RKV K H' kvs ws := ⟨h.1, h.2.mono t⟩
/-- entries of a dict with nested keys -/
def RN (K : PySem.W.Frag) (H : Hp) (kvs : List (NestedKey × D)) (xs : List (NestedKey × Addr × V)) : Prop :=
  kvs.map (·.1) = xs.map (·.1) ∧ RVs K H (kvs.map (·.2)) (xs.map (·.2.2)) ∧ ∀ x ∈ xs, RV K H (kD x.1) (.ref x.2.1)
theorem RN.mono {K : PySem.W.Frag} {H H' : Hp} (t : TL H H') {kvs : List (NestedKey × D)} {xs : List (NestedKey × Addr × V)} (h : RN K H kvs xs) : RN K H' kvs xs := ⟨h.1, h.2.1.mono t, fun x hx => (h.2.2 x hx).mono t⟩
def RO (K : PySem.W.Frag) (H : Hp) (a : Addr) : MO → HO → Prop
  | .lst ds, o => ∃ vs, o = .lst vs ∧ RVs K H ds vs
  | .dK kvs, o => ∃ ws, o = .dK ws ∧ RKV K H kvs ws
  | .dT kvs, o => ∃ ws, o = .dT ws ∧ RKV K H kvs ws
  | .fT kvs ws od, o => o = .frz od (.dT ws) ∧ RKV K H kvs ws
  | .dN kvs, o => ∃ xs, o = nob a xs ∧ RN K H kvs xs
  | .fN kvs xs od, o => o = .frz od (nob a xs) ∧ RN K H kvs xs
theorem RO.mono {K : PySem.W.Frag} {H H' : Hp} (t : TL H H') {a : Addr} : ∀ {m : MO} {o : HO}, RO K H a m o → RO K H' a m o
  | .lst _, _, ⟨vs, e, r⟩ => ⟨vs, e, r.mono t⟩
  | .dK _, _, ⟨vs, e, r⟩ => ⟨vs, e, r.mono t⟩
  | .dT _, _, ⟨vs, e, r⟩ => ⟨vs, e, r.mono t⟩
  | .fT _ _ _, _, ⟨e, r⟩ => ⟨e, r.mono t⟩
  | .dN _, _, ⟨xs, e, r⟩ => ⟨xs, e, r.mono t⟩
  | .fN _ _ _, _, ⟨e, r⟩ => ⟨e, r.mono t⟩
/-- a new tuple, told with its object -/
abbrev tob (its : List Value) : Obj := { cls := .type "tuple", data := .seq its.toArray }
theorem okN {P : Program} {w : World} {H : Hp} {h : Heap} {its : List Value} {xs : List V} (hz : xs.length ≤ sizeLine) (r : Vals xs its) : ObjOk P w H (h.push (tob its)) h.objs.size (.frz (tob its) (.tup xs)) :=
  ⟨Heap.get?_push_size _ rfl, hz, its, r, PyProof.Rows.IsTup.new _ _⟩
def HR (K : PySem.W.Frag) (h : MH) (H : Hp) : Prop := ∀ a o, h a = some o → ∃ u, H a = some u ∧ RO K H a o u
section
variable {K : PySem.W.Frag} {h : MH} {H H' : Hp}
theorem HR.free (r : HR K h H) {p : Addr} (n : H p = none) : h p = none := by
  cases e : h p with
  | none => rfl
  | some o =>
    obtain ⟨u, e1, _⟩ := r p o e
    rw [n] at e1; cases e1
theorem HR.lst (r : HR K h H) {a : Addr} {ds : List D} (e : h a = some (.lst ds)) : ∃ vs, H a = some (.lst vs) ∧ RVs K H ds vs := by
  obtain ⟨u, e1, vs, rfl, q⟩ := r a _ e
  exact ⟨vs, e1, q⟩
theorem HR.dK (r : HR K h H) {a : Addr} {ds : List (Key × D)} (e : h a = some (.dK ds)) : ∃ vs, H a = some (.dK vs) ∧ RKV K H ds vs := by
  obtain ⟨u, e1, vs, rfl, q⟩ := r a _ e
  exact ⟨vs, e1, q⟩
theorem HR.dT (r : HR K h H) {a : Addr} {ds : List (List Key × D)} (e : h a = some (.dT ds)) : ∃ vs, H a = some (.dT vs) ∧ RKV K H ds vs := by
  obtain ⟨u, e1, vs, rfl, q⟩ := r a _ e
  exact ⟨vs, e1, q⟩
theorem HR.fT (r : HR K h H) {a : Addr} {ds : List (List Key × D)} {ws : List (List Key × V)} {od : Obj} (e : h a = some (.fT ds ws od)) : H a = some (.frz od (.dT ws)) ∧ RKV K H ds ws := by
  obtain ⟨u, e1, rfl, q⟩ := r a _ e
  exact ⟨e1, q⟩
theorem HR.dN (r : HR K h H) {a : Addr} {ds : List (NestedKey × D)} (e : h a = some (.dN ds)) : ∃ xs, H a = some (nob a xs) ∧ RN K H ds xs := by
  obtain ⟨u, e1, xs, rfl, q⟩ := r a _ e
  exact ⟨xs, e1, q⟩
theorem HR.fN (r : HR K h H) {a : Addr} {ds : List (NestedKey × D)} {xs : List (NestedKey × Addr × V)} {od : Obj} (e : h a = some (.fN ds xs od)) : H a = some (.frz od (nob a xs)) ∧ RN K H ds xs := by
  obtain ⟨u, e1, rfl, q⟩ := r a _ e
  exact ⟨e1, q⟩
theorem TL.lockN {H : Hp} {p a : Addr} {ws : List (NestedKey × Addr × V)} {o : Obj} (n : H p = some (nob a ws)) : TL H (upd H p (.frz o (nob a ws))) := by
  refine ⟨fun a xs h => ?_, fun a o' w h _ => ?_⟩
  · rw [upd_ne (fun e => by subst e; rw [n] at h; cases h)]; exact h
  · rw [upd_ne (fun e => by subst e; rw [n] at h; cases h)]; exact h
theorem TL.unlockN {H : Hp} {p a : Addr} {ws : List (NestedKey × Addr × V)} {o : Obj} (n : H p = some (.frz o (nob a ws))) : TL H (upd H p (nob a ws)) := by
  refine ⟨fun a xs h => ?_, fun a o' w h nw => ?_⟩
  · rw [upd_ne (fun e => by subst e; rw [n] at h; cases h)]; exact h
  · rw [upd_ne (fun e => by subst e; rw [n] at h; cases h; exact nw trivial)]; exact h
/-- locked, let go -/
theorem TL.lock {H : Hp} {p : Addr} {ws : List (List Key × V)} {o : Obj} (n : H p = some (.dT ws)) : TL H (upd H p (.frz o (.dT ws))) := by
  refine ⟨fun a xs h => ?_, fun a o' w h _ => ?_⟩
  · rw [upd_ne (fun e => by subst e; rw [n] at h; cases h)]; exact h
  · rw [upd_ne (fun e => by subst e; rw [n] at h; cases h)]; exact h
theorem TL.unlock {H : Hp} {p : Addr} {ws : List (List Key × V)} {o : Obj} (n : H p = some (.frz o (.dT ws))) : TL H (upd H p (.dT ws)) := by
  refine ⟨fun a xs h => ?_, fun a o' w h nw => ?_⟩
  · rw [upd_ne (fun e => by subst e; rw [n] at h; cases h)]; exact h
  · rw [upd_ne (fun e => by subst e; rw [n] at h; cases h; exact nw trivial)]; exact h
/-- a new thing of L2 that h does not see (a tuple) -/
theorem HR.skip (r : HR K h H) {p : Addr} {o : HO} (n : H p = none) : HR K h (upd H p o) := fun a m e => by
  obtain ⟨u, e1, q⟩ := r a m e
  exact ⟨u, by rw [upd_ne (L2.ne_of_none e1 n)]; exact e1, q.mono (.new n)⟩
theorem HR.put (r : HR K h H) {p : Addr} {m : MO} {o : HO} (t : TL H (upd H p o)) (q : RO K (upd H p o) p m o) : HR K (up h p m) (upd H p o) := fun a n e => by
  by_cases c : a = p
  · subst c
    rw [up_same] at e
    cases e
    exact ⟨o, upd_same, q⟩
  · rw [up_ne c] at e
    obtain ⟨u, e1, q1⟩ := r a n e
    exact ⟨u, by rw [upd_ne c]; exact e1, q1.mono t⟩
theorem HR.new (r : HR K h H) {p : Addr} {m : MO} {o : HO} (n : H p = none) (q : RO K H p m o) : HR K (up h p m) (upd H p o) := r.put (.new n) (q.mono (.new n))
end
/-! ### environments -/
abbrev ME := List (Option D)
def REnv (K : PySem.W.Frag) (Hb H : Hp) (env : ME) (σ : L2.St) : Prop := TL Hb H ∧ env.length = σ.length ∧ ∀ (i : Nat) (d : D), env[i]? = some (some d) → ∃ v, σ[i]? = some (some v) ∧ RV K H d v
theorem REnv.mono {K : PySem.W.Frag} {Hb H H' : Hp} {env : ME} {σ : L2.St} (t : TL H H') (r : REnv K Hb H env σ) : REnv K Hb H' env σ :=
  ⟨r.1.trans t, r.2.1, fun i d e => let ⟨v, e1, q⟩ := r.2.2 i d e; ⟨v, e1, q.mono t⟩⟩
theorem REnv.set {K : PySem.W.Frag} {Hb H : Hp} {env : ME} {σ : L2.St} {d : D} {v : V} (r : REnv K Hb H env σ) (i : Nat) (q : RV K H d v) : REnv K Hb H (env.set i (some d)) (σ.set i (some v)) := by
  refine ⟨r.1, by rw [List.length_set, List.length_set]; exact r.2.1, fun j d' e => ?_⟩
  by_cases c : i = j
  · subst c
    by_cases hl : i < env.length
    · rw [List.getElem?_set_self hl] at e
      cases e
      exact ⟨v, List.getElem?_set_self (by rw [← r.2.1]; exact hl), q⟩
    · rw [List.getElem?_eq_none (by rw [List.length_set]; omega)] at e
      cases e
  · rw [List.getElem?_set_ne c] at e ⊢
    exact r.2.2 j d' e
/-! ### lifting -/
abbrev MQ := D → MH → Prop
abbrev MTE := ME → MH → MQ → Prop
abbrev MTT := ME → MH → (Bool → MH → Prop) → Prop
abbrev MTA := ME → MH → (List D → MH → Prop) → Prop
def lift (K : PySem.W.Frag) (Hb : Hp) (m : MTE) : TE := fun σ H Q => ∃ env h, ∃ Q0 : MQ, REnv K Hb H env σ ∧ HR K h H ∧ m env h Q0 ∧ ∀ d h', Q0 d h' → ∀ v H', TL H H' → HR K h' H' → RV K H' d v → Q v H'
def liftT (K : PySem.W.Frag) (Hb : Hp) (m : MTT) : TT := fun σ H Q => ∃ env h, ∃ Q0 : Bool → MH → Prop, REnv K Hb H env σ ∧ HR K h H ∧ m env h Q0 ∧ ∀ d h', Q0 d h' → ∀ H', TL H H' → HR K h' H' → Q d H'
def liftA (K : PySem.W.Frag) (Hb : Hp) (m : MTA) : TA := fun σ H Q => ∃ env h, ∃ Q0 : List D → MH → Prop, REnv K Hb H env σ ∧ HR K h H ∧ m env h Q0 ∧ ∀ ds h', Q0 ds h' → ∀ vs H', TL H H' → HR K h' H' → RVs K H' ds vs → Q vs H'
structure MEnds where
  nx : ME → MH → Prop
  rt : MQ
  bk : ME → MH → Prop := fun _ _ => False
  ct : ME → MH → Prop := fun _ _ => False
abbrev MTS := MEnds → ME → MH → Prop
def liftS (K : PySem.W.Frag) (Hb : Hp) (m : MTS) : TS := fun D' σ H => ∃ env h, ∃ D0 : MEnds, REnv K Hb H env σ ∧ HR K h H ∧ m D0 env h ∧
  (∀ env' h', D0.nx env' h' → ∀ σ' H', TL H H' → REnv K Hb H' env' σ' → HR K h' H' → D'.nx σ' H') ∧
  (∀ d h', D0.rt d h' → ∀ v H', TL H H' → RV K H' d v → HR K h' H' → D'.rt v H') ∧
  (∀ env' h', D0.bk env' h' → ∀ σ' H', TL H H' → REnv K Hb H' env' σ' → HR K h' H' → D'.bk σ' H') ∧
  (∀ env' h', D0.ct env' h' → ∀ σ' H', TL H H' → REnv K Hb H' env' σ' → HR K h' H' → D'.ct σ' H')
/-- the judgements -/
def IE (X : Cx) (Hb : Hp) (e : Expr) (m : MTE) : Prop := PE X e (lift X.K Hb m)
def IT (X : Cx) (Hb : Hp) (e : Expr) (m : MTT) : Prop := PT X e (liftT X.K Hb m)
def IW (X : Cx) (Hb : Hp) (e : Expr) (m : MTT) : Prop := PW X e (liftT X.K Hb m)
def IA (X : Cx) (Hb : Hp) (es : List Expr) (m : MTA) : Prop := PA X es (liftA X.K Hb m)
def IS (X : Cx) (Hb : Hp) (s : Stmt) (m : MTS) : Prop := PS X s (liftS X.K Hb m)
def ISs (X : Cx) (Hb : Hp) (s : List Stmt) (m : MTS) : Prop := PSs X s (liftS X.K Hb m)
theorem pe_w {X : Cx} {e : Expr} {t t' : TE} (h : PE X e t) (w : ∀ σ H Q, t' σ H Q → t σ H Q) : PE X e t' := ⟨fun pins s σ H Q I q => h.run pins s σ H Q I (w σ H Q q)⟩
theorem pt_w {X : Cx} {e : Expr} {t t' : TT} (h : PT X e t) (w : ∀ σ H Q, t' σ H Q → t σ H Q) : PT X e t' := ⟨fun pins s σ H Q I q => h.run pins s σ H Q I (w σ H Q q)⟩
theorem pw_w {X : Cx} {e : Expr} {t t' : TT} (h : PW X e t) (w : ∀ σ H Q, t' σ H Q → t σ H Q) : PW X e t' := ⟨fun wh pins s σ H Q I q => h.run wh pins s σ H Q I (w σ H Q q)⟩
theorem pa_w {X : Cx} {e : List Expr} {t t' : TA} (h : PA X e t) (w : ∀ σ H Q, t' σ H Q → t σ H Q) : PA X e t' := ⟨fun pos pins s σ H Q I q => h.run pos pins s σ H Q I (w σ H Q q)⟩
theorem ps_w {X : Cx} {e : Stmt} {t t' : TS} (h : PS X e t) (w : ∀ D' σ H, t' D' σ H → t D' σ H) : PS X e t' := ⟨fun pins s σ H D' I q => h.run pins s σ H D' I (w D' σ H q)⟩
theorem pss_w {X : Cx} {e : List Stmt} {t t' : TS} (h : PSs X e t) (w : ∀ D' σ H, t' D' σ H → t D' σ H) : PSs X e t' := ⟨fun pins s σ H D' I q => h.run pins s σ H D' I (w D' σ H q)⟩
end M

namespace M
open PySem L2
/-! ### expressions -/
def Fin (K : PySem.W.Frag) (H : Hp) (Q0 : MQ) (Q : VK) : Prop := ∀ d h', Q0 d h' → ∀ v H', TL H H' → HR K h' H' → RV K H' d v → Q v H'
theorem Fin.mono {K : PySem.W.Frag} {H H' : Hp} {Q0 : MQ} {Q : VK} (t : TL H H') (f : Fin K H Q0 Q) : Fin K H' Q0 Q := fun d h' q v H2 t2 => f d h' q v H2 (t.trans t2)
abbrev MR1 := D → MH → MQ → Prop
abbrev MR2 := D → D → MH → MQ → Prop
abbrev MRA := List D → MH → MQ → Prop
def OpM (X : Cx) (f : Value → Value → Sem Value) (r : MR2) : Prop :=
  ∃ R : R2, OpR X f R ∧ ∀ (x y : D) (h : MH) (Q0 : MQ) (vx vy : V) (H : Hp) (Q : VK), r x y h Q0 → HR X.K h H → RV X.K H x vx → RV X.K H y vy → Fin X.K H Q0 Q → R vx vy H Q
def UnM (X : Cx) (f : Value → Sem Value) (r : MR1) : Prop :=
  ∃ R : V → Hp → VK → Prop, UnR X f R ∧ ∀ (x : D) (h : MH) (Q0 : MQ) (vx : V) (H : Hp) (Q : VK), r x h Q0 → HR X.K h H → RV X.K H x vx → Fin X.K H Q0 Q → R vx H Q
def IxM (X : Cx) (r : MR2) : Prop :=
  ∃ R : R2, IxR X R ∧ ∀ (x y : D) (h : MH) (Q0 : MQ) (vx vy : V) (H : Hp) (Q : VK), r x y h Q0 → HR X.K h H → RV X.K H x vx → RV X.K H y vy → Fin X.K H Q0 Q → R vx vy H Q
def CaM (X : Cx) (f : Value) (r : MRA) : Prop :=
  ∃ R : List V → Hp → VK → Prop, CallR X f R ∧ ∀ (xs : List D) (h : MH) (Q0 : MQ) (vs : List V) (H : Hp) (Q : VK), r xs h Q0 → HR X.K h H → RVs X.K H xs vs → Fin X.K H Q0 Q → R vs H Q
def mVar (i : Nat) : MTE := fun env h Q => ∃ d, env[i]? = some (some d) ∧ Q d h
def mC (d : D) : MTE := fun _ h Q => Q d h
def mOp (r : MR2) (a b : MTE) : MTE := fun env h Q => a env h fun x h1 => b env h1 fun y h2 => r x y h2 Q
def mUn (r : MR1) (a : MTE) : MTE := fun env h Q => a env h fun x h1 => r x h1 Q
def mNil : MTA := fun _ h Q => Q [] h
def mCons (a : MTE) (r : MTA) : MTA := fun env h Q => a env h fun x h1 => r env h1 fun xs h2 => Q (x :: xs) h2
def mTup (t : MTA) : MTE := fun env h Q => t env h fun xs h1 => xs.length ≤ sizeLine ∧ Q (.tup xs) h1
def mLst (t : MTA) : MTE := fun env h Q => t env h fun xs h1 => xs.length ≤ sizeLine ∧ ∀ p, h1 p = none → Q (.ref p) (up h1 p (.lst xs))
def mCa (r : MRA) (t : MTA) : MTE := fun env h Q => t env h fun xs h1 => r xs h1 Q
def mTest (a : MTE) : MTT := fun env h Q => a env h fun x h1 => ∃ b, x = .bl b ∧ Q b h1
def mAnd (a b : MTT) : MTT := fun env h Q => a env h fun c h1 => if c = true then b env h1 Q else Q false h1
def mOr (a b : MTT) : MTT := fun env h Q => a env h fun c h1 => if c = true then Q true h1 else b env h1 Q
def mNot (a : MTT) : MTT := fun env h Q => a env h fun c h1 => Q (!c) h1
def mAndV (a b : MTE) : MTE := fun env h Q => a env h fun x h1 => ∃ c, x = .bl c ∧ if c = true then b env h1 Q else Q (.bl false) h1
def mOrV (a b : MTE) : MTE := fun env h Q => a env h fun x h1 => ∃ c, x = .bl c ∧ if c = true then Q (.bl true) h1 else b env h1 Q
def mNotV (a : MTT) : MTE := fun env h Q => a env h fun c h1 => Q (.bl (!c)) h1
def mIfE (c : MTT) (a b : MTE) : MTE := fun env h Q => c env h fun k h1 => if k = true then a env h1 Q else b env h1 Q
def mChain (r r' : MR2) (a b c : MTE) : MTE := fun env h Q => a env h fun x h1 => b env h1 fun y h2 => r x y h2 fun z h3 => ∃ k, z = .bl k ∧ if k = true then (c env h3 fun w h4 => r' y w h4 Q) else Q (.bl false) h3
section
variable {X : Cx} {Hb : Hp} {a b c e : Expr} {es : List Expr} {ma mb mc : MTE} {pos : Pos} {mt mu : MTT} {ms : MTA} {r r' : MR2}
theorem ie_var (i : Nat) {x : Str} {pos : Pos} (hN : X.N[i]? = some x := by rfl) (hv : Vis X.env.scope x := by first | exact Or.inl rfl | exact Or.inr (Or.inl rfl) | exact Or.inr (Or.inr rfl)) (hd : (x == ("__debug__" : Str)) = false := by decide)
    (hcd : (x == ("__classdict__" : Str)) = false := by decide) : IE X Hb (.Name x pos) (mVar i) :=
  pe_w (pe_var hN hv hd hcd) fun σ H Q ⟨env, h, Q0, re, rh, ⟨d, e, q⟩, f⟩ => let ⟨v, e1, rv⟩ := re.2.2 i d e; ⟨v, e1, f d h q v H (.refl H) rh rv⟩
theorem ie_c {t : V} {d : D} (h : PE X e (tC t)) (r : ∀ H, RV X.K H d t) : IE X Hb e (mC d) :=
  pe_w h fun σ H Q ⟨env, h, Q0, re, rh, q, f⟩ => f d h q t H (.refl H) rh (r H)
theorem ie_int {i j pos} : IE X Hb (.Constant (.int i) j pos) (mC (.int i)) := ie_c pe_int fun _ => rv_int
theorem ie_bl {i j pos} : IE X Hb (.Constant (.bool i) j pos) (mC (.bl i)) := ie_c pe_bl fun _ => rv_bl
theorem ie_non {j pos} : IE X Hb (.Constant .none j pos) (mC .non) := ie_c pe_non fun _ => rv_non
theorem ie_str {i j pos} : IE X Hb (.Constant (.str i) j pos) (mC (.str i)) := ie_c pe_str fun _ => rv_str
/-- the common move -/
theorem two {σ : L2.St} {H : Hp} {Q : VK} {env : ME} {h : MH} {Q0 : MQ} {R : R2} {K : PySem.W.Frag} (re : REnv K Hb H env σ) (rh : HR K h H) (m : mOp r ma mb env h Q0) (f : Fin K H Q0 Q)
    (hi : ∀ (x y : D) (h : MH) (Q0 : MQ) (vx vy : V) (H : Hp) (Q : VK), r x y h Q0 → HR K h H → RV K H x vx → RV K H y vy → Fin K H Q0 Q → R vx vy H Q) : tOp R (lift K Hb ma) (lift K Hb mb) σ H Q := by
  refine ⟨env, h, _, re, rh, m, fun x h1 q1 vx H1 t1 r1 rx => ?_⟩
  refine ⟨env, h1, _, re.mono t1, r1, q1, fun y h2 q2 vy H2 t2 r2 ry => ?_⟩
  exact hi x y h2 Q0 vx vy H2 Q q2 r2 (rx.mono t2) ry (Fin.mono (t1.trans t2) f)
theorem ie_op {op : Operator} (ho : OpM X (binaryOp op) r) (ha : IE X Hb a ma) (hb : IE X Hb b mb) : IE X Hb (.BinOp a op b pos) (mOp r ma mb) := by
  obtain ⟨R, hR, hi⟩ := ho
  exact pe_w (pe_op hR ha hb) fun σ H Q ⟨env, h, Q0, re, rh, m, f⟩ => two re rh m f hi
theorem ie_ix (ho : IxM X r) (ha : IE X Hb a ma) (hb : IE X Hb b mb) (hs : PlainIx b) : IE X Hb (.Subscript a b pos) (mOp r ma mb) := by
  obtain ⟨R, hR, hi⟩ := ho
  exact pe_w (pe_ix hR ha hb hs) fun σ H Q ⟨env, h, Q0, re, rh, m, f⟩ => two re rh m f hi
theorem ie_cmp {op : CmpOp} (ho : OpM X (compareOp op) r) (ha : IE X Hb a ma) (hb : IE X Hb b mb) (hm : behindInMarks op b = false) : IE X Hb (.Compare a [op] [b] pos) (mOp r ma mb) := by
  obtain ⟨R, hR, hi⟩ := ho
  exact pe_w (pe_cmpR hR ha hb hm) fun σ H Q ⟨env, h, Q0, re, rh, m, f⟩ => two re rh m f hi
theorem it_cmp {op : CmpOp} (ho : OpM X (compareOp op) r) (ha : IE X Hb a ma) (hb : IE X Hb b mb) (hm : behindInMarks op b = false) : IT X Hb (.Compare a [op] [b] pos) (mTest (mOp r ma mb)) := by
  obtain ⟨R, hR, hi⟩ := ho
  refine pt_w (pt_cmpR hR ha hb hm) fun σ H Q ⟨env, h, Q0, re, rh, m, f⟩ => ?_
  refine two re rh m ?_ hi
  rintro d h' ⟨k, rfl, q⟩ v H' t' rh' rv
  rw [rv.bl]
  exact ⟨k, rfl, f k h' q H' t' rh'⟩
theorem ie_un {op : UnaryOp} {r : MR1} (ho : UnM X (unaryOp op) r) (ha : IE X Hb a ma) : IE X Hb (.UnaryOp op a pos) (mUn r ma) := by
  obtain ⟨R, hR, hi⟩ := ho
  refine pe_w (pe_un hR ha) fun σ H Q ⟨env, h, Q0, re, rh, m, f⟩ => ?_
  refine ⟨env, h, _, re, rh, m, fun x h1 q1 vx H1 t1 r1 rx => ?_⟩
  exact hi x h1 Q0 vx H1 Q q1 r1 rx (Fin.mono t1 f)
theorem it_val (h : IE X Hb e ma) (he : ∀ whole, isTrue e X.env whole = (do let v ← whole; standAt e.pos; holding [v] (truthy v)) := by intro _; rfl) : IT X Hb e (mTest ma) := by
  refine pt_w (pt_val h he) fun σ H Q ⟨env, h, Q0, re, rh, m, f⟩ => ?_
  refine ⟨env, h, _, re, rh, m, ?_⟩
  rintro d h' ⟨k, rfl, q⟩ v H' t' rh' rv
  rw [rv.bl]
  exact ⟨k, rfl, f k h' q H' t' rh'⟩
theorem IW.it (h : IW X Hb e mt) : IT X Hb e mt := PW.pt h
theorem iw_and1 (h : IT X Hb a mt) : IW X Hb (.BoolOp .And [a] pos) mt := pw_and1 h
theorem iw_or1 (h : IT X Hb a mt) : IW X Hb (.BoolOp .Or [a] pos) mt := pw_or1 h
theorem iw_and {rest : List Expr} (h : IT X Hb a mt) (k : IW X Hb (.BoolOp .And (b :: rest) pos) mu) : IW X Hb (.BoolOp .And (a :: b :: rest) pos) (mAnd mt mu) := by
  refine pw_w (pw_and h k) fun σ H Q ⟨env, h, Q0, re, rh, m, f⟩ => ?_
  refine ⟨env, h, _, re, rh, m, fun k h1 q1 H1 t1 r1 => ?_⟩
  cases k with
  | true => exact ⟨env, h1, Q0, re.mono t1, r1, q1, fun d h' q H' t => f d h' q H' (t1.trans t)⟩
  | false => exact f false h1 q1 H1 t1 r1
theorem iw_or {rest : List Expr} (h : IT X Hb a mt) (k : IW X Hb (.BoolOp .Or (b :: rest) pos) mu) : IW X Hb (.BoolOp .Or (a :: b :: rest) pos) (mOr mt mu) := by
  refine pw_w (pw_or h k) fun σ H Q ⟨env, h, Q0, re, rh, m, f⟩ => ?_
  refine ⟨env, h, _, re, rh, m, fun k h1 q1 H1 t1 r1 => ?_⟩
  cases k with
  | false => exact ⟨env, h1, Q0, re.mono t1, r1, q1, fun d h' q H' t => f d h' q H' (t1.trans t)⟩
  | true => exact f true h1 q1 H1 t1 r1
theorem it_not (h : IT X Hb a mt) : IT X Hb (.UnaryOp .Not a pos) (mNot mt) := by
  refine pt_w (pt_not h) fun σ H Q ⟨env, h, Q0, re, rh, m, f⟩ => ?_
  exact ⟨env, h, _, re, rh, m, fun k h1 q1 H1 t1 r1 => f _ h1 q1 H1 t1 r1⟩
theorem ie_one {op} (h : IE X Hb a ma) : IE X Hb (.BoolOp op [a] pos) ma := pe_one h
theorem ie_and {rest : List Expr} (ha : IE X Hb a ma) (hb : IE X Hb (.BoolOp .And (b :: rest) pos) mb) : IE X Hb (.BoolOp .And (a :: b :: rest) pos) (mAndV ma mb) := by
  refine pe_w (pe_and ha hb) fun σ H Q ⟨env, h, Q0, re, rh, m, f⟩ => ?_
  refine ⟨env, h, _, re, rh, m, ?_⟩
  rintro d h1 ⟨k, rfl, q⟩ v H1 t1 r1 rv
  rw [rv.bl]
  refine ⟨k, rfl, ?_⟩
  cases k with
  | true => exact ⟨env, h1, Q0, re.mono t1, r1, q, Fin.mono t1 f⟩
  | false => exact f _ h1 q _ H1 t1 r1 rv_bl
theorem ie_or {rest : List Expr} (ha : IE X Hb a ma) (hb : IE X Hb (.BoolOp .Or (b :: rest) pos) mb) : IE X Hb (.BoolOp .Or (a :: b :: rest) pos) (mOrV ma mb) := by
  refine pe_w (pe_or ha hb) fun σ H Q ⟨env, h, Q0, re, rh, m, f⟩ => ?_
  refine ⟨env, h, _, re, rh, m, ?_⟩
  rintro d h1 ⟨k, rfl, q⟩ v H1 t1 r1 rv
  rw [rv.bl]
  refine ⟨k, rfl, ?_⟩
  cases k with
  | false => exact ⟨env, h1, Q0, re.mono t1, r1, q, Fin.mono t1 f⟩
  | true => exact f _ h1 q _ H1 t1 r1 rv_bl
theorem ie_not (ha : IE X Hb a ma) : IE X Hb (.UnaryOp .Not a pos) (mNotV (mTest ma)) := by
  refine pe_w (pe_not ha) fun σ H Q ⟨env, h, Q0, re, rh, m, f⟩ => ?_
  refine ⟨env, h, _, re, rh, m, ?_⟩
  rintro d h1 ⟨k, rfl, q⟩ v H1 t1 r1 rv
  rw [rv.bl]
  exact ⟨k, rfl, f _ h1 q _ H1 t1 r1 rv_bl⟩
theorem ie_ifE (hc : IT X Hb c mt) (ha : IE X Hb a ma) (hb : IE X Hb b mb) : IE X Hb (.IfExp c a b pos) (mIfE mt ma mb) := by
  refine pe_w (pe_ifExp hc ha hb) fun σ H Q ⟨env, h, Q0, re, rh, m, f⟩ => ?_
  refine ⟨env, h, _, re, rh, m, fun k h1 q1 H1 t1 r1 => ?_⟩
  cases k with
  | true => exact ⟨env, h1, Q0, re.mono t1, r1, q1, Fin.mono t1 f⟩
  | false => exact ⟨env, h1, Q0, re.mono t1, r1, q1, Fin.mono t1 f⟩
theorem ia_nil : IA X Hb [] mNil := pa_w pa_nil fun σ H Q ⟨env, h, Q0, re, rh, m, f⟩ => f [] h m [] H (.refl H) rh .nil
theorem ia_cons (ha : IE X Hb e ma) (hr : IA X Hb es ms) (hs : starEach (e :: es) X.env = (false, eval e X.env) :: starEach es X.env := by rfl) : IA X Hb (e :: es) (mCons ma ms) := by
  refine pa_w (pa_cons ha hr hs) fun σ H Q ⟨env, h, Q0, re, rh, m, f⟩ => ?_
  refine ⟨env, h, _, re, rh, m, fun x h1 q1 vx H1 t1 r1 rx => ?_⟩
  exact ⟨env, h1, _, re.mono t1, r1, q1, fun ds h2 q2 vs H2 t2 r2 rs => f _ h2 q2 _ H2 (t1.trans t2) r2 (.cons (rx.mono t2) rs)⟩
def tTupN (t : TA) : TE := fun σ H Q => t σ H fun xs H1 => xs.length ≤ sizeLine ∧ ∀ p od, H1 p = none → od.dict = none → Q (.ref p) (upd H1 p (.frz od (.tup xs)))
theorem pe_tupN {x1} {t : TA} (h : PA X es t) : PE X (.Tuple es x1 pos) (tTupN t) := by
  refine ⟨fun pins s σ H Q I hq => ?_⟩
  refine wpAny_Tuple_spliced (thn (h.run pos pins s σ H _ I hq) fun us s1 ⟨xs, H1, I1, r, z, q⟩ => ⟨by rw [← r.length]; exact z, ?_⟩)
  have hf : H1 s1.heap.objs.size = none := I1.hok.fresh (Nat.le_refl _)
  exact ⟨.ref s1.heap.objs.size, _, I1.laid (t' := s1.toks) (fun b u e => Heap.get?_push_of_some _ e) (Nat.le_refl _) (okN z r), rfl, q _ _ hf rfl⟩
theorem ie_tup {x1} (h : IA X Hb es ms) : IE X Hb (.Tuple es x1 pos) (mTup ms) := by
  refine pe_w (pe_tupN h) fun σ H Q ⟨env, h, Q0, re, rh, m, f⟩ => ?_
  refine ⟨env, h, _, re, rh, m, fun xs h1 ⟨z, q⟩ vs H1 t1 r1 rs => ⟨by rw [← rs.length]; exact z, fun p od np nd => ?_⟩⟩
  exact f _ h1 q _ _ (t1.trans (.new np)) (r1.skip np) (rv_tup (.of upd_same nd) (rs.mono (.new np)))
theorem ie_lst (h : IA X Hb es ms) : IE X Hb (.List es pos) (mLst ms) := by
  refine pe_w (pe_lst h) fun σ H Q ⟨env, h, Q0, re, rh, m, f⟩ => ?_
  refine ⟨env, h, _, re, rh, m, fun xs h1 ⟨z, q⟩ vs H1 t1 r1 rs => ⟨by rw [← rs.length]; exact z, fun p np => ?_⟩⟩
  exact f _ _ (q p (r1.free np)) _ _ (t1.trans (.new np)) (r1.new np ⟨vs, rfl, rs⟩) rv_ref
theorem ie_chain {op op' : CmpOp} (ho : OpM X (compareOp op) r) (ho' : OpM X (compareOp op') r') (ha : IE X Hb a ma) (hb : IE X Hb b mb) (hc : IE X Hb c mc)
    (hm : lastMarks [op, op'] [b, c] = false := by rfl) : IE X Hb (.Compare a [op, op'] [b, c] pos) (mChain r r' ma mb mc) := by
  obtain ⟨R, hR, hi⟩ := ho
  obtain ⟨R', hR', hi'⟩ := ho'
  refine pe_w (pe_chain hR hR' ha hb hc hm) fun σ H Q ⟨env, h, Q0, re, rh, m, f⟩ => ?_
  refine ⟨env, h, _, re, rh, m, fun x h1 q1 vx H1 t1 r1 rx => ?_⟩
  refine ⟨env, h1, _, re.mono t1, r1, q1, fun y h2 q2 vy H2 t2 r2 ry => ?_⟩
  refine hi x y h2 _ vx vy H2 _ q2 r2 (rx.mono t2) ry ?_
  rintro d h3 ⟨k, rfl, q3⟩ v H3 t3 r3 rv
  rw [rv.bl]
  refine ⟨k, rfl, ?_⟩
  cases k with
  | true =>
    refine ⟨env, h3, _, re.mono (t1.trans (t2.trans t3)), r3, q3, fun w h4 q4 vw H4 t4 r4 rw' => ?_⟩
    exact hi' y w h4 Q0 vy vw H4 Q q4 r4 (ry.mono (t3.trans t4)) rw' (Fin.mono (t1.trans (t2.trans (t3.trans t4))) f)
  | false => exact f _ h3 q3 _ H3 (t1.trans (t2.trans t3)) r3 rv_bl
theorem it_chain {op op' : CmpOp} (ho : OpM X (compareOp op) r) (ho' : OpM X (compareOp op') r') (ha : IE X Hb a ma) (hb : IE X Hb b mb) (hc : IE X Hb c mc)
    (hm : lastMarks [op, op'] [b, c] = false := by rfl) : IT X Hb (.Compare a [op, op'] [b, c] pos) (mTest (mChain r r' ma mb mc)) := by
  obtain ⟨R, hR, hi⟩ := ho
  obtain ⟨R', hR', hi'⟩ := ho'
  refine pt_w (pt_chain hR hR' ha hb hc hm) fun σ H Q ⟨env, h, Q0, re, rh, m, f⟩ => ?_
  refine ⟨env, h, _, re, rh, m, fun x h1 q1 vx H1 t1 r1 rx => ?_⟩
  refine ⟨env, h1, _, re.mono t1, r1, q1, fun y h2 q2 vy H2 t2 r2 ry => ?_⟩
  refine hi x y h2 _ vx vy H2 _ q2 r2 (rx.mono t2) ry ?_
  rintro d h3 ⟨k, rfl, q3⟩ v H3 t3 r3 rv
  rw [rv.bl]
  refine ⟨k, rfl, ?_⟩
  cases k with
  | true =>
    refine ⟨env, h3, _, re.mono (t1.trans (t2.trans t3)), r3, q3, fun w h4 q4 vw H4 t4 r4 rw' => ?_⟩
    refine hi' y w h4 _ vy vw H4 _ q4 r4 (ry.mono (t3.trans t4)) rw' ?_
    rintro d h5 ⟨k, rfl, q5⟩ v H5 t5 r5 rv
    rw [rv.bl]
    exact ⟨k, rfl, f k h5 q5 H5 (t1.trans (t2.trans (t3.trans (t4.trans t5)))) r5⟩
  | false =>
    obtain ⟨k, e, q3⟩ := q3
    cases e
    exact ⟨false, rfl, f false h3 q3 H3 (t1.trans (t2.trans t3)) r3⟩
/-- a built-in by its name -/
theorem ie_callB {x : Str} {n : String} {rA : MRA} {p : Pos} (ho : CaM X (.builtin n) rA) (hg : Gl X x) (hm : X.mg x = none) (hv : bootBuiltins x = some (.builtin n)) (ha : IA X Hb (e :: es) ms)
    (hdb : (x == ("__debug__" : Str)) = false := by decide) (hn : x ≠ "__name__" := by decide)
    (hs : starEach (e :: es) X.env = (false, eval e X.env) :: starEach es X.env := by rfl) (hpl : (backTo pos (starEach es X.env)).any (·.1) = false := by rfl) : IE X Hb (.Call (.Name x p) (e :: es) [] pos) (mCa rA ms) := by
  obtain ⟨R, hR, hi⟩ := ho
  refine pe_w (pe_callB hR hg hm hv ha hn hdb hs hpl) fun σ H Q ⟨env, h, Q0, re, rh, m, f⟩ => ?_
  exact ⟨env, h, _, re, rh, m, fun xs h1 q1 vs H1 t1 r1 rs => hi xs h1 Q0 vs H1 Q q1 r1 rs (Fin.mono t1 f)⟩
theorem ie_callTy {x : Str} {n : String} {rA : MRA} {p : Pos} (ho : CaM X (.type n) rA) (hg : Gl X x) (hm : X.mg x = none) (hv : bootBuiltins x = some (.type n)) (ha : IA X Hb (e :: es) ms)
    (hdb : (x == ("__debug__" : Str)) = false := by decide) (hn : x ≠ "__name__" := by decide)
    (hs : starEach (e :: es) X.env = (false, eval e X.env) :: starEach es X.env := by rfl) (hpl : (backTo pos (starEach es X.env)).any (·.1) = false := by rfl) : IE X Hb (.Call (.Name x p) (e :: es) [] pos) (mCa rA ms) := by
  obtain ⟨R, hR, hi⟩ := ho
  refine pe_w (pe_callTy hR hg hm hv ha hn hdb hs hpl) fun σ H Q ⟨env, h, Q0, re, rh, m, f⟩ => ?_
  exact ⟨env, h, _, re, rh, m, fun xs h1 q1 vs H1 t1 r1 rs => hi xs h1 Q0 vs H1 Q q1 r1 rs (Fin.mono t1 f)⟩
end
end M

namespace M
open PySem PyProof.Rows L2
/-! ### new tuples, told with their objects -/
def rCatN (K : PySem.W.Frag) : R2 := fun x y H Q => ∃ a b xs ys, x = .ref a ∧ y = .ref b ∧ SqT K H a xs ∧ SqT K H b ys ∧ xs.length + ys.length ≤ sizeLine ∧
  (xs = [] → Q (.ref b) H) ∧ (xs ≠ [] → ys = [] → Q (.ref a) H) ∧ (xs ≠ [] → ys ≠ [] → ∀ p od, H p = none → od.dict = none → Q (.ref p) (upd H p (.frz od (.tup (xs ++ ys)))))
theorem op_catN {X : Cx} : OpR X (binaryOp .Add) (rCatN X.K) := by
  intro pins s σ H x y v u Q I rx ry h
  obtain ⟨a, b, xs, ys, rfl, rfl, ha, hb, hz, q0, q1, q2⟩ := h
  by_cases hx : xs = []
  · exact op_catA pins s σ H _ _ v u Q I rx ry ⟨a, b, xs, ys, rfl, rfl, ha, hb, hz, q0, q1, fun z => absurd hx z⟩
  · cases rx
    cases ry
    obtain ⟨its, r1, p1, _⟩ := I.tuple ha
    obtain ⟨its2, r2, p2, _⟩ := I.tuple hb
    refine HT.cat_tup p1 p2 (fun z => hx (r1.nil_iff.mp z)) (fun z => ⟨.ref a, H, I, rfl, q1 hx (r2.nil_iff.mp z)⟩) (fun z => ?_) (by rw [← r1.length, ← r2.length]; exact hz)
    exact ⟨.ref s.heap.objs.size, _, I.laid (t' := s.toks) (fun b ob q => Heap.get?_push_of_some _ q) (Nat.le_refl _) (okN (by rw [List.length_append]; exact hz) (r1.append r2)), rfl, q2 hx (fun w => z (r2.nil_iff.mpr w)) _ _ (I.hok.fresh (Nat.le_refl _)) rfl⟩
def rSlN (K : PySem.W.Frag) : V → Option Int → Option Int → Hp → VK → Prop := fun x lo hi H Q => ∃ a xs, x = .ref a ∧ SqT K H a xs ∧
  (HT.sIx xs.length 0 lo = 0 ∧ HT.sIx xs.length xs.length hi = xs.length → Q (.ref a) H) ∧ (¬ (HT.sIx xs.length 0 lo = 0 ∧ HT.sIx xs.length xs.length hi = xs.length) → ∀ p od, H p = none → od.dict = none → Q (.ref p) (upd H p (.frz od (.tup (cutV xs lo hi)))))
theorem sl_tupN {X : Cx} : SlR X (rSlN X.K) := by
  intro pins s σ H x v vl vu lo hi sl Q I rx hs pl pu h
  obtain ⟨a, xs, rfl, hx, q1, q2⟩ := h
  by_cases hw : HT.sIx xs.length 0 lo = 0 ∧ HT.sIx xs.length xs.length hi = xs.length
  · exact sl_tupA pins s σ H _ v vl vu lo hi sl Q I rx hs pl pu ⟨a, xs, rfl, hx, q1, fun z => absurd hw z⟩
  · cases rx
    obtain ⟨its, r, ht, hz⟩ := I.tuple hx
    have hlen : its.toArray.size = xs.length := by rw [List.size_toArray]; exact r.length.symm
    refine ⟨"tuple", _, PyProof.Rows.slot_tuple_getitem.lookup, ht.typeIs, ?_⟩
    refine HT.getItem_tuple_cut ht hs pl pu (by rw [hlen]; exact hw) ?_ (by rw [hlen]; exact hz)
    rw [hlen]
    exact ⟨.ref s.heap.objs.size, _, I.laid (t' := s.toks) (fun b ob q => Heap.get?_push_of_some _ q) (Nat.le_refl _) (okN (Nat.le_trans (cutV_length xs lo hi) hz) ((r.drop (HT.sIx xs.length 0 lo)).take (HT.sIx xs.length xs.length hi - HT.sIx xs.length 0 lo))), rfl, q2 hw _ _ (I.hok.fresh (Nat.le_refl _)) rfl⟩
theorem call_tupleN {X : Cx} : CallR X (.type "tuple") (fun xs H Q => ∃ p ys, xs = [.ref p] ∧ ((SqL X.K H p ys ∧ ∀ l od, H l = none → od.dict = none → Q (.ref l) (upd H l (.frz od (.tup ys)))) ∨ (SqT X.K H p ys ∧ Q (.ref p) H))) := by
  intro pins s σ H xs us Q I r h
  obtain ⟨p, ys, rfl, h⟩ := h
  obtain ⟨u, rfl, rx⟩ := vals1 r
  cases rx
  rcases h with ⟨hq, q⟩ | ⟨hq, q⟩
  · obtain ⟨its, r', pl, hz⟩ := I.list hq
    have hlen := r'.length
    refine call_tuple_list pl.isList (fun h' kp => ?_) (by simp only [List.size_toArray] <;> omega)
    have I1 : Inv X pins σ H { s with heap := h' } := I.kept (t' := s.toks) kp
    exact ⟨.ref h'.objs.size, _, I1.laid (t' := s.toks) (fun b o e => Heap.get?_push_of_some _ e) (Nat.le_refl _) (okN hz r'), rfl, q _ _ (I1.hok.fresh (Nat.le_refl _)) rfl⟩
  · obtain ⟨its, r', pl, hz⟩ := I.tuple hq
    exact call_tuple_same pl ⟨.ref p, H, I, rfl, q⟩
/-! ### operators -/
def DivOk (j : Int) : Prop := 0 < j ∧ j.natAbs.log2 < 9000
def DivOkN (j : Int) : Prop := j ≠ 0 ∧ j.natAbs.log2 < 9000
def MulOk (i j : Int) : Prop := CMul i j ∨ CMulX i j
theorem divOk {j : Int} (h : 0 < j) (h2 : j < 2 ^ 200) : DivOk j := ⟨h, by
  have h3 : j.natAbs < 2 ^ 200 := by omega
  exact Nat.lt_of_lt_of_le (PySem.Flt.log2_lt_of (by decide) h3) (by decide)⟩
theorem mulOkL {i j : Int} (h : -(2 ^ 64) < i) (h2 : i < 2 ^ 64) : MulOk i j := .inl (.inl ⟨h, h2⟩)
theorem mulOkR {i j : Int} (h : -(2 ^ 64) < j) (h2 : j < 2 ^ 64) : MulOk i j := .inl (.inr ⟨h, h2⟩)
theorem mulOkX {i j : Int} {a b : Nat} (ha : i.natAbs < 2 ^ a) (hb : j.natAbs < 2 ^ b) (h : a + b ≤ 134217728) : MulOk i j := .inr (mulx_ok ha hb h)
def rAdd : MR2 := fun x y h Q => match x, y with
  | .int i, .int j => Q (.int (i + j)) h
  | .str i, .str j => i.length + j.length ≤ sizeLine ∧ Q (.str (i ++ j)) h
  | .tup i, .tup j => i.length + j.length ≤ sizeLine ∧ Q (.tup (i ++ j)) h
  | .ref a, .ref b => ∃ xs ys, h a = some (.lst xs) ∧ h b = some (.lst ys) ∧ xs.length + ys.length ≤ sizeLine ∧ ∀ p, h p = none → Q (.ref p) (up h p (.lst (xs ++ ys)))
  | _, _ => False
def rSub : MR2 := fun x y h Q => match x, y with
  | .int i, .int j => Q (.int (i - j)) h
  | _, _ => False
def rMul : MR2 := fun x y h Q => match x, y with
  | .int i, .int j => MulOk i j ∧ Q (.int (i * j)) h
  | .ref a, .int k => ∃ xs, h a = some (.lst xs) ∧ -(2 ^ 63) ≤ k ∧ k < 2 ^ 63 ∧ xs.length * k.toNat ≤ sizeLine ∧ ∀ p, h p = none → Q (.ref p) (up h p (.lst (List.replicate k.toNat xs).flatten))
  | _, _ => False
def rFdiv : MR2 := fun x y h Q => match x, y with
  | .int i, .int j => DivOk j ∧ Q (.int (i / j)) h
  | _, _ => False
def rFdivN : MR2 := fun x y h Q => match x, y with
  | .int i, .int j => DivOkN j ∧ Q (.int (i.fdiv j)) h
  | _, _ => False
def rMod : MR2 := fun x y h Q => match x, y with
  | .int i, .int j => 0 < j ∧ Q (.int (i % j)) h
  | _, _ => False
def rModN : MR2 := fun x y h Q => match x, y with
  | .int i, .int j => j ≠ 0 ∧ Q (.int (i.fmod j)) h
  | _, _ => False
def rPow : MR2 := fun x y h Q => match x, y with
  | .int i, .int j => CPow i j ∧ Q (.int (i ^ j.toNat)) h
  | _, _ => False
def rShl : MR2 := fun x y h Q => match x, y with
  | .int i, .int j => CPow i j ∧ Q (.int (i * 2 ^ j.toNat)) h
  | _, _ => False
def rNeg : MR1 := fun x h Q => match x with
  | .int i => Q (.int (-i)) h
  | _ => False
def rLtI : MR2 := fun x y h Q => match x, y with
  | .int i, .int j => Q (.bl (decide (i < j))) h
  | _, _ => False
def rLeI : MR2 := fun x y h Q => match x, y with
  | .int i, .int j => Q (.bl (decide (i ≤ j))) h
  | _, _ => False
def rGtI : MR2 := fun x y h Q => match x, y with
  | .int i, .int j => Q (.bl (decide (j < i))) h
  | _, _ => False
def rGeI : MR2 := fun x y h Q => match x, y with
  | .int i, .int j => Q (.bl (decide (j ≤ i))) h
  | _, _ => False
section
variable {X : Cx}
theorem fin_at {K : PySem.W.Frag} {H : Hp} {Q0 : MQ} {Q : VK} {d : D} {h : MH} {v : V} (f : Fin K H Q0 Q) (q : Q0 d h) (rh : HR K h H) (r : RV K H d v) : Q v H := f d h q v H (.refl H) rh r
/-- two ints -/
theorem opI2 {f : Value → Value → Sem Value} {C : Int → Int → Prop} {g : Int → Int → V} {g' : Int → Int → D} {r : MR2} (ho : OpR X f (rI C g)) (hg : ∀ i j H, RV X.K H (g' i j) (g i j))
    (hr : ∀ x y h Q, r x y h Q → ∃ i j, x = .int i ∧ y = .int j ∧ C i j ∧ Q (g' i j) h) : OpM X f r := by
  refine ⟨_, ho, fun x y h Q0 vx vy H Q q rh rx ry f => ?_⟩
  obtain ⟨i, j, rfl, rfl, c, q2⟩ := hr x y h Q0 q
  rw [rx.int, ry.int]
  exact ⟨i, j, rfl, rfl, c, fin_at f q2 rh (hg i j H)⟩
theorem opI20 {f : Value → Value → Sem Value} {g : Int → Int → V} {g' : Int → Int → D} {r : MR2} (ho : OpR X f (rI0 g)) (hg : ∀ i j H, RV X.K H (g' i j) (g i j))
    (hr : ∀ x y h Q, r x y h Q → ∃ i j, x = .int i ∧ y = .int j ∧ Q (g' i j) h) : OpM X f r := by
  refine ⟨_, ho, fun x y h Q0 vx vy H Q q rh rx ry f => ?_⟩
  obtain ⟨i, j, rfl, rfl, q2⟩ := hr x y h Q0 q
  rw [rx.int, ry.int]
  exact ⟨i, j, rfl, rfl, fin_at f q2 rh (hg i j H)⟩
theorem om_sub : OpM X (binaryOp .Sub) rSub := opI20 op_sub (fun _ _ _ => rv_int) fun x y h Q q => by
  cases x <;> cases y <;> first | exact q.elim | exact ⟨_, _, rfl, rfl, q⟩
theorem om_mod : OpM X (binaryOp .Mod) rMod := opI2 op_mod (fun _ _ _ => rv_int) fun x y h Q q => by
  cases x <;> cases y <;> first | exact q.elim | exact ⟨_, _, rfl, rfl, q.1, q.2⟩
theorem om_modN : OpM X (binaryOp .Mod) rModN := opI2 op_modN (fun _ _ _ => rv_int) fun x y h Q q => by
  cases x <;> cases y <;> first | exact q.elim | exact ⟨_, _, rfl, rfl, q.1, q.2⟩
theorem om_pow : OpM X (binaryOp .Pow) rPow := opI2 op_pow (fun _ _ _ => rv_int) fun x y h Q q => by
  cases x <;> cases y <;> first | exact q.elim | exact ⟨_, _, rfl, rfl, q.1, q.2⟩
theorem om_shl : OpM X (binaryOp .LShift) rShl := opI2 op_shl (fun _ _ _ => rv_int) fun x y h Q q => by
  cases x <;> cases y <;> first | exact q.elim | exact ⟨_, _, rfl, rfl, q.1, q.2⟩
theorem om_fdiv : OpM X (binaryOp .FloorDiv) rFdiv := opI2 (C := CDivW) op_fdivW (fun _ _ _ => rv_int) fun x y h Q q => by
  cases x <;> cases y <;> first | exact q.elim | exact ⟨_, _, rfl, rfl, q.1, q.2⟩
theorem op_fdivNW : OpR X (binaryOp .FloorDiv) (rI (fun _ j => DivOkN j) fun i j => .int (i.fdiv j)) := opI fun i j _ _ _ _ _ hc q => PyProof.Rows.floordiv_int hc.1 q (.inl (PyProof.noPylong_of_log2 hc.2))
theorem om_fdivN : OpM X (binaryOp .FloorDiv) rFdivN := opI2 op_fdivNW (fun _ _ _ => rv_int) fun x y h Q q => by
  cases x <;> cases y <;> first | exact q.elim | exact ⟨_, _, rfl, rfl, q.1, q.2⟩
theorem om_ltI : OpM X (compareOp .Lt) rLtI := opI20 op_lt (fun _ _ _ => rv_bl) fun x y h Q q => by
  cases x <;> cases y <;> first | exact q.elim | exact ⟨_, _, rfl, rfl, q⟩
theorem om_leI : OpM X (compareOp .LtE) rLeI := opI20 op_le (fun _ _ _ => rv_bl) fun x y h Q q => by
  cases x <;> cases y <;> first | exact q.elim | exact ⟨_, _, rfl, rfl, q⟩
theorem om_gtI : OpM X (compareOp .Gt) rGtI := opI20 op_gt (fun _ _ _ => rv_bl) fun x y h Q q => by
  cases x <;> cases y <;> first | exact q.elim | exact ⟨_, _, rfl, rfl, q⟩
theorem om_geI : OpM X (compareOp .GtE) rGeI := opI20 op_ge (fun _ _ _ => rv_bl) fun x y h Q q => by
  cases x <;> cases y <;> first | exact q.elim | exact ⟨_, _, rfl, rfl, q⟩
theorem um_neg : UnM X (unaryOp .USub) rNeg := ⟨_, un_neg, fun x h Q0 vx H Q q rh rx f => by
  cases x <;> first | exact q.elim | skip
  rw [rx.int]
  exact ⟨_, rfl, fin_at f q rh rv_int⟩⟩
theorem om_add : OpM X (binaryOp .Add) rAdd := by
  refine ⟨_, (op_add.or op_add_str).or (op_catN.or op_cat), fun x y h Q0 vx vy H Q q rh rx ry f => ?_⟩
  cases x <;> cases y <;> first | exact q.elim | skip
  · rw [rx.int, ry.int]
    exact .inl (.inl ⟨_, _, rfl, rfl, fin_at f q rh rv_int⟩)
  · rw [rx.str, ry.str]
    exact .inl (.inr ⟨_, _, rfl, rfl, q.1, fin_at f q.2 rh rv_str⟩)
  · rename_i xs ys
    obtain ⟨a, vs, rfl, ta, rs⟩ := rx.tupN
    obtain ⟨b, ws, rfl, tb, rt⟩ := ry.tupN
    refine .inr (.inl ⟨a, b, vs, ws, rfl, rfl, ta.t, tb.t, by rw [← rs.length, ← rt.length]; exact q.1, fun e => ?_, fun e e2 => ?_, fun e e2 p od np nd => ?_⟩)
    · subst e
      have e0 : xs = [] := List.eq_nil_of_length_eq_zero rs.length
      subst e0
      exact fin_at f q.2 rh (rv_tup tb rt)
    · subst e2
      have e0 : ys = [] := List.eq_nil_of_length_eq_zero rt.length
      subst e0
      have q2 := q.2
      rw [List.append_nil] at q2
      exact fin_at f q2 rh (rv_tup ta rs)
    · exact f _ h q.2 _ _ (.new np) (rh.skip np) (rv_tup (.of upd_same nd) ((rs.append rt).mono (.new np)))
  · obtain ⟨xs, ys, e1, e2, z, q⟩ := q
    rw [rx.ref, ry.ref]
    obtain ⟨vs, E1, r1⟩ := rh.lst e1
    obtain ⟨ws, E2, r2⟩ := rh.lst e2
    refine .inr (.inr ⟨_, _, vs, ws, rfl, rfl, E1, E2, by rw [← r1.length, ← r2.length]; exact z, fun p np => ?_⟩)
    exact f _ _ (q p (rh.free np)) _ _ (.new np) (rh.new np ⟨_, rfl, r1.append r2⟩) rv_ref
theorem RVs.rep {K : PySem.W.Frag} {H : Hp} {ds : List D} {vs : List V} (h : RVs K H ds vs) : ∀ k : Nat, RVs K H (List.replicate k ds).flatten (List.replicate k vs).flatten
  | 0 => .nil
  | k + 1 => by
    rw [List.replicate_succ, List.replicate_succ, List.flatten_cons, List.flatten_cons]
    exact h.append (h.rep k)
theorem om_mul : OpM X (binaryOp .Mult) rMul := by
  refine ⟨_, (op_mul.or op_mulX).or op_rep, fun x y h Q0 vx vy H Q q rh rx ry f => ?_⟩
  cases x <;> cases y <;> first | exact q.elim | skip
  · rw [rx.int, ry.int]
    rcases q.1 with c | c
    · exact .inl (.inl ⟨_, _, rfl, rfl, c, fin_at f q.2 rh rv_int⟩)
    · exact .inl (.inr ⟨_, _, rfl, rfl, c, fin_at f q.2 rh rv_int⟩)
  · obtain ⟨xs, e1, k1, k2, z, q⟩ := q
    rw [rx.ref, ry.int]
    obtain ⟨vs, E1, r1⟩ := rh.lst e1
    refine .inr ⟨_, _, vs, rfl, rfl, E1, k1, k2, by rw [← r1.length]; exact z, fun p np => ?_⟩
    exact f _ _ (q p (rh.free np)) _ _ (.new np) (rh.new np ⟨_, rfl, r1.rep _⟩) rv_ref
end
/-! ### subscripts -/
def rIx : MR2 := fun x y h Q => match x, y with
  | .tup ds, .int i => ∃ d, atI ds i = some d ∧ Q d h
  | .tw ds, .int i => ∃ d, atI ds i = some d ∧ Q d h
  | .rl ds, .int i => ∃ d, atI ds i = some d ∧ Q d h
  | .str z, .int i => z.length ≤ sizeLine ∧ ∃ c, atI z.cps.toList i = some c ∧ Q (.str ⟨#[c]⟩) h
  | .ref a, .int i => ∃ ds, h a = some (.lst ds) ∧ ∃ d, atI ds i = some d ∧ Q d h
  | _, _ => False
theorem RVs.atI {K : PySem.W.Frag} {H : Hp} {ds : List D} {vs : List V} {i : Int} {d : D} (h : RVs K H ds vs) (e : L2.atI ds i = some d) : ∃ v, L2.atI vs i = some v ∧ RV K H d v := by
  unfold L2.atI at e ⊢
  rw [← h.length]
  cases c : ixN ds.length i with
  | none => rw [c] at e; cases e
  | some j =>
    rw [c] at e
    obtain ⟨v, e1, r⟩ := h.get (show ds[j]? = some d from e)
    exact ⟨v, e1, r⟩
theorem ix_m {X : Cx} : IxM X rIx := by
  refine ⟨_, ix_seq, fun x y h Q0 vx vy H Q q rh rx ry f => ?_⟩
  cases x <;> cases y <;> first | exact q.elim | skip
  · obtain ⟨z, c, e, q⟩ := q
    rw [rx.str, ry.int]
    exact .inr (.inr ⟨_, _, c, rfl, rfl, z, e, fin_at f q rh rv_str⟩)
  · obtain ⟨d, e, q⟩ := q
    obtain ⟨a, vs, rfl, ta, rs⟩ := rx.tup
    rw [ry.int]
    obtain ⟨v, e1, r⟩ := rs.atI e
    exact .inr (.inl ⟨a, vs, _, v, rfl, rfl, ta, e1, fin_at f q rh r⟩)
  · obtain ⟨d, e, q⟩ := q
    obtain ⟨a, vs, rfl, ta, rs⟩ := rx.tw
    rw [ry.int]
    obtain ⟨v, e1, r⟩ := rs.atI e
    exact .inr (.inl ⟨a, vs, _, v, rfl, rfl, ta, e1, fin_at f q rh r⟩)
  · obtain ⟨d, e, q⟩ := q
    obtain ⟨a, vs, rfl, ta, rs⟩ := rx.rl
    rw [ry.int]
    obtain ⟨v, e1, r⟩ := rs.atI e
    exact .inl ⟨a, vs, _, v, rfl, rfl, ta.l, e1, fin_at f q rh r⟩
  · obtain ⟨ds, e0, d, e, q⟩ := q
    rw [rx.ref, ry.int]
    obtain ⟨vs, E, rs⟩ := rh.lst e0
    obtain ⟨v, e1, r⟩ := rs.atI e
    exact .inl ⟨_, vs, _, v, rfl, rfl, .of E, e1, fin_at f q rh r⟩
/-! ### slices -/
abbrev MTO := ME → MH → (Option Int → MH → Prop) → Prop
def mNo : MTO := fun _ h Q => Q none h
def mPart (a : MTE) : MTO := fun env h Q => a env h fun x h1 => ∃ i, x = .int i ∧ Q (some i) h1
def liftO (K : PySem.W.Frag) (Hb : Hp) (m : MTO) : TO := fun σ H Q => ∃ env h, ∃ Q0 : Option Int → MH → Prop, REnv K Hb H env σ ∧ HR K h H ∧ m env h Q0 ∧ ∀ d h', Q0 d h' → ∀ H', TL H H' → HR K h' H' → Q d H'
def IO (X : Cx) (Hb : Hp) (e : Option Expr) (m : MTO) : Prop := PO X e (liftO X.K Hb m)
theorem po_w {X : Cx} {e : Option Expr} {t t' : TO} (h : PO X e t) (w : ∀ σ H Q, t' σ H Q → t σ H Q) : PO X e t' := ⟨fun pins s σ H Q I q => h.run pins s σ H Q I (w σ H Q q)⟩
def cutD (xs : List D) (lo hi : Option Int) : List D := (xs.drop (HT.sIx xs.length 0 lo)).take (HT.sIx xs.length xs.length hi - HT.sIx xs.length 0 lo)
theorem RVs.cut {K : PySem.W.Frag} {H : Hp} {ds : List D} {vs : List V} (h : RVs K H ds vs) (lo hi : Option Int) : RVs K H (cutD ds lo hi) (cutV vs lo hi) := by
  unfold cutD cutV
  rw [h.length]
  exact (h.drop _).take _
abbrev MRS := D → Option Int → Option Int → MH → MQ → Prop
def rSl : MRS := fun x lo hi h Q => match x with
  | .tup ds => Q (.tup (cutD ds lo hi)) h
  | .rl ds => ∀ p, h p = none → Q (.ref p) (up h p (.lst (cutD ds lo hi)))
  | .ref a => ∃ ds, h a = some (.lst ds) ∧ ∀ p, h p = none → Q (.ref p) (up h p (.lst (cutD ds lo hi)))
  | _ => False
def mSl (r : MRS) (a : MTE) (l u : MTO) : MTE := fun env h Q => a env h fun x h1 => l env h1 fun lo h2 => u env h2 fun hi h3 => r x lo hi h3 Q
theorem io_none {X : Cx} {Hb : Hp} : IO X Hb none mNo := po_w po_none fun σ H Q ⟨env, h, Q0, re, rh, m, f⟩ => f none h m H (.refl H) rh
theorem io_some {X : Cx} {Hb : Hp} {e : Expr} {me : MTE} (he : IE X Hb e me) : IO X Hb (some e) (mPart me) := by
  refine po_w (po_some he) fun σ H Q ⟨env, h, Q0, re, rh, m, f⟩ => ?_
  refine ⟨env, h, _, re, rh, m, ?_⟩
  rintro d h1 ⟨i, rfl, q⟩ v H1 t1 r1 rv
  rw [rv.int]
  exact ⟨i, rfl, f _ h1 q H1 t1 r1⟩
theorem cut_all {xs : List D} {lo hi : Option Int} (h1 : HT.sIx xs.length 0 lo = 0) (h2 : HT.sIx xs.length xs.length hi = xs.length) : cutD xs lo hi = xs := by
  unfold cutD
  rw [h1, h2, List.drop_zero, Nat.sub_zero, List.take_length]
theorem ie_slice {X : Cx} {Hb : Hp} {e : Expr} {lo hi : Option Expr} {me : MTE} {ml mh : MTO} {p2 pos : Pos} (he : IE X Hb e me) (hl : IO X Hb lo ml) (hu : IO X Hb hi mh) : IE X Hb (.Subscript e (.Slice lo hi none p2) pos) (mSl rSl me ml mh) := by
  refine pe_w (pe_slice (sl_tupN.or sl_list) he hl hu) fun σ H Q ⟨env, h, Q0, re, rh, m, f⟩ => ?_
  refine ⟨env, h, _, re, rh, m, fun x h1 q1 vx H1 t1 r1 rx => ?_⟩
  refine ⟨env, h1, _, re.mono t1, r1, q1, fun l h2 q2 H2 t2 r2 => ?_⟩
  refine ⟨env, h2, _, re.mono (t1.trans t2), r2, q2, fun u h3 q3 H3 t3 r3 => ?_⟩
  have f3 := Fin.mono (t1.trans (t2.trans t3)) f
  have rx3 := rx.mono (t2.trans t3)
  cases x <;> first | exact q3.elim | skip
  · obtain ⟨a, vs, rfl, ta, rs⟩ := rx3.tupN
    refine .inl ⟨a, vs, rfl, ta.t, fun ⟨z1, z2⟩ => ?_, fun z p od np nd => ?_⟩
    · rw [← rs.length] at z1 z2
      have q4 : Q0 (.tup (cutD _ l u)) h3 := q3
      rw [cut_all z1 z2] at q4
      exact fin_at f3 q4 r3 (rv_tup ta rs)
    · exact f3 _ h3 q3 _ _ (.new np) (r3.skip np) (rv_tup (.of upd_same nd) ((rs.cut l u).mono (.new np)))
  · obtain ⟨a, vs, rfl, ta, rs⟩ := rx3.rl
    exact .inr ⟨a, vs, rfl, ta.l, fun p np => f3 _ _ (q3 p (r3.free np)) _ _ (.new np) (r3.new np ⟨_, rfl, rs.cut l u⟩) rv_ref⟩
  · obtain ⟨ds, e, q3⟩ := q3
    rw [rx3.ref]
    obtain ⟨vs, E, rs⟩ := r3.lst e
    exact .inr ⟨_, vs, rfl, .of E, fun p np => f3 _ _ (q3 p (r3.free np)) _ _ (.new np) (r3.new np ⟨_, rfl, rs.cut l u⟩) rv_ref⟩
/-! ### built-ins -/
def rLen : MRA := fun xs h Q => match xs with
  | [.tup ds] => Q (.int ds.length) h
  | [.rl ds] => Q (.int ds.length) h
  | [.str z] => z.length ≤ sizeLine ∧ Q (.int z.length) h
  | [.ref a] => ∃ ds, h a = some (.lst ds) ∧ Q (.int ds.length) h
  | _ => False
def rAbs : MRA := fun xs h Q => match xs with
  | [.int i] => Q (.int (if i < 0 then -i else i)) h
  | _ => False
def rMax2 : MRA := fun xs h Q => match xs with
  | [.int i, .int j] => Q (.int (if j > i then j else i)) h
  | _ => False
def rMin2 : MRA := fun xs h Q => match xs with
  | [.int i, .int j] => Q (.int (if j < i then j else i)) h
  | _ => False
def rInt1 : MRA := fun xs h Q => match xs with
  | [.int i] => Q (.int i) h
  | [.bl k] => Q (.int (if k then 1 else 0)) h
  | _ => False
def rStrI : MRA := fun xs h Q => match xs with
  | [.int i] => i.natAbs.log2 < 1920 ∧ Q (.str (toString i)) h
  | _ => False
def rTuple : MRA := fun xs h Q => match xs with
  | [.tup ds] => Q (.tup ds) h
  | [.rl ds] => Q (.tup ds) h
  | [.ref a] => ∃ ds, h a = some (.lst ds) ∧ Q (.tup ds) h
  | _ => False
def rList : MRA := fun xs h Q => match xs with
  | [.tup ds] => ∀ p, h p = none → Q (.ref p) (up h p (.lst ds))
  | [.rl ds] => ∀ p, h p = none → Q (.ref p) (up h p (.lst ds))
  | [.ref a] => ∃ ds, h a = some (.lst ds) ∧ ∀ p, h p = none → Q (.ref p) (up h p (.lst ds))
  | _ => False
def rSum : MRA := fun xs h Q => match xs with
  | [.ref a] => ∃ ns : List Int, h a = some (.lst (ns.map .int)) ∧ Q (.int ns.sum) h
  | _ => False
def rAll : MRA := fun xs h Q => match xs with
  | [.ref a] => ∃ ns : List Bool, h a = some (.lst (ns.map .bl)) ∧ Q (.bl (ns.all id)) h
  | _ => False
def rAny : MRA := fun xs h Q => match xs with
  | [.ref a] => ∃ ns : List Bool, h a = some (.lst (ns.map .bl)) ∧ Q (.bl (ns.any id)) h
  | _ => False
section
variable {X : Cx}
theorem list1 {α : Type} {p : α → Prop} {xs : List α} (h : ∃ x, xs = [x]) : True := trivial
theorem RVs.one {K : PySem.W.Frag} {H : Hp} {d : D} {vs : List V} (h : RVs K H [d] vs) : ∃ v, vs = [v] ∧ RV K H d v := by
  obtain ⟨v, r, rfl, q, t⟩ := h.inv
  rw [t.inv0]
  exact ⟨v, rfl, q⟩
theorem RVs.two {K : PySem.W.Frag} {H : Hp} {d e : D} {vs : List V} (h : RVs K H [d, e] vs) : ∃ v w, vs = [v, w] ∧ RV K H d v ∧ RV K H e w := by
  obtain ⟨v, r, rfl, q, t⟩ := h.inv
  obtain ⟨w, rfl, q2⟩ := t.one
  exact ⟨v, w, rfl, q, q2⟩
theorem cm_len : CaM X (.builtin "len") rLen := by
  refine ⟨_, call_len_seq.or call_len_str, fun xs h Q0 vs H Q q rh rs f => ?_⟩
  unfold rLen at q
  split at q
  · obtain ⟨v, rfl, rx⟩ := rs.one
    obtain ⟨a, vs, rfl, ta, rs⟩ := rx.tup
    exact .inl ⟨a, vs, rfl, .inr ta, by rw [← rs.length]; exact fin_at f q rh rv_int⟩
  · obtain ⟨v, rfl, rx⟩ := rs.one
    obtain ⟨a, vs, rfl, ta, rs⟩ := rx.rl
    exact .inl ⟨a, vs, rfl, .inl ta.l, by rw [← rs.length]; exact fin_at f q rh rv_int⟩
  · obtain ⟨v, rfl, rx⟩ := rs.one
    rw [rx.str]
    exact .inr ⟨_, rfl, q.1, fin_at f q.2 rh rv_int⟩
  · obtain ⟨v, rfl, rx⟩ := rs.one
    rw [rx.ref]
    obtain ⟨ds, e, q⟩ := q
    obtain ⟨vs, E, rs⟩ := rh.lst e
    exact .inl ⟨_, vs, rfl, .inl (.of E), by rw [← rs.length]; exact fin_at f q rh rv_int⟩
  · exact q.elim
theorem cm_abs : CaM X (.builtin "abs") rAbs := by
  refine ⟨_, call_abs, fun xs h Q0 vs H Q q rh rs f => ?_⟩
  unfold rAbs at q
  split at q
  · obtain ⟨v, rfl, rx⟩ := rs.one
    rw [rx.int]
    exact ⟨_, rfl, fin_at f q rh rv_int⟩
  · exact q.elim
theorem cm_max2 (hc : X.calm = true) : CaM X (.builtin "max") rMax2 := by
  refine ⟨_, call_max2 hc, fun xs h Q0 vs H Q q rh rs f => ?_⟩
  unfold rMax2 at q
  split at q
  · obtain ⟨v, w, rfl, rx, ry⟩ := rs.two
    rw [rx.int, ry.int]
    exact ⟨_, _, rfl, fin_at f q rh rv_int⟩
  · exact q.elim
theorem cm_min2 (hc : X.calm = true) : CaM X (.builtin "min") rMin2 := by
  refine ⟨_, call_min2 hc, fun xs h Q0 vs H Q q rh rs f => ?_⟩
  unfold rMin2 at q
  split at q
  · obtain ⟨v, w, rfl, rx, ry⟩ := rs.two
    rw [rx.int, ry.int]
    exact ⟨_, _, rfl, fin_at f q rh rv_int⟩
  · exact q.elim
theorem cm_int : CaM X (.type "int") rInt1 := by
  refine ⟨_, call_int1, fun xs h Q0 vs H Q q rh rs f => ?_⟩
  unfold rInt1 at q
  split at q
  · obtain ⟨v, rfl, rx⟩ := rs.one
    rw [rx.int]
    exact .inl ⟨_, rfl, fin_at f q rh rv_int⟩
  · obtain ⟨v, rfl, rx⟩ := rs.one
    rw [rx.bl]
    exact .inr ⟨_, rfl, fin_at f q rh rv_int⟩
  · exact q.elim
theorem cm_strI : CaM X (.type "str") rStrI := by
  refine ⟨_, call_str_int, fun xs h Q0 vs H Q q rh rs f => ?_⟩
  unfold rStrI at q
  split at q
  · obtain ⟨v, rfl, rx⟩ := rs.one
    rw [rx.int]
    exact ⟨_, rfl, q.1, fin_at f q.2 rh rv_str⟩
  · exact q.elim
theorem cm_tuple : CaM X (.type "tuple") rTuple := by
  refine ⟨_, call_tupleN, fun xs h Q0 vs H Q q rh rs f => ?_⟩
  unfold rTuple at q
  split at q
  · obtain ⟨v, rfl, rx⟩ := rs.one
    obtain ⟨a, vs, rfl, ta, rs⟩ := rx.tupN
    exact ⟨a, vs, rfl, .inr ⟨ta.t, fin_at f q rh (rv_tup ta rs)⟩⟩
  · obtain ⟨v, rfl, rx⟩ := rs.one
    obtain ⟨a, vs, rfl, ta, rs⟩ := rx.rl
    exact ⟨a, vs, rfl, .inl ⟨ta.l, fun p od np nd => f _ h q _ _ (.new np) (rh.skip np) (rv_tup (.of upd_same nd) (rs.mono (.new np)))⟩⟩
  · obtain ⟨v, rfl, rx⟩ := rs.one
    rw [rx.ref]
    obtain ⟨ds, e, q⟩ := q
    obtain ⟨vs, E, rs⟩ := rh.lst e
    exact ⟨_, vs, rfl, .inl ⟨.of E, fun p od np nd => f _ h q _ _ (.new np) (rh.skip np) (rv_tup (.of upd_same nd) (rs.mono (.new np)))⟩⟩
  · exact q.elim
theorem cm_list : CaM X (.type "list") rList := by
  refine ⟨_, call_list_of, fun xs h Q0 vs H Q q rh rs f => ?_⟩
  unfold rList at q
  split at q
  · obtain ⟨v, rfl, rx⟩ := rs.one
    obtain ⟨a, vs, rfl, ta, rs⟩ := rx.tup
    exact ⟨a, vs, rfl, .inr ta, fun p np => f _ _ (q p (rh.free np)) _ _ (.new np) (rh.new np ⟨_, rfl, rs⟩) rv_ref⟩
  · obtain ⟨v, rfl, rx⟩ := rs.one
    obtain ⟨a, vs, rfl, ta, rs⟩ := rx.rl
    exact ⟨a, vs, rfl, .inl ta.l, fun p np => f _ _ (q p (rh.free np)) _ _ (.new np) (rh.new np ⟨_, rfl, rs⟩) rv_ref⟩
  · obtain ⟨v, rfl, rx⟩ := rs.one
    rw [rx.ref]
    obtain ⟨ds, e, q⟩ := q
    obtain ⟨vs, E, rs⟩ := rh.lst e
    exact ⟨_, vs, rfl, .inl (.of E), fun p np => f _ _ (q p (rh.free np)) _ _ (.new np) (rh.new np ⟨_, rfl, rs⟩) rv_ref⟩
  · exact q.elim
theorem cm_sum (hc : X.calm = true) : CaM X (.builtin "sum") rSum := by
  refine ⟨_, cr_sum hc, fun xs h Q0 vs H Q q rh rs f => ?_⟩
  unfold rSum at q
  split at q
  · obtain ⟨v, rfl, rx⟩ := rs.one
    rw [rx.ref]
    obtain ⟨ds, e, q⟩ := q
    obtain ⟨vs, E, rs⟩ := rh.lst e
    rw [rs.ints] at E
    exact ⟨_, _, rfl, .of E, fin_at f q rh rv_int⟩
  · exact q.elim
theorem cm_all (hc : X.calm = true) : CaM X (.builtin "all") rAll := by
  refine ⟨_, cr_all hc, fun xs h Q0 vs H Q q rh rs f => ?_⟩
  unfold rAll at q
  split at q
  · obtain ⟨v, rfl, rx⟩ := rs.one
    rw [rx.ref]
    obtain ⟨ds, e, q⟩ := q
    obtain ⟨vs, E, rs⟩ := rh.lst e
    rw [rs.bls] at E
    exact ⟨_, _, rfl, .of E, fin_at f q rh rv_bl⟩
  · exact q.elim
theorem cm_any (hc : X.calm = true) : CaM X (.builtin "any") rAny := by
  refine ⟨_, cr_any hc, fun xs h Q0 vs H Q q rh rs f => ?_⟩
  unfold rAny at q
  split at q
  · obtain ⟨v, rfl, rx⟩ := rs.one
    rw [rx.ref]
    obtain ⟨ds, e, q⟩ := q
    obtain ⟨vs, E, rs⟩ := rh.lst e
    rw [rs.bls] at E
    exact ⟨_, _, rfl, .of E, fin_at f q rh rv_bl⟩
  · exact q.elim
end
end M

namespace M
open PySem L2
/-! ### targets: names and tuples of names -/
inductive Tg where
  | nm (i : Nat) | tp (ts : List Tg)
mutual
def asg : Tg → D → ME → Option ME
  | .nm i, d, env => some (env.set i (some d))
  | .tp ts, .tup ds, env => asgs ts ds env
  | .tp ts, .tw ds, env => asgs ts ds env
  | .tp _, _, _ => none
def asgs : List Tg → List D → ME → Option ME
  | [], [], env => some env
  | t :: ts, d :: ds, env => match asg t d env with
    | some env' => asgs ts ds env'
    | none => none
  | _, _, _ => none
end
mutual
def gT (K : PySem.W.Frag) : Tg → TG
  | .nm i => gName i
  | .tp ts => gTup K ts.length (gTs K ts)
def gTs (K : PySem.W.Frag) : List Tg → TGs
  | [] => gNil
  | t :: ts => gCons (gT K t) (gTs K ts)
end
mutual
def Tg.in (vs : List Nat) : Tg → Prop
  | .nm i => i ∈ vs
  | .tp ts => Tg.ins vs ts
def Tg.ins (vs : List Nat) : List Tg → Prop
  | [] => True
  | t :: ts => t.in vs ∧ Tg.ins vs ts
end
theorem asgs_len : ∀ {ts : List Tg} {ds : List D} {env env' : ME}, asgs ts ds env = some env' → ts.length = ds.length
  | [], [], _, _, _ => rfl
  | [], _ :: _, _, _, e => by simp [asgs] at e
  | _ :: _, [], _, _, e => by simp [asgs] at e
  | t :: ts, d :: ds, env, env', e => by
    simp only [asgs] at e
    split at e
    · rename_i x y
      rw [List.length_cons, List.length_cons, asgs_len e]
    · cases e
theorem wipe_set {σ : L2.St} {i : Nat} {x : Option V} : ∀ {vs : List Nat}, i ∈ vs → wipe (σ.set i x) vs = wipe σ vs
  | [], h => by cases h
  | v :: vs, h => by
    unfold wipe
    by_cases c : i ∈ vs
    · rw [wipe_set c]
    · have e : i = v := by
        rcases List.mem_cons.mp h with z | z
        · exact z
        · exact absurd z c
      subst e
      have : ∀ (ws : List Nat) (τ : L2.St), i ∉ ws → wipe (τ.set i x) ws = (wipe τ ws).set i x := fun ws => by
        induction ws with
        | nil => intro τ _; rfl
        | cons w ws ih =>
          intro τ hn
          unfold wipe
          rw [ih τ (fun z => hn (List.mem_cons_of_mem _ z)), List.set_comm _ _ (fun z => hn (by rw [z]; exact List.mem_cons_self))]
      rw [this vs σ c, List.set_set]
section
variable {K : PySem.W.Frag} {Hb H : Hp}
mutual
theorem gT_ok : ∀ {t : Tg} {d : D} {env env' : ME} {v : V} {σ : L2.St}, asg t d env = some env' → RV K H d v → REnv K Hb H env σ →
    ∃ σ', (∀ Q : L2.St → Hp → Prop, Q σ' H → gT K t v σ H Q) ∧ REnv K Hb H env' σ' ∧ ∀ vs, t.in vs → wipe σ' vs = wipe σ vs
  | .nm i, d, env, env', v, σ, e, r, re => by
    simp only [asg] at e
    cases e
    exact ⟨_, fun Q q => q, re.set i r, fun vs h => wipe_set h⟩
  | .tp ts, .tup ds, env, env', v, σ, e, r, re => by
    simp only [asg] at e
    obtain ⟨a, vs, rfl, ta, rs⟩ := r.tup
    obtain ⟨σ', h1, h2, h3⟩ := gTs_ok e rs re
    exact ⟨σ', fun Q q => ⟨a, vs, rfl, ta, by rw [asgs_len e, rs.length], h1 Q q⟩, h2, fun ws hw => h3 ws hw⟩
  | .tp ts, .tw ds, env, env', v, σ, e, r, re => by
    simp only [asg] at e
    obtain ⟨a, vs, rfl, ta, rs⟩ := r.tw
    obtain ⟨σ', h1, h2, h3⟩ := gTs_ok e rs re
    exact ⟨σ', fun Q q => ⟨a, vs, rfl, ta, by rw [asgs_len e, rs.length], h1 Q q⟩, h2, fun ws hw => h3 ws hw⟩
  | .tp ts, .non, _, _, _, _, e, _, _ => by simp [asg] at e
  | .tp ts, .bl _, _, _, _, _, e, _, _ => by simp [asg] at e
  | .tp ts, .int _, _, _, _, _, e, _, _ => by simp [asg] at e
  | .tp ts, .str _, _, _, _, _, e, _, _ => by simp [asg] at e
  | .tp ts, .rl _, _, _, _, _, e, _, _ => by simp [asg] at e
  | .tp ts, .ref _, _, _, _, _, e, _, _ => by simp [asg] at e
theorem gTs_ok : ∀ {ts : List Tg} {ds : List D} {env env' : ME} {xs : List V} {σ : L2.St}, asgs ts ds env = some env' → RVs K H ds xs → REnv K Hb H env σ →
    ∃ σ', (∀ Q : L2.St → Hp → Prop, Q σ' H → gTs K ts xs σ H Q) ∧ REnv K Hb H env' σ' ∧ ∀ vs, Tg.ins vs ts → wipe σ' vs = wipe σ vs
  | [], [], env, env', xs, σ, e, r, re => by
    simp only [asgs] at e
    cases e
    exact ⟨σ, fun Q q => ⟨r.inv0, q⟩, re, fun _ _ => rfl⟩
  | [], _ :: _, _, _, _, _, e, _, _ => by simp [asgs] at e
  | _ :: _, [], _, _, _, _, e, _, _ => by simp [asgs] at e
  | t :: ts, d :: ds, env, env', xs, σ, e, r, re => by
    simp only [asgs] at e
    split at e
    · rename_i env1 e1
      obtain ⟨v, ws, rfl, q, rs⟩ := r.inv
      obtain ⟨σ1, h1, h2, h3⟩ := gT_ok e1 q re
      obtain ⟨σ2, k1, k2, k3⟩ := gTs_ok e rs h2
      exact ⟨σ2, fun Q q => ⟨v, ws, rfl, h1 _ (k1 Q q)⟩, k2, fun vs hv => (k3 vs hv.2).trans (h3 vs hv.1)⟩
    · cases e
end
end
def IG (X : Cx) (e : Expr) (t : Tg) : Prop := PG X e (gT X.K t)
def IGs (X : Cx) (e : List Expr) (t : List Tg) : Prop := PGs X e (gTs X.K t)
section
variable {X : Cx} {Hb : Hp} {a b c e o : Expr} {es : List Expr} {ma mb mc me mo : MTE} {pos : Pos} {mt mu : MTT} {ms : MTA} {r r' : MR2} {s : Stmt} {ss : List Stmt} {m1 m2 : MTS}
theorem ig_name (i : Nat) {x : Str} (hN : X.N.Nodup) (hi : X.N[i]? = some x := by rfl) (hx : Loc X.env.scope x := by first | exact Or.inl rfl | exact Or.inr rfl) (hf : X.fn x = true ∨ X.env.scope.names.lookup x = some .local := by first | exact .inl rfl | exact .inr rfl | assumption) : IG X (.Name x pos) (.nm i) := by
  have h := pg_name (pos := pos) hN hi hx hf
  unfold IG; unfold gT; exact h
theorem ig_nil : IGs X [] [] := by unfold IGs; unfold gTs; exact pgs_nil
theorem ig_cons {t : Tg} {ts : List Tg} (h : IG X e t) (hs : IGs X es ts) (h1 : (assignEach (e :: es) X.env).map (·.2) = assign e X.env :: (assignEach es X.env).map (·.2) := by rfl) : IGs X (e :: es) (t :: ts) := by
  unfold IGs; unfold gTs; exact pgs_cons h hs h1
theorem ig_tup {k : Nat} {ts : List Tg} (hc : X.calm = true) (h : IGs X es ts) (hn : (assignEach es X.env).length = ts.length := by rfl) (hst : (assignEach es X.env).findIdx? (·.1) = none := by rfl) : IG X (.Tuple es k pos) (.tp ts) := by
  unfold IG; unfold gT; exact pg_tup hc h hn hst
/-! ### statements -/
def mNext : MTS := fun D' env h => D'.nx env h
def mSeq (a b : MTS) : MTS := fun D' env h => a { D' with nx := b D' } env h
def mBrk : MTS := fun D' env h => D'.bk env h
def mCt : MTS := fun D' env h => D'.ct env h
def mDrop (a : MTE) : MTS := fun D' env h => a env h fun _ h1 => D'.nx env h1
def mRet (a : MTE) : MTS := fun D' env h => a env h D'.rt
def mRetN : MTS := fun D' env h => D'.rt .non h
def mIf (c : MTT) (a b : MTS) : MTS := fun D' env h => c env h fun k h1 => if k = true then a D' env h1 else b D' env h1
def mAsg (a : MTE) (t : Tg) : MTS := fun D' env h => a env h fun d h1 => ∃ env', asg t d env = some env' ∧ D'.nx env' h1
def mSet (i : Nat) (a : MTE) : MTS := fun D' env h => a env h fun d h1 => D'.nx (env.set i (some d)) h1
abbrev MRSet := D → D → D → MH → (MH → Prop) → Prop
def mPut (r : MRSet) (a o i : MTE) : MTS := fun D' env h => a env h fun d h1 => o env h1 fun x h2 => i env h2 fun y h3 => r x y d h3 fun h4 => D'.nx env h4
def mPar (i j : Nat) (a b : MTE) : MTS := fun D' env h => a env h fun x h1 => b env h1 fun y h2 => D'.nx ((env.set i (some x)).set j (some y)) h2
def mAug (i : Nat) (r : MR2) (a : MTE) : MTS := fun D' env h => ∃ x, env[i]? = some (some x) ∧ a env h fun y h1 => r x y h1 fun z h2 => D'.nx (env.set i (some z)) h2
/-- ends -/
structure FinS (K : PySem.W.Frag) (Hb H : Hp) (D0 : MEnds) (D' : Ends) : Prop where
  nx : ∀ env' h', D0.nx env' h' → ∀ σ' H', TL H H' → REnv K Hb H' env' σ' → HR K h' H' → D'.nx σ' H'
  rt : ∀ d h', D0.rt d h' → ∀ v H', TL H H' → RV K H' d v → HR K h' H' → D'.rt v H'
  bk : ∀ env' h', D0.bk env' h' → ∀ σ' H', TL H H' → REnv K Hb H' env' σ' → HR K h' H' → D'.bk σ' H'
  ct : ∀ env' h', D0.ct env' h' → ∀ σ' H', TL H H' → REnv K Hb H' env' σ' → HR K h' H' → D'.ct σ' H'
theorem FinS.mono {K : PySem.W.Frag} {Hb H H' : Hp} {D0 : MEnds} {D' : Ends} (t : TL H H') (f : FinS K Hb H D0 D') : FinS K Hb H' D0 D' :=
  ⟨fun env' h' q σ' H2 t2 => f.nx env' h' q σ' H2 (t.trans t2), fun d h' q v H2 t2 => f.rt d h' q v H2 (t.trans t2), fun env' h' q σ' H2 t2 => f.bk env' h' q σ' H2 (t.trans t2), fun env' h' q σ' H2 t2 => f.ct env' h' q σ' H2 (t.trans t2)⟩
theorem liftS_iff {K : PySem.W.Frag} {m : MTS} {D' : Ends} {σ : L2.St} {H : Hp} : liftS K Hb m D' σ H ↔ ∃ env h D0, REnv K Hb H env σ ∧ HR K h H ∧ m D0 env h ∧ FinS K Hb H D0 D' :=
  ⟨fun ⟨env, h, D0, re, rh, m, f1, f2, f3, f4⟩ => ⟨env, h, D0, re, rh, m, f1, f2, f3, f4⟩, fun ⟨env, h, D0, re, rh, m, f⟩ => ⟨env, h, D0, re, rh, m, f.nx, f.rt, f.bk, f.ct⟩⟩
theorem is_of {t : TS} {m : MTS} (h : PS X s t) (w : ∀ D' σ H env h D0, REnv X.K Hb H env σ → HR X.K h H → m D0 env h → FinS X.K Hb H D0 D' → t D' σ H) : IS X Hb s m :=
  ps_w h fun D' σ H q => let ⟨env, hh, D0, re, rh, m, f⟩ := liftS_iff.mp q; w D' σ H env hh D0 re rh m f
theorem iss_of {t : TS} {m : MTS} (h : PSs X ss t) (w : ∀ D' σ H env h D0, REnv X.K Hb H env σ → HR X.K h H → m D0 env h → FinS X.K Hb H D0 D' → t D' σ H) : ISs X Hb ss m :=
  pss_w h fun D' σ H q => let ⟨env, hh, D0, re, rh, m, f⟩ := liftS_iff.mp q; w D' σ H env hh D0 re rh m f
theorem iss_nil : ISs X Hb [] mNext := iss_of pss_nil fun D' σ H env h D0 re rh m f => f.nx env h m σ H (.refl H) re rh
theorem iss_cons (h1 : IS X Hb s m1) (h2 : ISs X Hb ss m2) : ISs X Hb (s :: ss) (mSeq m1 m2) := by
  refine iss_of (pss_cons h1 h2) fun D' σ H env h D0 re rh m f => ?_
  refine liftS_iff.mpr ⟨env, h, _, re, rh, m, ?_, f.rt, f.bk, f.ct⟩
  exact fun env' h' q σ' H' t re' rh' => liftS_iff.mpr ⟨env', h', D0, re', rh', q, f.mono t⟩
theorem iss_one (h : IS X Hb s m1) : ISs X Hb [s] m1 := pss_one h
theorem is_pass : IS X Hb (.Pass pos) mNext := is_of ps_pass fun D' σ H env h D0 re rh m f => f.nx env h m σ H (.refl H) re rh
theorem is_break : IS X Hb (.Break pos) mBrk := is_of ps_break fun D' σ H env h D0 re rh m f => f.bk env h m σ H (.refl H) re rh
theorem is_continue : IS X Hb (.Continue pos) mCt := is_of ps_continue fun D' σ H env h D0 re rh m f => f.ct env h m σ H (.refl H) re rh
theorem is_expr (he : IE X Hb e me) (hs : swapsWith e none pos.line X.env = pure false := by rfl) : IS X Hb (.Expr e pos) (mDrop me) := by
  refine is_of (ps_expr he hs) fun D' σ H env h D0 re rh m f => ?_
  exact ⟨env, h, _, re, rh, m, fun d h1 q v H1 t1 r1 rv => f.nx env h1 q σ H1 t1 (re.mono t1) r1⟩
theorem is_ret (he : IE X Hb e me) : IS X Hb (.Return (some e) pos) (mRet me) := by
  refine is_of (ps_ret he) fun D' σ H env h D0 re rh m f => ?_
  exact ⟨env, h, _, re, rh, m, fun d h1 q v H1 t1 r1 rv => f.rt d h1 q v H1 t1 rv r1⟩
theorem is_retN : IS X Hb (.Return none pos) mRetN := is_of ps_retN fun D' σ H env h D0 re rh m f => f.rt .non h m .non H (.refl H) rv_non rh
theorem is_if {ss tt : List Stmt} (hc : IT X Hb c mt) (ha : ISs X Hb ss m1) (hb : ISs X Hb tt m2) : IS X Hb (.If c ss tt pos) (mIf mt m1 m2) := by
  refine is_of (ps_if hc ha hb) fun D' σ H env h D0 re rh m f => ?_
  refine ⟨env, h, _, re, rh, m, fun k h1 q1 H1 t1 r1 => ?_⟩
  cases k with
  | true => exact liftS_iff.mpr ⟨env, h1, D0, re.mono t1, r1, q1, f.mono t1⟩
  | false => exact liftS_iff.mpr ⟨env, h1, D0, re.mono t1, r1, q1, f.mono t1⟩
theorem is_asg {tg : Expr} {t : Tg} (he : IE X Hb e me) (hg : IG X tg t) (hs : swapsWithSole [tg] e pos.line X.env = pure false := by rfl) (hw : swappedStores [tg] e X.env = pure none := by rfl)
    (h1 : (assignEach [tg] X.env).map (·.2) = [assign tg X.env] := by rfl) : IS X Hb (.Assign [tg] e pos) (mAsg me t) := by
  refine is_of (ps_asg he hg hs hw h1) fun D' σ H env h D0 re rh m f => ?_
  refine ⟨env, h, _, re, rh, m, ?_⟩
  rintro d h1 ⟨env', e1, q⟩ v H1 t1 r1 rv
  obtain ⟨σ', k1, k2, _⟩ := gT_ok e1 rv (re.mono t1)
  exact k1 _ (f.nx env' h1 q σ' H1 t1 k2 r1)
theorem is_set (i : Nat) {x : Str} {pos' : Pos} (hN : X.N.Nodup) (he : IE X Hb e me) (hi : X.N[i]? = some x := by rfl) (hx : Loc X.env.scope x := by first | exact Or.inl rfl | exact Or.inr rfl)
    (hs : swapsWith e (some (.Name x pos')) pos.line X.env = pure false := by rfl) (hf : X.fn x = true ∨ X.env.scope.names.lookup x = some .local := by first | exact .inl rfl | exact .inr rfl | assumption) : IS X Hb (.Assign [.Name x pos'] e pos) (mSet i me) := by
  refine is_of (ps_set hN hi hx he hs hf) fun D' σ H env h D0 re rh m f => ?_
  exact ⟨env, h, _, re, rh, m, fun d h1 q v H1 t1 r1 rv => f.nx _ h1 q _ H1 t1 ((re.mono t1).set i rv) r1⟩
/-- o[i] = e -/
def SeM (X : Cx) (r : MRSet) : Prop := ∃ R : TSet, PSet X R ∧ ∀ (o i v : D) (h : MH) (Q0 : MH → Prop) (vo vi vv : V) (H : Hp) (Q : Hp → Prop), r o i v h Q0 → HR X.K h H → RV X.K H o vo → RV X.K H i vi → RV X.K H v vv →
  (∀ h', Q0 h' → ∀ H', TL H H' → HR X.K h' H' → Q H') → R vo vi vv H Q
theorem is_put {i : Expr} {mi : MTE} {rs : MRSet} {pos' : Pos} (hs : SeM X rs) (he : IE X Hb e me) (ho : IE X Hb o mo) (hi : IE X Hb i mi)
    (ha : ∀ v, assign (.Subscript o i pos') X.env v = (do
      let ov ← holding [v] (eval o X.env)
      let iv ← holding [v, ov] (eval i X.env)
      standAt pos'
      holding [v, ov, iv] (setItem ov iv v)
      release [v, ov, iv] []) := by intro _; rfl)
    (h2 : swapsWithSole [.Subscript o i pos'] e pos.line X.env = pure false := by rfl) (hw : swappedStores [.Subscript o i pos'] e X.env = pure none := by rfl)
    (h1 : (assignEach [.Subscript o i pos'] X.env).map (·.2) = [assign (.Subscript o i pos') X.env] := by rfl) : IS X Hb (.Assign [.Subscript o i pos'] e pos) (mPut rs me mo mi) := by
  obtain ⟨R, hR, hi'⟩ := hs
  refine is_of (ps_asg he (pg_sub ho hi hR ha) h2 hw h1) fun D' σ H env h D0 re rh m f => ?_
  refine ⟨env, h, _, re, rh, m, fun d h1 q1 v H1 t1 r1 rv => ?_⟩
  refine ⟨env, h1, _, re.mono t1, r1, q1, fun x h2 q2 vx H2 t2 r2 rx => ?_⟩
  refine ⟨env, h2, _, (re.mono t1).mono t2, r2, q2, fun y h3 q3 vy H3 t3 r3 ry => ?_⟩
  refine hi' x y d h3 _ vx vy v H3 _ q3 r3 (rx.mono t3) ry (rv.mono (t2.trans t3)) fun h4 q4 H4 t4 r4 => ?_
  have tt := t1.trans (t2.trans (t3.trans t4))
  exact f.nx env h4 q4 σ H4 tt (re.mono tt) r4
theorem is_par (i j : Nat) {x y : Str} {px py pt : Pos} {kt k2 pt2} (hc : X.calm = true) (hN : X.N.Nodup) (ha : IE X Hb a ma) (hb : IE X Hb b mb)
    (hi : X.N[i]? = some x := by rfl) (hj : X.N[j]? = some y := by rfl) (hij : i ≠ j := by decide)
    (hx : X.env.scope.names.lookup x = some .local := by rfl) (hy : X.env.scope.names.lookup y = some .local := by rfl)
    (hw : swappedStores [.Tuple [.Name x px, .Name y py] kt pt] (.Tuple [a, b] k2 pt2) X.env = pure (some [x, y]) := by rfl)
    (hs : swapsWithSole [.Tuple [.Name x px, .Name y py] kt pt] (.Tuple [a, b] k2 pt2) pos.line X.env = pure false := by rfl)
    (hA : starEach [a, b] X.env = (false, eval a X.env) :: starEach [b] X.env := by rfl) (hB : starEach [b] X.env = (false, eval b X.env) :: starEach [] X.env := by rfl) :
    IS X Hb (.Assign [.Tuple [.Name x px, .Name y py] kt pt] (.Tuple [a, b] k2 pt2) pos) (mPar i j ma mb) := by
  refine is_of (ps_par hc hN hi hj hij hx hy (ia_cons ha (ia_cons hb ia_nil hB) hA) hw hs) fun D' σ H env h D0 re rh m f => ?_
  refine ⟨env, h, (fun ds h1 => ∃ u w, ds = [u, w] ∧ D0.nx ((env.set i (some u)).set j (some w)) h1), re, rh, ?_, ?_⟩
  · show ma env h fun u h1 => mb env h1 fun w h2 => ∃ u' w', [u, w] = [u', w'] ∧ _
    have m' : ma env h fun x h1 => mb env h1 fun y h2 => D0.nx ((env.set i (some x)).set j (some y)) h2 := m
    have e : (fun u h1 => mb env h1 fun w h2 => ∃ u' w', [u, w] = [u', w'] ∧ D0.nx ((env.set i (some u')).set j (some w')) h2) = (fun x h1 => mb env h1 fun y h2 => D0.nx ((env.set i (some x)).set j (some y)) h2) := by
      funext u h1
      refine congrArg _ ?_
      funext w h2
      refine propext ⟨?_, fun q => ⟨u, w, rfl, q⟩⟩
      rintro ⟨u', w', z, q⟩
      cases z
      exact q
    rw [e]
    exact m'
  · rintro ds h1 ⟨u, w, rfl, q⟩ vs H1 t1 r1 rs
    obtain ⟨v1, v2, rfl, rx, ry⟩ := rs.two
    exact ⟨v1, v2, rfl, f.nx _ h1 q _ H1 t1 (((re.mono t1).set i rx).set j ry) r1⟩
/-- in place, by values -/
def IpM (X : Cx) (op : Operator) (r : MR2) : Prop := ∃ R : TIp, PIp X op R ∧ ∀ (x y : D) (h : MH) (Q0 : MQ) (vx vy : V) (H : Hp) (Q : VK), r x y h Q0 → HR X.K h H → RV X.K H x vx → RV X.K H y vy → Fin X.K H Q0 Q → R vx vy H Q
def rIAdd : MR2 := fun x y h Q => match x, y with
  | .int i, .int j => Q (.int (i + j)) h
  | _, _ => False
theorem im_add : IpM X .Add rIAdd := by
  refine ⟨_, ip_add, fun x y h Q0 vx vy H Q q rh rx ry f => ?_⟩
  cases x <;> cases y <;> first | exact q.elim | skip
  rw [rx.int, ry.int]
  exact ⟨_, _, rfl, rfl, fin_at f q rh rv_int⟩
theorem im_sub : IpM X .Sub rSub := by
  refine ⟨_, ip_sub, fun x y h Q0 vx vy H Q q rh rx ry f => ?_⟩
  cases x <;> cases y <;> first | exact q.elim | skip
  rw [rx.int, ry.int]
  exact ⟨_, _, rfl, rfl, fin_at f q rh rv_int⟩
theorem is_aug (i : Nat) {x : Str} {op : Operator} {pos' : Pos} (hN : X.N.Nodup) (ho : IpM X op r) (he : IE X Hb e me) (hi : X.N[i]? = some x := by rfl) (hx : Loc X.env.scope x := by first | exact Or.inl rfl | exact Or.inr rfl)
    (hf : X.fn x = true ∨ X.env.scope.names.lookup x = some .local := by first | exact .inl rfl | exact .inr rfl | assumption) : IS X Hb (.AugAssign (.Name x pos') op e pos) (mAug i r me) := by
  obtain ⟨R, hR, hi'⟩ := ho
  refine is_of (ps_aug hN hi hx he hR hf) fun D' σ H env h D0 re rh m f => ?_
  obtain ⟨d, e1, m⟩ := m
  obtain ⟨v, e2, rv⟩ := re.2.2 i d e1
  refine ⟨v, e2, env, h, _, re, rh, m, fun y h1 q1 vy H1 t1 r1 ry => ?_⟩
  refine hi' d y h1 _ v vy H1 _ q1 r1 (rv.mono t1) ry fun z h2 q2 vz H2 t2 r2 rz => ?_
  exact f.nx _ h2 q2 _ H2 (t1.trans t2) ((re.mono (t1.trans t2)).set i rz) r2
/-- xs[i] = v -/
def rSetL : MRSet := fun o i v h Q => match o, i with
  | .ref a, .int k => ∃ ds, h a = some (.lst ds) ∧ ∃ j, ixN ds.length k = some j ∧ Q (up h a (.lst (ds.set j v)))
  | _, _ => False
theorem se_list : SeM X rSetL := by
  refine ⟨_, set_list, fun o i v h Q0 vo vi vv H Q q rh ro ri rv f => ?_⟩
  cases o <;> cases i <;> first | exact q.elim | skip
  obtain ⟨ds, e, j, z, q⟩ := q
  rw [ro.ref, ri.int]
  obtain ⟨vs, E, rs⟩ := rh.lst e
  have t : TL H (upd H _ (.lst (vs.set j vv))) := .put E (fun _ z => by cases z) (fun _ _ z => by cases z)
  refine ⟨_, vs, _, j, rfl, rfl, E, by rw [← rs.length]; exact z, ?_⟩
  exact f _ q _ t (rh.put t ⟨_, rfl, (rs.set j rv).mono t⟩)
/-! ### while -/
def mWhile (c : MTT) (b : MTS) : MTS := fun D' env h => ∃ W : Nat → ME → MH → Prop, (∃ m, W m env h) ∧ ∀ m env h, W m env h →
  c env h fun k h1 => if k = true then b { D' with nx := fun env' h' => ∃ m', m' < m ∧ W m' env' h', ct := fun env' h' => ∃ m', m' < m ∧ W m' env' h', bk := D'.nx } env h1 else D'.nx env h1
theorem is_while {body : List Stmt} (hp : PassesOwn (model X.prog X.w) X.A X.env X.xe) (hc : IT X Hb c mt) (hb : ISs X Hb body m1) : IS X Hb (.While c body [] pos) (mWhile mt m1) := by
  refine is_of (ps_while hp hc hb) fun D' σ H env h D0 re rh m f => ?_
  obtain ⟨W, ⟨m0, w0⟩, turn⟩ := m
  refine ⟨fun m σ' H' => ∃ env' h', TL H H' ∧ REnv X.K Hb H' env' σ' ∧ HR X.K h' H' ∧ W m env' h', ⟨m0, env, h, .refl H, re, rh, w0⟩, ?_⟩
  rintro m1 σ1 H1 ⟨env1, h1, t1, re1, rh1, w1⟩
  refine ⟨env1, h1, _, re1, rh1, turn m1 env1 h1 w1, fun k h2 q2 H2 t2 r2 => ?_⟩
  cases k with
  | true =>
    refine ⟨fun σ' H' => ∃ env' h', (∃ m', m' < m1 ∧ W m' env' h') ∧ TL H H' ∧ REnv X.K Hb H' env' σ' ∧ HR X.K h' H', ?_, liftS_iff.mpr ⟨env1, h2, _, re1.mono t2, r2, q2, ?_, ?_, ?_, ?_⟩⟩
    · rintro σ' H' ⟨env', h', ⟨m', l, w⟩, t, re', rh'⟩
      exact ⟨m', l, env', h', t, re', rh', w⟩
    · exact fun env' h' q σ' H' t re' rh' => ⟨env', h', q, (t1.trans t2).trans t, re', rh'⟩
    · exact fun d h' q v H' t => f.rt d h' q v H' ((t1.trans t2).trans t)
    · exact fun env' h' q σ' H' t => f.nx env' h' q σ' H' ((t1.trans t2).trans t)
    · exact fun env' h' q σ' H' t re' rh' => ⟨env', h', q, (t1.trans t2).trans t, re', rh'⟩
  | false => exact f.nx env1 h2 q2 σ1 H2 (t1.trans t2) (re1.mono t2) r2
/-! ### what is walked -/
structure MSrc where
  n : Nat
  item : Nat → D
  ok : MH → Prop
abbrev MTI := ME → MH → (MSrc → MH → Prop) → Prop
structure SrcOk (K : PySem.W.Frag) (H0 : Hp) (S : MSrc) (J : It) : Prop where
  go : ∀ i h H, TL H0 H → HR K h H → S.ok h → i < S.n → J.go i H
  yld : ∀ i h H, TL H0 H → HR K h H → S.ok h → i < S.n → ∀ x H', J.yld i H x H' → TL H H' ∧ HR K h H' ∧ RV K H' (S.item i) x
  stop : ∀ h H, TL H0 H → HR K h H → S.ok h → J.stop S.n H
def liftI (K : PySem.W.Frag) (Hb : Hp) (m : MTI) : TI := fun σ H R => ∃ env h, ∃ Q0 : MSrc → MH → Prop, REnv K Hb H env σ ∧ HR K h H ∧ m env h Q0 ∧ ∀ S h', Q0 S h' → ∀ J H', TL H H' → HR K h' H' → SrcOk K H' S J → R J H'
def II (X : Cx) (Hb : Hp) (tg e : Expr) (m : MTI) : Prop := PI X tg e (liftI X.K Hb m)
theorem pi_w {tg e : Expr} {t t' : TI} (h : PI X tg e t) (w : ∀ σ H R, t' σ H R → t σ H R) : PI X tg e t' := ⟨fun pins s σ H R I q => h.run pins s σ H R I (w σ H R q)⟩
def ForW (S : MSrc) (g : Tg) (b : MTS) (D' : MEnds) (env : ME) (h1 : MH) : Prop := ∃ W : Nat → ME → MH → Prop, W 0 env h1 ∧ ∀ k env' h', k ≤ S.n → W k env' h' → S.ok h' ∧
  (k < S.n → ∃ env2, asg g (S.item k) env' = some env2 ∧ b { D' with nx := W (k + 1), ct := W (k + 1), bk := D'.nx } env2 h') ∧ (k = S.n → D'.nx env' h')
def mFor (i : MTI) (g : Tg) (b : MTS) : MTS := fun D' env h => i env h fun S h1 => ForW S g b D' env h1
theorem is_for {iter tg : Expr} {body : List Stmt} {mi : MTI} {g : Tg} (hp : PassesOwn (model X.prog X.w) X.A X.env X.xe) (hc : X.calm = true) (hi : II X Hb tg iter mi) (hg : IG X tg g) (hb : ISs X Hb body m1)
    (hs : ∀ x, foldedSetIterable iter X.env x = pure x := by intro _; rfl) : IS X Hb (.For tg iter body [] pos) (mFor mi g m1) := by
  refine is_of (ps_for hp hc hi hg hb hs) fun D' σ H env h D0 re rh m f => ?_
  refine ⟨env, h, _, re, rh, m, ?_⟩
  rintro S h1 ⟨W, w0, turn⟩ J H1 t1 r1 so
  refine ⟨fun i m σ' H' => m = S.n - i ∧ i ≤ S.n ∧ ∃ env' h', TL H1 H' ∧ REnv X.K Hb H' env' σ' ∧ HR X.K h' H' ∧ W i env' h', ⟨S.n, rfl, Nat.zero_le _, env, h1, .refl H1, re.mono t1, r1, w0⟩, ?_⟩
  rintro i m σ2 H2 ⟨rfl, hi, env2, h2, t2, re2, r2, w2⟩
  obtain ⟨ok, q1, q2⟩ := turn i env2 h2 hi w2
  by_cases c : i < S.n
  · obtain ⟨env3, e3, q⟩ := q1 c
    refine .inr ⟨so.go i h2 H2 t2 r2 ok c, fun σ' H' => ∃ env' h', W (i + 1) env' h' ∧ TL H1 H' ∧ REnv X.K Hb H' env' σ' ∧ HR X.K h' H', ?_, fun x H3 hy => ?_⟩
    · rintro σ' H' ⟨env', h', w, t, re', rh'⟩
      exact ⟨_, by omega, rfl, c, env', h', t, re', rh', w⟩
    · obtain ⟨t3, r3, rx⟩ := so.yld i h2 H2 t2 r2 ok c x H3 hy
      obtain ⟨σ3, k1, k2, _⟩ := gT_ok e3 rx (re2.mono t3)
      have t13 := t1.trans (t2.trans t3)
      refine k1 _ (liftS_iff.mpr ⟨env3, h2, _, k2, r3, q, ?_, ?_, ?_, ?_⟩)
      · exact fun env' h' q σ' H' t re' rh' => ⟨env', h', q, (t2.trans t3).trans t, re', rh'⟩
      · exact fun d h' q v H' t => f.rt d h' q v H' (t13.trans t)
      · exact fun env' h' q σ' H' t => f.nx env' h' q σ' H' (t13.trans t)
      · exact fun env' h' q σ' H' t re' rh' => ⟨env', h', q, (t2.trans t3).trans t, re', rh'⟩
  · have e : i = S.n := by omega
    subst e
    exact .inl ⟨so.stop h2 H2 t2 r2 ok, f.nx env2 h2 (q2 rfl) σ2 H2 (t1.trans t2) re2 r2⟩
end
end M

/-! enumerate of a tuple -/
namespace PySem
open Sem (wp)
set_option maxHeartbeats 1000000 in
theorem meets_enumerate_newT {v : Value} {o : Obj} {H : Heap → Prop} (B : Begins v o H) :
    Meets (Builtin.«enumerate.__new__» ⟨[.type "enumerate", v], []⟩) (fun _ R s => H s.heap ∧
      R (.ok (.ret (.ref (s.heap.push o).objs.size))) { s with heap := (s.heap.push o).push { cls := .type "enumerate", data := .fields #[.none, .bool false, .ref s.heap.objs.size, rawInt 0, .none, .none] } }) :=
  .of_wp fun prog w A R s h => by
    obtain ⟨hp, g, d, tk, os⟩ := s; obtain ⟨h1, h⟩ := h
    have hsub := sub_enumerate
    have q1 : ∀ {A' : Around} {E : Value → Shared → Prop} {Q : Value → Shared → Prop}, Q (.ref hp.objs.size) ⟨hp.push o, g, d, tk, os⟩ → wpAny (model prog w) A' (pyIter v) Q E ⟨hp, g, d, tk, os⟩ :=
      fun q => B.iter prog w _ _ ⟨hp, g, d, tk, os⟩ _ h1 q
    wp_walk using q1
    refine wpAny_stack_any fun st => wpAny_pure ?_
    split
    · rename_i c _ _ _ _ _
      cases (c == Value.type "enumerate")
      · wp_walk using q1
        exact ⟨_, rfl, h⟩
      · wp_walk using q1
        exact ⟨_, rfl, h⟩
    · wp_walk using q1
      exact ⟨_, rfl, h⟩
theorem call_enumerate_tup {prog : Program} {w : World} {A : Around} {E : Value → Shared → Prop} {s : Shared} {l : Addr} {items : Array Value} {Q : Value → Shared → Prop} (hL : s.heap.IsTuple l items)
    (h : ∀ h', IsEnum h' (s.heap.objs.size + 1) s.heap.objs.size 0 .none → h'.IsTupleIter s.heap.objs.size l 0 → h'.objs.size = s.heap.objs.size + 2 →
      (∀ b o, s.heap.get? b = some o → h'.get? b = some o) → Q (.ref (s.heap.objs.size + 1)) { s with heap := h' }) :
    wpAny (model prog w) A (call (.type "enumerate") [.ref l]) Q E s := by
  have B := begins_tuple l items
  refine callType_new F.called_enumerate (by decide) (F.typeCall_enumerate_1 _) (F.newCall_enumerate_1 _) (fun obj => F.args_object_init_2 obj _) F.entry_enumerate_new
    (meets_enumerate_newT B) ⟨hL, ?_⟩
  have hz : (s.heap.push { cls := .type "tuple_iterator", data := .fields #[.ref l, .int 0 0] }).objs.size = s.heap.objs.size + 1 := Heap.size_push ..
  show _ ∧ _
  rw [hz]
  have he : IsEnum ((s.heap.push { cls := .type "tuple_iterator", data := .fields #[.ref l, .int 0 0] }).push
      { cls := .type "enumerate", data := .fields #[.none, .bool false, .ref s.heap.objs.size, rawInt 0, .none, .none] }) (s.heap.objs.size + 1) s.heap.objs.size 0 .none := by
    have := Heap.get?_push_size (s.heap.push { cls := .type "tuple_iterator", data := .fields #[.ref l, .int 0 0] })
      (o := { cls := .type "enumerate", data := .fields #[.none, .bool false, .ref s.heap.objs.size, rawInt 0, .none, .none] }) rfl
    rw [hz] at this; exact this
  refine ⟨⟨_, he, rfl⟩, h _ he ⟨_, Heap.get?_push_of_some _ (Heap.get?_push_size _ rfl), rfl, rfl⟩ (by rw [Heap.size_push, hz]) fun b o x => Heap.get?_push_of_some _ (Heap.get?_push_of_some _ x)⟩
end PySem
namespace M
open PySem L2
def IteT (K : PySem.W.Frag) (a : Addr) : It :=
  ⟨fun i H => ∃ (xs : List V) (x : V), SqT K H a xs ∧ xs[i]? = some x, fun i H v H' => ∃ T x, v = .ref T ∧ H T = none ∧ H' = upd H T (.tup [.int (i : Nat), x]) ∧ ∀ xs, SqT K H a xs → xs[i]? = some x, fun i H => ∃ xs : List V, SqT K H a xs ∧ xs.length = i⟩
theorem iter_ne {h : Heap} {a it : Addr} {i : Nat} {items : Array Value} (t : PyProof.Rows.IsTup h a items) (s : h.IsTupleIter it a i) : a ≠ it := by
  intro e
  subst e
  obtain ⟨o, e1, c1, _⟩ := t
  obtain ⟨o2, e2, c2, _⟩ := s
  rw [e1] at e2
  cases e2
  rw [c1] at c2
  exact absurd (Value.type.inj c2) (by decide)
theorem enum_ne {h : Heap} {a e it : Addr} {c : Int} {old : Value} {items : Array Value} (t : PyProof.Rows.IsTup h a items) (s : IsEnum h e it c old) : e ≠ a := by
  intro z
  subst z
  obtain ⟨o, e1, c1, _⟩ := t
  have s' := s
  unfold IsEnum at s'
  rw [e1] at s'
  have s2 := Option.some.inj s'
  rw [s2] at c1
  exact absurd (Value.type.inj c1) (by decide)
theorem turn_enumT {P : Program} {w : World} {K : PySem.W.Frag} {elts : List Expr} {kk : Nat} {tpos : Pos} (a e it : Addr) :
    Turn P w K (.Tuple elts kk tpos) (IteT K a) [e, it] e (fun i h => (∃ old, IsEnum h e it ((i : Nat) : Int) old) ∧ h.IsTupleIter it a i ∧ e ≠ it) where
  mem := by simp
  obj := fun i h st b hb => by
    obtain ⟨⟨old, he⟩, ⟨o, ho, hc, hd⟩, _⟩ := st
    have e' : b = e ∨ b = it := by simpa using hb
    rcases e' with z | z
    · rw [z]; exact ⟨_, he, fun v q => nomatch q⟩
    · rw [z]; exact ⟨o, ho, fun v q => by rw [hd] at q; cases q⟩
  keep := fun i h h' st k => let ⟨⟨old, he⟩, hi, hne⟩ := st; ⟨⟨old, k e (by simp) _ he⟩, hi.at fun o q => k it (by simp) o q, hne⟩
  item := by
    intro X hP hw hK hc i pins s σ H E I hf st hg
    subst hP hw hK
    obtain ⟨⟨old, he⟩, hit, hne⟩ := st
    obtain ⟨xs, x, hq, hx⟩ := hg
    obtain ⟨its, rv, p, hz⟩ := I.tuple hq
    obtain ⟨u, hu, ru⟩ := rv.get hx
    have hel : e < s.heap.objs.size := Heap.lt_size he
    have hil : it < s.heap.objs.size := by obtain ⟨_, q, _⟩ := hit; exact Heap.lt_size q
    have D := Draws.tuple (prog := X.prog) (w := X.w) (A := X.A.in1) (show X.A.in1.handled = none from I.ok.hd hc) it a (iter_ne p hit) its.toArray
    have hlt : i < its.toArray.size := by
      have q := (List.getElem?_eq_some_iff.mp hu).1
      simpa using q
    refine wpAny_pyNext_enum_itemD D he ⟨hit, show s.heap.IsTuple a its.toArray from p⟩ hlt hne (fun q => ?_) fun y h' tk hP ho st' hT hsz hk => ?_
    · have e' : e = it ∨ e = a := by simpa using q
      rcases e' with z | z
      · exact hne z
      · exact enum_ne p he z
    have hP' : its.toArray[i]? = some y := hP
    have ey : y = u := by
      have hu' : its.toArray[i]? = some u := by simpa using hu
      rw [hu'] at hP'
      exact (Option.some.inj hP').symm
    subst ey
    refine ⟨_, rfl, wpAny_letOwnedTupleGo_enum (s := { s with heap := h', toks := tk + 1 }) ho fun h'' he' sb => ?_⟩
    have hT2 : h''.get? s.heap.objs.size = some { cls := .type "tuple", data := .seq #[.int i tk, y] } := (sb.2 _ (Nat.ne_of_gt hel)).trans hT
    have new : ObjOk X.prog X.w (upd H s.heap.objs.size (.tup [.int (i : Nat), x])) h'' s.heap.objs.size (.tup [.int (i : Nat), x]) :=
      ⟨by show 2 ≤ sizeLine; decide, [.int i tk, y], .cons ⟨_, rfl⟩ (.cons ru .nil), ⟨_, hT2, rfl, _, rfl⟩⟩
    have I1 : Inv X pins σ (upd H s.heap.objs.size (.tup [.int (i : Nat), x])) { s with heap := h'', toks := tk + 1 } :=
      I.turnedNew (ch := [e, it]) (fun b ob hb q => (sb.2 b (fun z => hb (by simp [z]))).trans (hk b ob (fun z => hb (by simp [z])) (fun z => hb (by simp [z])) q)) hf (Nat.le_refl _) new
    refine ⟨.ref s.heap.objs.size, _, I1, rfl, ⟨_, x, rfl, I.hok.fresh (Nat.le_refl _), rfl, fun ys hy => by rw [I.tuple_inj hy hq]; exact hx⟩, ⟨⟨y, ?_⟩, st'.1.at fun o q => (sb.2 it (Ne.symm hne)).trans q, hne⟩, fun b hb => ?_⟩
    · have e1 : ((i + 1 : Nat) : Int) = (i : Int) + 1 := by omega
      rw [e1]; exact he'
    · have hb' : b < s.heap.objs.size := by
        have e' : b = e ∨ b = it := by simpa using hb
        rcases e' with z | z
        · rw [z]; exact hel
        · rw [z]; exact hil
      rw [upd_ne (Nat.ne_of_lt hb')]
      exact (hf b hb).1
  done := by
    intro X hP hw hK hc i pins s σ H E I hf st hg
    subst hP hw hK
    obtain ⟨⟨old, he⟩, hit, hne⟩ := st
    obtain ⟨xs, hq, hx⟩ := hg
    obtain ⟨its, rv, p, hz⟩ := I.tuple hq
    obtain ⟨f0, f1, f2, f3, f4, f5⟩ := hf it (by simp)
    have hl := rv.length
    have D := Draws.tuple (prog := X.prog) (w := X.w) (A := X.A.in1) (show X.A.in1.handled = none from I.ok.hd hc) it a (iter_ne p hit) its.toArray
    have ei : i = its.toArray.size := by simp; omega
    rw [ei] at hit
    exact wpAny_pyNext_enum_endD D he ⟨hit, show s.heap.IsTuple a its.toArray from p⟩ fun h' eb => ⟨rfl, I.turned (t' := s.toks) (fun b o hb q => eb b o hb q) f0 f1 f3 f4 f5⟩
  self := fun A i s Q E st h => let ⟨⟨_, he⟩, _⟩ := st; wpAny_pyIter_enum he h
def iEnumA (K : PySem.W.Frag) (ta : TA) : TI := fun σ H R => ta σ H fun vs H1 => ∃ a xs, vs = [.ref a] ∧ ((SqL K H1 a xs ∧ R (Ite K a) H1) ∨ (SqT K H1 a xs ∧ R (IteT K a) H1))
theorem pi_enumA {X : Cx} {e : Expr} {ta : TA} {p pos tpos : Pos} {elts : List Expr} {kk : Nat} (hg : Gl X "enumerate") (hm : X.mg "enumerate" = none) (ha : PA X [e] ta) (hs : starEach [e] X.env = [(false, eval e X.env)] := by rfl) :
    PI X (.Tuple elts kk tpos) (.Call (.Name "enumerate" p) [e] [] pos) (iEnumA X.K ta) := by
  refine ⟨fun pins s σ H R I h => ?_⟩
  refine PyProof.Rows.Call_ (ld_blt I hg hm PyProof.Rows.boot_enumerate (PyProof.Rows.callWith_type1 (thn (ha.run pos pins s σ H _ I h) fun us s1 ⟨vs, H1, I1, r1, q1⟩ => ?_) hs rfl))
  obtain ⟨a, xs, ex, q1⟩ := q1
  subst ex
  cases r1 with
  | cons r rr =>
    cases rr
    cases r
    have fr : ∀ b, b ∈ [s1.heap.objs.size + 1, s1.heap.objs.size] → FpOk X pins H1 b := fun b hb => by
      have e' : b = s1.heap.objs.size + 1 ∨ b = s1.heap.objs.size := by simpa using hb
      have hle : s1.heap.objs.size ≤ b := by
        rcases e' with z | z
        · rw [z]; exact Nat.le_add_right _ _
        · rw [z]; exact Nat.le_refl _
      exact I1.fpOk hle (I1.hok.fresh hle)
    rcases q1 with ⟨hq, q⟩ | ⟨hq, q⟩
    · obtain ⟨its, rv, p', hz⟩ := I1.list hq
      refine call_enumerate_list p'.isList fun h' he hit hsz hk => wpAny_pyIter_enum he ?_
      have I2 : Inv X pins σ H1 { s1 with heap := h' } := I1.kept (t' := s1.toks) hk
      exact ⟨s1.heap.objs.size + 1, [s1.heap.objs.size + 1, s1.heap.objs.size], _, _, H1, rfl, I2, turn_enum a (s1.heap.objs.size + 1) s1.heap.objs.size, ⟨⟨.none, he⟩, hit, Nat.succ_ne_self _⟩, fr, q⟩
    · obtain ⟨its, rv, p', hz⟩ := I1.tuple hq
      refine call_enumerate_tup (show s1.heap.IsTuple a its.toArray from p') fun h' he hit hsz hk => wpAny_pyIter_enum he ?_
      have I2 : Inv X pins σ H1 { s1 with heap := h' } := I1.kept (t' := s1.toks) hk
      exact ⟨s1.heap.objs.size + 1, [s1.heap.objs.size + 1, s1.heap.objs.size], _, _, H1, rfl, I2, turn_enumT a (s1.heap.objs.size + 1) s1.heap.objs.size, ⟨⟨.none, he⟩, hit, Nat.succ_ne_self _⟩, fr, q⟩
/-- a list, a tuple or a text, by its value -/
def iSeqA (K : PySem.W.Frag) (tl : TE) : TI := fun σ H R => tl σ H fun x H1 => (∃ a xs, x = .ref a ∧ SqL K H1 a xs ∧ R (Itl K a) H1) ∨ (∃ a xs, x = .ref a ∧ SqT K H1 a xs ∧ R (Itt K a) H1) ∨ ∃ z, x = .str z ∧ R (Its z) H1
theorem pi_seqA {X : Cx} {tg l : Expr} {tl : TE} (hl : PE X l tl) : PI X tg l (iSeqA X.K tl) := by
  refine ⟨fun pins s σ H R I h => ?_⟩
  refine thn (hl.run pins s σ H _ I h) fun v s1 ⟨x, H1, I1, r1, q1⟩ => ?_
  rcases q1 with ⟨a, xs, e, hq, q⟩ | ⟨a, xs, e, hq, q⟩ | ⟨z, e, q⟩
  · subst e
    cases r1
    obtain ⟨its, rv, p, hz⟩ := I1.list hq
    refine wpAny_pyIter_list p.isList ?_
    refine ⟨s1.heap.objs.size, [s1.heap.objs.size], _, _, H1, rfl, I1.kept (t' := s1.toks) fun b o e => Heap.get?_push_of_some _ e, turn_list a _, ⟨_, Heap.get?_push_size _ rfl, rfl, rfl⟩, fun b hb => ?_, q⟩
    have e : b = s1.heap.objs.size := by simpa using hb
    subst e
    exact I1.fpOk (Nat.le_refl _) (I1.hok.fresh (Nat.le_refl _))
  · subst e
    cases r1
    obtain ⟨its, rv, p, hz⟩ := I1.tuple hq
    refine wpAny_pyIter_tuple (show s1.heap.IsTuple a its.toArray from p) ?_
    refine ⟨s1.heap.objs.size, [s1.heap.objs.size], _, _, H1, rfl, I1.kept (t' := s1.toks) fun b o e => Heap.get?_push_of_some _ e, turn_tuple a _, ⟨_, Heap.get?_push_size _ rfl, rfl, rfl⟩, fun b hb => ?_, q⟩
    have e : b = s1.heap.objs.size := by simpa using hb
    subst e
    exact I1.fpOk (Nat.le_refl _) (I1.hok.fresh (Nat.le_refl _))
  · subst e
    obtain ⟨t, rfl⟩ := r1
    cases ha : z.cps.all (· < 128)
    · exact wpAny_pyIter_wide ha (pi_one (tk := s1.toks) I1 _ (turn_str _ z t "str_iterator" (.inr rfl)) ⟨_, Heap.get?_push_size _ rfl, rfl, rfl⟩ q)
    · exact wpAny_pyIter_ascii ha (pi_one (tk := s1.toks) I1 _ (turn_str _ z t "str_ascii_iterator" (.inl rfl)) ⟨_, Heap.get?_push_size _ rfl, rfl, rfl⟩ q)
/-! ### sources -/
def srcR (lo : Int) (n : Nat) (c : Int) : MSrc := ⟨n, fun i => .int (lo + (i : Nat) * c), fun _ => True⟩
def srcD (ds : List D) (ok : MH → Prop) : MSrc := ⟨ds.length, fun i => ds.getD i .non, ok⟩
def srcE (ds : List D) (ok : MH → Prop) : MSrc := ⟨ds.length, fun i => .tw [.int (i : Nat), ds.getD i .non], ok⟩
def srcZ (ds es : List D) (ok : MH → Prop) : MSrc := ⟨min ds.length es.length, fun i => .tw [ds.getD i .non, es.getD i .non], ok⟩
def mRange1 (a : MTE) : MTI := fun env h R => a env h fun x h1 => ∃ j, x = .int j ∧ -(2 ^ 62) ≤ j ∧ j < 2 ^ 62 ∧ R (srcR 0 j.toNat 1) h1
def mRange2 (a b : MTE) : MTI := fun env h R => a env h fun x h1 => b env h1 fun y h2 => ∃ i j, x = .int i ∧ y = .int j ∧ (-(2 ^ 62) ≤ i ∧ i < 2 ^ 62 ∧ -(2 ^ 62) ≤ j ∧ j < 2 ^ 62) ∧ R (srcR i (j - i).toNat 1) h2
def mRange3 (a b c : MTE) : MTI := fun env h R => a env h fun x h1 => b env h1 fun y h2 => c env h2 fun z h3 => ∃ i j k n, x = .int i ∧ y = .int j ∧ z = .int k ∧ RgC i j k n ∧ R (srcR i n k) h3
def mIter (a : MTE) : MTI := fun env h R => a env h fun x h1 => match x with
  | .tup ds => R (srcD ds fun _ => True) h1
  | .rl ds => R (srcD ds fun _ => True) h1
  | .str z => R (srcD (z.cps.toList.map fun c => .str ⟨#[c]⟩) fun _ => True) h1
  | .ref a => ∃ ds, h1 a = some (.lst ds) ∧ R (srcD ds fun h => h a = some (.lst ds)) h1
  | _ => False
def mEnum (a : MTE) : MTI := fun env h R => a env h fun x h1 => match x with
  | .tup ds => R (srcE ds fun _ => True) h1
  | .rl ds => R (srcE ds fun _ => True) h1
  | .ref a => ∃ ds, h1 a = some (.lst ds) ∧ R (srcE ds fun h => h a = some (.lst ds)) h1
  | _ => False
def mZip (a b : MTE) : MTI := fun env h R => a env h fun x h1 => b env h1 fun y h2 => match x, y with
  | .tup ds, .tup es => R (srcZ ds es fun _ => True) h2
  | .ref a, .ref b => ∃ ds es, h2 a = some (.lst ds) ∧ h2 b = some (.lst es) ∧ R (srcZ ds es fun h => h a = some (.lst ds) ∧ h b = some (.lst es)) h2
  | _, _ => False
theorem getD_some {ds : List D} {i : Nat} {d : D} (h : i < ds.length) : ds[i]? = some (ds.getD i d) := by
  rw [List.getD_eq_getElem?_getD, List.getElem?_eq_getElem h]; rfl
section
variable {X : Cx} {Hb : Hp} {tg a b c e : Expr} {ma mb mc : MTE} {p pos tpos : Pos} {elts : List Expr} {kk : Nat}
theorem so_itr {K : PySem.W.Frag} {H : Hp} {lo : Int} {n : Nat} : SrcOk K H (srcR lo n 1) (Itr lo n) where
  go := fun i h H _ _ _ hi => hi
  yld := fun i h H1 _ rh _ _ x H' y => by
    obtain ⟨e1, e2⟩ := y
    subst e1 e2
    refine ⟨.refl _, rh, ?_⟩
    show RV _ _ (.int (lo + (i : Nat) * 1)) _
    rw [Int.mul_one]; exact rv_int
  stop := fun h H _ _ _ => Nat.le_refl _
theorem so_itc {K : PySem.W.Frag} {H : Hp} {lo c : Int} {n : Nat} : SrcOk K H (srcR lo n c) (Itc lo c n) where
  go := fun i h H _ _ _ hi => hi
  yld := fun i h H1 _ rh _ _ x H' y => by
    obtain ⟨e1, e2⟩ := y
    subst e1 e2
    exact ⟨.refl _, rh, rv_int⟩
  stop := fun h H _ _ _ => Nat.le_refl _
theorem so_tup {K : PySem.W.Frag} {H : Hp} {a : Addr} {ds : List D} {vs : List V} (ta : SqT K H a vs) (rs : RVs K H ds vs) : SrcOk K H (srcD ds fun _ => True) (Itt K a) where
  go := fun i h H1 t _ _ hi => by
    obtain ⟨v, e, _⟩ := rs.get (List.getElem?_eq_getElem (show i < ds.length from hi))
    exact ⟨vs, v, sqT_mono t ta, e⟩
  yld := fun i h H1 t rh _ hi x H' y => by
    obtain ⟨e1, y⟩ := y
    subst e1
    obtain ⟨v, e, r⟩ := (rs.mono t).get (getD_some (d := .non) (show i < ds.length from hi))
    have e2 := y vs (sqT_mono t ta)
    rw [e] at e2
    cases e2
    exact ⟨.refl _, rh, r⟩
  stop := fun h H1 t _ _ => ⟨vs, sqT_mono t ta, by rw [← rs.length]; exact Nat.le_refl _⟩
theorem so_rl {K : PySem.W.Frag} {H : Hp} {a : Addr} {ds : List D} {vs : List V} (ta : SqI K H a vs) (rs : RVs K H ds vs) : SrcOk K H (srcD ds fun _ => True) (Itl K a) where
  go := fun i h H1 t _ _ hi => by
    obtain ⟨v, e, _⟩ := rs.get (List.getElem?_eq_getElem (show i < ds.length from hi))
    exact ⟨vs, v, (sqI_mono t ta).l, e⟩
  yld := fun i h H1 t rh _ hi x H' y => by
    obtain ⟨e1, y⟩ := y
    subst e1
    obtain ⟨v, e, r⟩ := (rs.mono t).get (getD_some (d := .non) (show i < ds.length from hi))
    have e2 := y vs (sqI_mono t ta).l
    rw [e] at e2
    cases e2
    exact ⟨.refl _, rh, r⟩
  stop := fun h H1 t _ _ => ⟨vs, (sqI_mono t ta).l, by rw [← rs.length]; exact Nat.le_refl _⟩
theorem so_lst {K : PySem.W.Frag} {H : Hp} {a : Addr} {ds : List D} : SrcOk K H (srcD ds fun h => h a = some (.lst ds)) (Itl K a) where
  go := fun i h H1 t rh ok hi => by
    obtain ⟨vs, E, rs⟩ := rh.lst ok
    obtain ⟨v, e, _⟩ := rs.get (List.getElem?_eq_getElem (show i < ds.length from hi))
    exact ⟨vs, v, .of E, e⟩
  yld := fun i h H1 t rh ok hi x H' y => by
    obtain ⟨e1, y⟩ := y
    subst e1
    obtain ⟨vs, E, rs⟩ := rh.lst ok
    obtain ⟨v, e, r⟩ := rs.get (getD_some (d := .non) (show i < ds.length from hi))
    have e2 := y vs (.of E)
    rw [e] at e2
    cases e2
    exact ⟨.refl _, rh, r⟩
  stop := fun h H1 t rh ok => by
    obtain ⟨vs, E, rs⟩ := rh.lst ok
    exact ⟨vs, .of E, by rw [← rs.length]; exact Nat.le_refl _⟩
theorem so_str {K : PySem.W.Frag} {H : Hp} {z : Str} : SrcOk K H (srcD (z.cps.toList.map fun c => .str ⟨#[c]⟩) fun _ => True) (Its z) where
  go := fun i h H1 t rh ok hi => by
    have hi' : i < (z.cps.toList.map fun c => D.str ⟨#[c]⟩).length := hi
    rw [List.length_map] at hi'
    show i < z.cps.size
    simpa using hi'
  yld := fun i h H1 t rh ok hi x H' y => by
    obtain ⟨e1, c, e2, e3⟩ := y
    subst e1 e3
    refine ⟨.refl _, rh, ?_⟩
    have e4 : (z.cps.toList.map fun c => D.str ⟨#[c]⟩)[i]? = some (.str ⟨#[c]⟩) := by
      rw [List.getElem?_map]
      have : z.cps.toList[i]? = some c := by simpa using e2
      rw [this]; rfl
    show RV _ _ ((z.cps.toList.map fun c => D.str ⟨#[c]⟩).getD i .non) _
    rw [List.getD_eq_getElem?_getD, e4]
    exact rv_str
  stop := fun h H1 t rh ok => by
    show z.cps.size ≤ (z.cps.toList.map fun c => D.str ⟨#[c]⟩).length
    rw [List.length_map]; simp
theorem so_enL {K : PySem.W.Frag} {H : Hp} {a : Addr} {ds : List D} : SrcOk K H (srcE ds fun h => h a = some (.lst ds)) (Ite K a) where
  go := fun i h H1 t rh ok hi => by
    obtain ⟨vs, E, rs⟩ := rh.lst ok
    obtain ⟨v, e, _⟩ := rs.get (List.getElem?_eq_getElem (show i < ds.length from hi))
    exact ⟨vs, v, .of E, e⟩
  yld := fun i h H1 t rh ok hi x H' y => by
    obtain ⟨T, z, e1, n, e2, y⟩ := y
    subst e1 e2
    obtain ⟨vs, E, rs⟩ := rh.lst ok
    obtain ⟨v, e, r⟩ := rs.get (getD_some (d := .non) (show i < ds.length from hi))
    have e2 := y vs (.of E)
    rw [e] at e2
    cases e2
    exact ⟨.new n, rh.skip n, rv_tw (.of upd_same) (.cons rv_int (.cons (r.mono (.new n)) .nil))⟩
  stop := fun h H1 t rh ok => by
    obtain ⟨vs, E, rs⟩ := rh.lst ok
    exact ⟨vs, .of E, by rw [← rs.length]; exact Nat.le_refl _⟩
theorem so_enI {K : PySem.W.Frag} {H : Hp} {a : Addr} {ds : List D} {vs : List V} (ta : SqI K H a vs) (rs : RVs K H ds vs) : SrcOk K H (srcE ds fun _ => True) (Ite K a) where
  go := fun i h H1 t rh ok hi => by
    obtain ⟨v, e, _⟩ := rs.get (List.getElem?_eq_getElem (show i < ds.length from hi))
    exact ⟨vs, v, (sqI_mono t ta).l, e⟩
  yld := fun i h H1 t rh ok hi x H' y => by
    obtain ⟨T, z, e1, n, e2, y⟩ := y
    subst e1 e2
    obtain ⟨v, e, r⟩ := (rs.mono t).get (getD_some (d := .non) (show i < ds.length from hi))
    have e2 := y vs (sqI_mono t ta).l
    rw [e] at e2
    cases e2
    exact ⟨.new n, rh.skip n, rv_tw (.of upd_same) (.cons rv_int (.cons (r.mono (.new n)) .nil))⟩
  stop := fun h H1 t rh ok => ⟨vs, (sqI_mono t ta).l, by rw [← rs.length]; exact Nat.le_refl _⟩
theorem so_enT {K : PySem.W.Frag} {H : Hp} {a : Addr} {ds : List D} {vs : List V} (ta : SqT K H a vs) (rs : RVs K H ds vs) : SrcOk K H (srcE ds fun _ => True) (IteT K a) where
  go := fun i h H1 t rh ok hi => by
    obtain ⟨v, e, _⟩ := rs.get (List.getElem?_eq_getElem (show i < ds.length from hi))
    exact ⟨vs, v, sqT_mono t ta, e⟩
  yld := fun i h H1 t rh ok hi x H' y => by
    obtain ⟨T, z, e1, n, e2, y⟩ := y
    subst e1 e2
    obtain ⟨v, e, r⟩ := (rs.mono t).get (getD_some (d := .non) (show i < ds.length from hi))
    have e2 := y vs (sqT_mono t ta)
    rw [e] at e2
    cases e2
    exact ⟨.new n, rh.skip n, rv_tw (.of upd_same) (.cons rv_int (.cons (r.mono (.new n)) .nil))⟩
  stop := fun h H1 t rh ok => ⟨vs, sqT_mono t ta, rs.length.symm⟩
theorem so_zL {K : PySem.W.Frag} {H : Hp} {a b : Addr} {ds es : List D} : SrcOk K H (srcZ ds es fun h => h a = some (.lst ds) ∧ h b = some (.lst es)) (Itz K a b) where
  go := fun i h H1 t rh ok hi => by
    obtain ⟨vs, E, rs⟩ := rh.lst ok.1
    obtain ⟨ws, E2, rt⟩ := rh.lst ok.2
    have hi' : i < min ds.length es.length := hi
    obtain ⟨v, e, _⟩ := rs.get (List.getElem?_eq_getElem (show i < ds.length by omega))
    obtain ⟨w, e2, _⟩ := rt.get (List.getElem?_eq_getElem (show i < es.length by omega))
    exact ⟨vs, ws, v, w, .of E, .of E2, e, e2⟩
  yld := fun i h H1 t rh ok hi x H' y => by
    obtain ⟨T, z, z2, e1, n, e2, y, y2⟩ := y
    subst e1 e2
    obtain ⟨vs, E, rs⟩ := rh.lst ok.1
    obtain ⟨ws, E2, rt⟩ := rh.lst ok.2
    have hi' : i < min ds.length es.length := hi
    obtain ⟨v, e, r⟩ := rs.get (getD_some (d := .non) (show i < ds.length by omega))
    obtain ⟨w, f, r2⟩ := rt.get (getD_some (d := .non) (show i < es.length by omega))
    have e2 := y vs (.of E)
    rw [e] at e2
    cases e2
    have f2 := y2 ws (.of E2)
    rw [f] at f2
    cases f2
    exact ⟨.new n, rh.skip n, rv_tw (.of upd_same) (.cons (r.mono (.new n)) (.cons (r2.mono (.new n)) .nil))⟩
  stop := fun h H1 t rh ok => by
    obtain ⟨vs, E, rs⟩ := rh.lst ok.1
    obtain ⟨ws, E2, rt⟩ := rh.lst ok.2
    refine ⟨vs, ws, .of E, .of E2, ?_⟩
    show vs.length ≤ min ds.length es.length ∨ ws.length ≤ min ds.length es.length
    rw [← rs.length, ← rt.length]
    omega
theorem so_zT {K : PySem.W.Frag} {H : Hp} {a b : Addr} {ds es : List D} {vs ws : List V} (ta : SqT K H a vs) (rs : RVs K H ds vs) (tb : SqT K H b ws) (rt : RVs K H es ws) : SrcOk K H (srcZ ds es fun _ => True) (RZ.ItzT K a b) where
  go := fun i h H1 t rh ok hi => by
    have hi' : i < min ds.length es.length := hi
    obtain ⟨v, e, _⟩ := rs.get (List.getElem?_eq_getElem (show i < ds.length by omega))
    obtain ⟨w, e2, _⟩ := rt.get (List.getElem?_eq_getElem (show i < es.length by omega))
    exact ⟨vs, ws, v, w, sqT_mono t ta, sqT_mono t tb, e, e2⟩
  yld := fun i h H1 t rh ok hi x H' y => by
    obtain ⟨T, z, z2, e1, n, e2, y, y2⟩ := y
    subst e1 e2
    have hi' : i < min ds.length es.length := hi
    obtain ⟨v, e, r⟩ := (rs.mono t).get (getD_some (d := .non) (show i < ds.length by omega))
    obtain ⟨w, f, r2⟩ := (rt.mono t).get (getD_some (d := .non) (show i < es.length by omega))
    have e2 := y vs (sqT_mono t ta)
    rw [e] at e2
    cases e2
    have f2 := y2 ws (sqT_mono t tb)
    rw [f] at f2
    cases f2
    exact ⟨.new n, rh.skip n, rv_tw (.of upd_same) (.cons (r.mono (.new n)) (.cons (r2.mono (.new n)) .nil))⟩
  stop := fun h H1 t rh ok => by
    refine ⟨vs, ws, sqT_mono t ta, sqT_mono t tb, ?_⟩
    show vs.length ≤ min ds.length es.length ∨ ws.length ≤ min ds.length es.length
    rw [← rs.length, ← rt.length]
    omega
theorem ii_range1 (hm : X.mg "range" = none) (ha : IE X Hb a ma) (hg : Gl X "range" := by rfl) (hs : starEach [a] X.env = [(false, eval a X.env)] := by rfl) : II X Hb tg (.Call (.Name "range" p) [a] [] pos) (mRange1 ma) := by
  refine pi_w (pi_range1 hg hm (ia_cons ha ia_nil hs) hs) fun σ H R ⟨env, h, Q0, re, rh, m, f⟩ => ?_
  refine ⟨env, h, (fun ds h1 => ∃ j, ds = [.int j] ∧ -(2 ^ 62) ≤ j ∧ j < 2 ^ 62 ∧ Q0 (srcR 0 j.toNat 1) h1), re, rh, ?_, ?_⟩
  · have e : (fun x h1 => ∃ j, [x] = [D.int j] ∧ -(2 ^ 62) ≤ j ∧ j < 2 ^ 62 ∧ Q0 (srcR 0 j.toNat 1) h1) = (fun x h1 => ∃ j, x = .int j ∧ -(2 ^ 62) ≤ j ∧ j < 2 ^ 62 ∧ Q0 (srcR 0 j.toNat 1) h1) := by
      funext x h1
      simp only [List.cons.injEq, and_true]
    show ma env h (fun x h1 => ∃ j, [x] = [D.int j] ∧ -(2 ^ 62) ≤ j ∧ j < 2 ^ 62 ∧ Q0 (srcR 0 j.toNat 1) h1)
    rw [e]
    exact m
  · rintro ds h1 ⟨j, rfl, l1, l2, q⟩ vs H1 t1 r1 rs
    obtain ⟨v, rfl, rx⟩ := rs.one
    rw [rx.int]
    exact ⟨j, rfl, l1, l2, f _ h1 q _ H1 t1 r1 so_itr⟩
theorem ii_range2 (hm : X.mg "range" = none) (ha : IE X Hb a ma) (hb : IE X Hb b mb) (hg : Gl X "range" := by rfl) (hs : starEach [a, b] X.env = [(false, eval a X.env), (false, eval b X.env)] := by rfl) (hs2 : starEach [b] X.env = [(false, eval b X.env)] := by rfl) :
    II X Hb tg (.Call (.Name "range" p) [a, b] [] pos) (mRange2 ma mb) := by
  refine pi_w (pi_range2 hg hm (ia_cons ha (ia_cons hb ia_nil hs2) (by rw [hs, hs2])) hs hs2) fun σ H R ⟨env, h, Q0, re, rh, m, f⟩ => ?_
  refine ⟨env, h, (fun ds h1 => ∃ i j, ds = [.int i, .int j] ∧ (-(2 ^ 62) ≤ i ∧ i < 2 ^ 62 ∧ -(2 ^ 62) ≤ j ∧ j < 2 ^ 62) ∧ Q0 (srcR i (j - i).toNat 1) h1), re, rh, ?_, ?_⟩
  · have e : (fun x h1 => mb env h1 fun y h2 => ∃ i j, [x, y] = [D.int i, D.int j] ∧ (-(2 ^ 62) ≤ i ∧ i < 2 ^ 62 ∧ -(2 ^ 62) ≤ j ∧ j < 2 ^ 62) ∧ Q0 (srcR i (j - i).toNat 1) h2) = (fun x h1 => mb env h1 fun y h2 => ∃ i j, x = .int i ∧ y = .int j ∧ (-(2 ^ 62) ≤ i ∧ i < 2 ^ 62 ∧ -(2 ^ 62) ≤ j ∧ j < 2 ^ 62) ∧ Q0 (srcR i (j - i).toNat 1) h2) := by
      funext x h1
      refine congrArg _ ?_
      funext y h2
      simp only [List.cons.injEq, and_true, and_assoc]
    show ma env h (fun x h1 => mb env h1 fun y h2 => ∃ i j, [x, y] = [D.int i, D.int j] ∧ (-(2 ^ 62) ≤ i ∧ i < 2 ^ 62 ∧ -(2 ^ 62) ≤ j ∧ j < 2 ^ 62) ∧ Q0 (srcR i (j - i).toNat 1) h2)
    rw [e]
    exact m
  · rintro ds h1 ⟨i, j, rfl, l, q⟩ vs H1 t1 r1 rs
    obtain ⟨v, w, rfl, rx, ry⟩ := rs.two
    rw [rx.int, ry.int]
    exact ⟨i, j, rfl, l, f _ h1 q _ H1 t1 r1 so_itr⟩
theorem ii_iter (ha : IE X Hb a ma) : II X Hb tg a (mIter ma) := by
  refine pi_w (pi_seqA ha) fun σ H R ⟨env, h, Q0, re, rh, m, f⟩ => ?_
  refine ⟨env, h, _, re, rh, m, fun x h1 q v H1 t1 r1 rx => ?_⟩
  cases x <;> first | exact q.elim | skip
  · rw [rx.str]
    exact .inr (.inr ⟨_, rfl, f _ h1 q _ H1 t1 r1 so_str⟩)
  · obtain ⟨a, vs, rfl, ta, rs⟩ := rx.tup
    exact .inr (.inl ⟨a, vs, rfl, ta, f _ h1 q _ H1 t1 r1 (so_tup ta rs)⟩)
  · obtain ⟨a, vs, rfl, ta, rs⟩ := rx.rl
    exact .inl ⟨a, vs, rfl, ta.l, f _ h1 q _ H1 t1 r1 (so_rl ta rs)⟩
  · obtain ⟨ds, e, q⟩ := q
    rw [rx.ref]
    obtain ⟨vs, E, rs⟩ := r1.lst e
    exact .inl ⟨_, vs, rfl, .of E, f _ h1 q _ H1 t1 r1 so_lst⟩
theorem ii_enum (hm : X.mg "enumerate" = none) (ha : IE X Hb a ma) (hg : Gl X "enumerate" := by rfl) (hs : starEach [a] X.env = [(false, eval a X.env)] := by rfl) : II X Hb (.Tuple elts kk tpos) (.Call (.Name "enumerate" p) [a] [] pos) (mEnum ma) := by
  refine pi_w (pi_enumA hg hm (pa_cons ha pa_nil hs) hs) fun σ H R ⟨env, h, Q0, re, rh, m, f⟩ => ?_
  refine ⟨env, h, _, re, rh, m, fun x h1 q v H1 t1 r1 rx => ?_⟩
  cases x <;> first | exact q.elim | skip
  · obtain ⟨a, vs, rfl, ta, rs⟩ := rx.tup
    exact ⟨a, vs, rfl, .inr ⟨ta, f _ h1 q _ H1 t1 r1 (so_enT ta rs)⟩⟩
  · obtain ⟨a, vs, rfl, ta, rs⟩ := rx.rl
    exact ⟨a, vs, rfl, .inl ⟨ta.l, f _ h1 q _ H1 t1 r1 (so_enI ta rs)⟩⟩
  · obtain ⟨ds, e, q⟩ := q
    rw [rx.ref]
    obtain ⟨vs, E, rs⟩ := r1.lst e
    exact ⟨_, vs, rfl, .inl ⟨.of E, f _ h1 q _ H1 t1 r1 so_enL⟩⟩
theorem ii_zip (hm : X.mg "zip" = none) (ha : IE X Hb a ma) (hb : IE X Hb b mb) (hg : Gl X "zip" := by rfl)
    (hs : starEach [a, b] X.env = (false, eval a X.env) :: starEach [b] X.env := by rfl) (hs2 : starEach [b] X.env = (false, eval b X.env) :: starEach [] X.env := by rfl) (hpl : (backTo pos (starEach [b] X.env)).any (·.1) = false := by rfl) :
    II X Hb (.Tuple elts kk tpos) (.Call (.Name "zip" p) [a, b] [] pos) (mZip ma mb) := by
  refine pi_w (RZ.pi_zipA hg hm (pa_cons ha (pa_cons hb pa_nil hs2) hs) hs hpl) fun σ H R ⟨env, h, Q0, re, rh, m, f⟩ => ?_
  refine ⟨env, h, _, re, rh, m, fun x h1 q1 v H1 t1 r1 rx => ?_⟩
  refine ⟨env, h1, _, re.mono t1, r1, q1, fun y h2 q w H2 t2 r2 ry => ?_⟩
  have t12 := t1.trans t2
  have rx2 := rx.mono t2
  cases x <;> cases y <;> first | exact q.elim | skip
  · obtain ⟨a, vs, rfl, ta, rs⟩ := rx2.tup
    obtain ⟨b, ws, rfl, tb, rt⟩ := ry.tup
    exact ⟨a, b, vs, ws, rfl, .inr ⟨ta, tb, f _ h2 q _ H2 t12 r2 (so_zT ta rs tb rt)⟩⟩
  · obtain ⟨ds, es, e, e2, q⟩ := q
    rw [rx2.ref, ry.ref]
    obtain ⟨vs, E, rs⟩ := r2.lst e
    obtain ⟨ws, E2, rt⟩ := r2.lst e2
    exact ⟨_, _, vs, ws, rfl, .inl ⟨.of E, .of E2, f _ h2 q _ H2 t12 r2 so_zL⟩⟩
theorem ii_range3 (hm : X.mg "range" = none) (ha : IE X Hb a ma) (hb : IE X Hb b mb) (hc : IE X Hb c mc) (hg : Gl X "range" := by rfl) (hs : starEach [a, b, c] X.env = (false, eval a X.env) :: starEach [b, c] X.env := by rfl)
    (hs2 : starEach [b, c] X.env = (false, eval b X.env) :: starEach [c] X.env := by rfl) (hs3 : starEach [c] X.env = (false, eval c X.env) :: starEach [] X.env := by rfl) (hpl : (backTo pos (starEach [b, c] X.env)).any (·.1) = false := by rfl) :
    II X Hb tg (.Call (.Name "range" p) [a, b, c] [] pos) (mRange3 ma mb mc) := by
  refine pi_w (pi_range3 hg hm (pa_cons ha (pa_cons hb (pa_cons hc pa_nil hs3) hs2) hs) hs hpl) fun σ H R ⟨env, h, Q0, re, rh, m, f⟩ => ?_
  refine ⟨env, h, _, re, rh, m, fun x h1 q1 v H1 t1 r1 rx => ?_⟩
  refine ⟨env, h1, _, re.mono t1, r1, q1, fun y h2 q2 w H2 t2 r2 ry => ?_⟩
  refine ⟨env, h2, _, re.mono (t1.trans t2), r2, q2, fun z h3 q w3 H3 t3 r3 rz => ?_⟩
  obtain ⟨i, j, k, n, rfl, rfl, rfl, rg, q⟩ := q
  rw [rx.int, ry.int, rz.int]
  exact ⟨i, j, k, n, rfl, rg, f _ h3 q _ H3 (t1.trans (t2.trans t3)) r3 so_itc⟩
end
end M

namespace M
open PySem L2
/-! ### comprehensions -/
def mwipe (env : ME) : List Nat → ME
  | [] => env
  | v :: vs => (mwipe env vs).set v none
theorem REnv.wipe {K : PySem.W.Frag} {Hb H : Hp} {env : ME} {σ : L2.St} (r : REnv K Hb H env σ) : ∀ vs : List Nat, REnv K Hb H (mwipe env vs) (L2.wipe σ vs)
  | [] => r
  | v :: vs => by
    have q := r.wipe vs
    unfold mwipe L2.wipe
    refine ⟨q.1, by rw [List.length_set, List.length_set]; exact q.2.1, fun j d' e => ?_⟩
    by_cases c : v = j
    · subst c
      by_cases hl : v < (mwipe env vs).length
      · rw [List.getElem?_set_self hl] at e
        cases e
      · rw [List.getElem?_eq_none (by rw [List.length_set]; omega)] at e
        cases e
    · rw [List.getElem?_set_ne c] at e ⊢
      exact q.2.2 j d' e
theorem wipe_comm {σ : L2.St} {v : Nat} : ∀ {vs : List Nat}, L2.wipe (σ.set v none) vs = (L2.wipe σ vs).set v none
  | [] => rfl
  | w :: vs => by
    unfold L2.wipe
    rw [wipe_comm]
    by_cases c : v = w
    · subst c; rfl
    · rw [List.set_comm _ _ c]
theorem wipe_wipe (σ : L2.St) : ∀ vs : List Nat, L2.wipe (L2.wipe σ vs) vs = L2.wipe σ vs
  | [] => rfl
  | v :: vs => by
    show (L2.wipe ((L2.wipe σ vs).set v none) vs).set v none = (L2.wipe σ vs).set v none
    rw [wipe_comm, wipe_wipe σ vs, List.set_set]
mutual
def Tg.inb (vs : List Nat) : Tg → Bool
  | .nm i => vs.contains i
  | .tp ts => Tg.insb vs ts
def Tg.insb (vs : List Nat) : List Tg → Bool
  | [] => true
  | t :: ts => t.inb vs && Tg.insb vs ts
end
mutual
theorem Tg.in_of {vs : List Nat} : ∀ {t : Tg}, t.inb vs = true → t.in vs
  | .nm i, h => by
    simp only [Tg.inb] at h
    simp only [Tg.in]
    simpa using h
  | .tp ts, h => by
    simp only [Tg.inb] at h
    simp only [Tg.in]
    exact Tg.ins_of h
theorem Tg.ins_of {vs : List Nat} : ∀ {ts : List Tg}, Tg.insb vs ts = true → Tg.ins vs ts
  | [], _ => by simp only [Tg.ins]
  | t :: ts, h => by
    simp only [Tg.insb, Bool.and_eq_true] at h
    simp only [Tg.ins]
    exact ⟨Tg.in_of h.1, Tg.ins_of h.2⟩
end
theorem ro_lst {K : PySem.W.Frag} {H : Hp} {a : Addr} {ds : List D} {vs : List V} (r : RVs K H ds vs) : RO K H a (.lst ds) (.lst vs) := ⟨vs, rfl, r⟩
def LcW (S : MSrc) (g : Tg) (t : MTT) (e : MTE) (vs : List Nat) (env : ME) (h1 : MH) (Q : MQ) : Prop := ∀ p, h1 p = none → ∃ W : Nat → MH → Prop, W 0 (up h1 p (.lst [])) ∧ ∀ k h', k ≤ S.n → W k h' → S.ok h' ∧
  (k < S.n → ∃ env2, asg g (S.item k) (mwipe env vs) = some env2 ∧ t env2 h' fun b h3 => if b = true then e env2 h3 fun y h4 => ∃ acc, h4 p = some (.lst acc) ∧ acc.length < sizeLine ∧ W (k + 1) (up h4 p (.lst (acc ++ [y]))) else W (k + 1) h3) ∧
  (k = S.n → Q (.ref p) h')
def mLc (i : MTI) (g : Tg) (t : MTT) (e : MTE) (vs : List Nat) : MTE := fun env h Q => i env h fun S h1 => LcW S g t e vs env h1 Q
def ITs (X : Cx) (Hb : Hp) (ifs : List Expr) (m : MTT) : Prop := PTs X ifs (liftT X.K Hb m)
def mYes : MTT := fun _ h Q => Q true h
section
variable {X : Cx} {Hb : Hp} {elt tg iter : Expr} {ifs : List Expr} {scope : Scope} {pos : Pos} {mi : MTI} {g : Tg} {mt : MTT} {me : MTE}
theorem its_nil : ITs X Hb [] mYes := ⟨fun pins s σ H Q I q => by
  obtain ⟨env, h, Q0, re, rh, m, f⟩ := q
  exact pts_nil.run pins s σ H Q I (f true h m H (.refl H) rh)⟩
theorem its_one {c : Expr} (h : IT X Hb c mt) : ITs X Hb [c] mt := pts_one h
theorem lc_lift {own : List (Str × Nat)} {K : PySem.W.Frag} {σ : L2.St} {H : Hp} {Q : VK} (hin : g.inb (own.map (·.2)) = true) (q : lift K Hb (mLc mi g mt me (own.map (·.2))) σ H Q) : tLc (liftI K Hb mi) (gT K g) (liftT K Hb mt) (lift K Hb me) (own.map (·.2)) σ H Q := by
  obtain ⟨env, h, Q0, re, rh, m, f⟩ := q
  refine ⟨env, h, _, re, rh, m, fun S h1 m1 J H1 t1 r1 so Dl hD => ?_⟩
  obtain ⟨W, w0, turn⟩ := m1 Dl (r1.free hD)
  have tD : TL H1 (upd H1 Dl (.lst [])) := .new hD
  refine ⟨fun i m H' => m = S.n - i ∧ i ≤ S.n ∧ TL H1 H' ∧ ∃ h', HR K h' H' ∧ W i h', ⟨S.n, rfl, Nat.zero_le _, tD, _, r1.new hD (ro_lst .nil), w0⟩, ?_⟩
  rintro i m H2 ⟨rfl, hi, t2, h2, r2, w2⟩
  obtain ⟨ok, q1, q2⟩ := turn i h2 hi w2
  by_cases c : i < S.n
  · obtain ⟨env2, e2, q⟩ := q1 c
    refine .inr ⟨so.go i h2 H2 t2 r2 ok c, fun H' => TL H1 H' ∧ ∃ h', HR K h' H' ∧ W (i + 1) h', ?_, fun x H3 hy => ?_⟩
    · rintro H' ⟨t, h', rh', w⟩
      exact ⟨_, by omega, rfl, c, t, h', rh', w⟩
    · obtain ⟨t3, r3, rx⟩ := so.yld i h2 H2 t2 r2 ok c x H3 hy
      have t13 := t1.trans (t2.trans t3)
      obtain ⟨σ3, k1, k2, k3⟩ := gT_ok e2 rx ((re.mono t13).wipe (own.map (·.2)))
      refine k1 _ ⟨(k3 _ (Tg.in_of hin)).trans (wipe_wipe _ _), env2, h2, _, k2, r3, q, fun b h4 q4 H4 t4 r4 => ?_⟩
      cases b with
      | true =>
        refine ⟨env2, h4, _, k2.mono t4, r4, q4, ?_⟩
        rintro y h5 ⟨acc, ea, z, w⟩ v H5 t5 r5 ry
        obtain ⟨vs, E, rs⟩ := r5.lst ea
        have tp : TL H5 (upd H5 Dl (.lst (vs ++ [v]))) := .put E (fun _ z => by cases z) (fun _ _ z => by cases z)
        refine ⟨vs, E, by rw [← rs.length]; exact z, t2.trans (t3.trans (t4.trans (t5.trans tp))), _, r5.put tp (ro_lst ((rs.append (.cons ry .nil)).mono tp)), w⟩
      | false => exact ⟨t2.trans (t3.trans t4), h4, r4, q4⟩
  · have e : i = S.n := by omega
    subst e
    exact .inl ⟨so.stop h2 H2 t2 r2 ok, f _ h2 (q2 rfl) _ H2 (t1.trans t2) r2 rv_ref⟩
theorem ie_lc {own : List (Str × Nat)} (hc : X.calm = true) (hN : X.N.Nodup) (hin : g.inb (own.map (·.2)) = true) (hi : II X Hb tg iter mi) (ok : BlkOk X.N X.env.scope scope own)
    (hg : ∀ (s : Shared) (H : Hp) (C : Addr) (cl : List (Str × Addr)) (fp : List Addr), IG (X.blk s H scope (compEnvC scope cl C X.env) fp) tg g) (ht : ∀ (s : Shared) (H : Hp) (C : Addr) (cl : List (Str × Addr)) (fp : List Addr), ITs (X.blk s H scope (compEnvC scope cl C X.env) fp) Hb ifs mt)
    (he : ∀ (s : Shared) (H : Hp) (C : Addr) (cl : List (Str × Addr)) (fp : List Addr), IE (X.blk s H scope (compEnvC scope cl C X.env) fp) Hb elt me) (hs : ∀ x, foldedSetIterable iter X.env x = pure x := by intro _; rfl) :
    IE X Hb (.ListComp elt [⟨tg, iter, ifs, 0⟩] scope pos) (mLc mi g mt me (own.map (·.2))) :=
  pe_w (pe_lc (g := gT X.K g) (tt := liftT X.K Hb mt) (te := lift X.K Hb me) hc hN hi ok hg ht he hs) fun σ H Q q => lc_lift hin q
theorem is_setLc (i : Nat) {y : Str} {py spos : Pos} {own : List (Str × Nat)} (hc : X.calm = true) (hN : X.N.Nodup) (hin : g.inb (own.map (·.2)) = true) (hy : X.N[i]? = some y) (hyl : X.env.scope.names.lookup y = some .local)
    (hsw : swapsWith (.ListComp elt [⟨tg, iter, ifs, 0⟩] scope pos) (some (.Name y py)) spos.line X.env = pure true) (hi : II X Hb tg iter mi) (ok : BlkOk X.N X.env.scope scope own)
    (hg : ∀ (s : Shared) (H : Hp) (C : Addr) (cl : List (Str × Addr)) (fp : List Addr), IG (X.blk s H scope (compEnvC scope cl C X.env) fp) tg g) (ht : ∀ (s : Shared) (H : Hp) (C : Addr) (cl : List (Str × Addr)) (fp : List Addr), ITs (X.blk s H scope (compEnvC scope cl C X.env) fp) Hb ifs mt)
    (he : ∀ (s : Shared) (H : Hp) (C : Addr) (cl : List (Str × Addr)) (fp : List Addr), IE (X.blk s H scope (compEnvC scope cl C X.env) fp) Hb elt me) (hs : ∀ x, foldedSetIterable iter X.env x = pure x := by intro _; rfl) :
    IS X Hb (.Assign [.Name y py] (.ListComp elt [⟨tg, iter, ifs, 0⟩] scope pos) spos) (mSet i (mLc mi g mt me (own.map (·.2)))) := by
  refine is_of (ps_setLc (g := gT X.K g) (tt := liftT X.K Hb mt) (te := lift X.K Hb me) hc hN hy hyl hsw hi ok hg ht he hs) fun D' σ H env h D0 re rh m f => ?_
  refine lc_lift (Hb := Hb) hin ⟨env, h, _, re, rh, m, fun d h1 q v H1 t1 r1 rv => ?_⟩
  exact f.nx _ h1 q _ H1 t1 ((re.mono t1).set i rv) r1
end
/-! ### built-in methods -/
def tyM (T : String) (x : D) (h : MH) : Prop := match x with
  | .ref a => T = "list" ∧ ∃ ds, h a = some (.lst ds)
  | .str _ => T = "str"
  | .rl _ => T = "list"
  | _ => False
abbrev MRM := D → List D → MH → MQ → Prop
def MtI (X : Cx) (id : String) (r : MRM) : Prop := ∃ R : V → List V → Hp → VK → Prop, MtR X id R ∧ ∀ (x : D) (xs : List D) (h : MH) (Q0 : MQ) (vx : V) (vs : List V) (H : Hp) (Q : VK), r x xs h Q0 → HR X.K h H → RV X.K H x vx → RVs X.K H xs vs → Fin X.K H Q0 Q → R vx vs H Q
def mBM (T : String) (r : MRM) (o : MTE) (t : MTA) : MTE := fun env h Q => o env h fun x h1 => tyM T x h1 ∧ t env h1 fun xs h2 => r x xs h2 Q
section
variable {X : Cx} {Hb : Hp} {o e : Expr} {es : List Expr} {mo : MTE} {ms : MTA} {name : Str} {apos cpos : Pos} {T id : String} {r : MRM}
theorem tyV_of {K : PySem.W.Frag} {x : D} {h : MH} {H : Hp} {v : V} (t : tyM T x h) (rh : HR K h H) (rx : RV K H x v) : tyV K T v H := by
  cases x <;> first | exact False.elim t | skip
  · obtain rfl : T = "str" := t
    rw [rx.str]; rfl
  · obtain rfl : T = "list" := t
    obtain ⟨a, vs, rfl, ta, _⟩ := rx.rl
    exact .inl ⟨rfl, vs, ta.l⟩
  · obtain ⟨rfl, ds, e⟩ := t
    rw [rx.ref]
    obtain ⟨vs, E, _⟩ := rh.lst e
    exact .inl ⟨rfl, vs, .of E⟩
theorem ie_bm (pa : PlainAttrs T) (slot : Slot T name id) (hty : typeOf (.builtin id) = pure (.type "method_descriptor")) (hm : MtI X id r) (ho : IE X Hb o mo) (ha : IA X Hb (e :: es) ms)
    (hbase : attributeBase o name X.env (eval o X.env) = eval o X.env := by rfl)
    (hfew : ((backTo cpos (starEach (e :: es) X.env)).all (fun x => !x.1) && (backToKw cpos (keywordEach [] X.env)).all (fun x => x.1.isSome)
      && decide ((e :: es).length + ([] : List Keyword).length + (if ([] : List Keyword).isEmpty then 0 else 1) < 30)) = true := by rfl)
    (hline : (apos.endLine == cpos.line) = true := by rfl) (hs : starEach (e :: es) X.env = (false, eval e X.env) :: starEach es X.env := by rfl) (hplain : (backTo cpos (starEach es X.env)).any (·.1) = false := by rfl) :
    IE X Hb (.Call (.Attribute o name apos) (e :: es) [] cpos) (mBM T r mo ms) := by
  obtain ⟨R, hR, hi⟩ := hm
  refine pe_w (pe_bm pa slot hty hR ho ha hbase hfew hline hs hplain) fun σ H Q ⟨env, h, Q0, re, rh, m, f⟩ => ?_
  refine ⟨env, h, _, re, rh, m, fun x h1 ⟨ty, q⟩ vx H1 t1 r1 rx => ⟨tyV_of ty r1 rx, ?_⟩⟩
  refine ⟨env, h1, _, re.mono t1, r1, q, fun ds h2 q2 vs H2 t2 r2 rs => ?_⟩
  exact hi x ds h2 Q0 vx vs H2 Q q2 r2 (rx.mono t2) rs (Fin.mono (t1.trans t2) f)
theorem ie_bm0 (pa : PlainAttrs T) (slot : Slot T name id) (hty : typeOf (.builtin id) = pure (.type "method_descriptor")) (hm : MtI X id r) (ho : IE X Hb o mo)
    (hbase : attributeBase o name X.env (eval o X.env) = eval o X.env := by rfl) (hline : (apos.endLine == cpos.line) = true := by rfl) : IE X Hb (.Call (.Attribute o name apos) [] [] cpos) (mBM T r mo mNil) := by
  obtain ⟨R, hR, hi⟩ := hm
  refine pe_w (pe_bm0 pa slot hty hR ho hbase hline) fun σ H Q ⟨env, h, Q0, re, rh, m, f⟩ => ?_
  refine ⟨env, h, _, re, rh, m, fun x h1 ⟨ty, q⟩ vx H1 t1 r1 rx => ⟨tyV_of ty r1 rx, ?_⟩⟩
  exact hi x [] h1 Q0 vx [] H1 Q q r1 rx .nil (Fin.mono t1 f)
def rAppend : MRM := fun x xs h Q => match x, xs with
  | .ref a, [y] => ∃ ds, h a = some (.lst ds) ∧ ds.length < sizeLine ∧ Q .non (up h a (.lst (ds ++ [y])))
  | _, _ => False
theorem mi_append : MtI X "list.append" rAppend := by
  refine ⟨_, mt_append, fun x xs h Q0 vx vs H Q q rh rx rs f => ?_⟩
  unfold rAppend at q
  split at q
  · obtain ⟨ds, e, z, q⟩ := q
    obtain ⟨v, rfl, ry⟩ := rs.one
    obtain ⟨ws, E, rt⟩ := rh.lst e
    rw [rx.ref]
    have t : TL H (upd H _ (.lst (ws ++ [v]))) := .put E (fun _ z => by cases z) (fun _ _ z => by cases z)
    exact ⟨_, ws, v, rfl, rfl, E, by rw [← rt.length]; exact z, f _ _ q _ _ t (rh.put t ⟨_, rfl, (rt.append (.cons ry .nil)).mono t⟩) rv_non⟩
  · exact q.elim
def rExtend : MRM := fun x xs h Q => match x, xs with
  | .ref a, [.ref b] => ∃ ds es, h a = some (.lst ds) ∧ h b = some (.lst es) ∧ ds.length + es.length ≤ sizeLine ∧ Q .non (up h a (.lst (ds ++ es)))
  | _, _ => False
theorem mi_extend : MtI X "list.extend" rExtend := by
  refine ⟨_, mt_extend, fun x xs h Q0 vx vs H Q q rh rx rs f => ?_⟩
  unfold rExtend at q
  split at q
  · obtain ⟨ds, es, e, e2, z, q⟩ := q
    obtain ⟨v, rfl, ry⟩ := rs.one
    obtain ⟨ws, E, rt⟩ := rh.lst e
    obtain ⟨us, E2, ru⟩ := rh.lst e2
    rw [rx.ref, ry.ref]
    have t : TL H (upd H _ (.lst (ws ++ us))) := .put E (fun _ z => by cases z) (fun _ _ z => by cases z)
    exact ⟨_, _, ws, us, rfl, rfl, E, E2, by rw [← rt.length, ← ru.length]; exact z, f _ _ q _ _ t (rh.put t ⟨_, rfl, (rt.append ru).mono t⟩) rv_non⟩
  · exact q.elim
end
/-! ### defs -/
abbrev MXE := Addr → MH → Prop
abbrev MSp := List D → MH → MQ → MXE → Prop
def FinE (K : PySem.W.Frag) (H : Hp) (E0 : MXE) (E : XK) : Prop := ∀ C h', E0 C h' → ∀ od H', TL H H' → HR K h' H' → E (.ref C) od H'
theorem FinE.mono {K : PySem.W.Frag} {H H' : Hp} {E0 : MXE} {E : XK} (t : TL H H') (f : FinE K H E0 E) : FinE K H' E0 E := fun C h' q od H2 t2 => f C h' q od H2 (t.trans t2)
def liftSp (K : PySem.W.Frag) (sp : MSp) : Sp := fun vs H Q E => ∃ ds h, ∃ Q0 : MQ, ∃ E0 : MXE, RVs K H ds vs ∧ HR K h H ∧ sp ds h Q0 E0 ∧ Fin K H Q0 Q ∧ FinE K H E0 E
abbrev noE : MXE := fun _ _ => False
def mCall (sp : MSp) (E : MXE) (t : MTA) : MTE := fun env h Q => t env h fun xs h1 => sp xs h1 Q E
def mstart (N : List Str) (ds : List D) : ME := ds.map some ++ List.replicate (N.length - ds.length) none
theorem renv_start {K : PySem.W.Frag} {H : Hp} {N : List Str} {ds : List D} {vs : List V} (r : RVs K H ds vs) : REnv K H H (mstart N ds) (L2.start N vs) := by
  refine ⟨.refl H, ?_, fun i d e => ?_⟩
  · unfold mstart L2.start
    simp [r.length]
  · unfold mstart at e
    unfold L2.start
    by_cases c : i < ds.length
    · rw [List.getElem?_append_left (by rw [List.length_map]; exact c), List.getElem?_map] at e
      cases q : ds[i]? with
      | none => rw [q] at e; cases e
      | some d' =>
        rw [q] at e
        cases e
        obtain ⟨v, e1, rv⟩ := r.get q
        refine ⟨v, ?_, rv⟩
        rw [List.getElem?_append_left (by rw [List.length_map, ← r.length]; exact c), List.getElem?_map, e1]
        rfl
    · rw [List.getElem?_append_right (by rw [List.length_map]; omega), List.getElem?_replicate] at e
      split at e <;> cases e
section
variable {X : Cx} {Hb : Hp} {CX : CXT} {k : Nat} {f C : Addr} {fd : FuncData} {ps : List Str} {sp : MSp} {x m : Str} {p pos apos : Pos} {e o : Expr} {es : List Expr} {mo : MTE} {ms : MTA}
theorem ie_callX {E : XK} {E0 : MXE} (F : FnOk X.prog X.w X.K X.mg X.base CX k f fd ps (liftSp X.K sp)) (hr : Room k X.A) (hm : X.mg x = some (.ref f)) (hk : PySem.W.keepIn X.K (.ref f) = true) (hb : Binds X.K fd ps []) (hx : Passes CX X E) (fe : FinE X.K Hb E0 E)
    (ha : IA X Hb (e :: es) ms) (hg : Gl X x := by rfl) (hdb : (x == ("__debug__" : Str)) = false := by decide) (he : starEach (e :: es) X.env = (false, eval e X.env) :: starEach es X.env := by rfl) (hpl : (backTo pos (starEach es X.env)).any (·.1) = false := by rfl) :
    IE X Hb (.Call (.Name x p) (e :: es) [] pos) (mCall sp E0 ms) := by
  refine pe_w (pe_call F hr hg hm hk hb .nil hx ha hdb he hpl) fun σ H Q ⟨env, h, Q0, re, rh, m, fq⟩ => ?_
  refine ⟨env, h, _, re, rh, m, fun ds h1 q vs H1 t1 r1 rs => ?_⟩
  show liftSp X.K sp (vs ++ []) H1 Q E
  rw [List.append_nil]
  exact ⟨ds, h1, Q0, E0, rs, r1, q, Fin.mono t1 fq, fe.mono (re.1.trans t1)⟩
theorem ie_call (F : FnOk X.prog X.w X.K X.mg X.base CX0 k f fd ps (liftSp X.K sp)) (hr : Room k X.A) (hm : X.mg x = some (.ref f)) (hk : PySem.W.keepIn X.K (.ref f) = true) (hb : Binds X.K fd ps [])
    (ha : IA X Hb (e :: es) ms) (hg : Gl X x := by rfl) (hdb : (x == ("__debug__" : Str)) = false := by decide) (he : starEach (e :: es) X.env = (false, eval e X.env) :: starEach es X.env := by rfl) (hpl : (backTo pos (starEach es X.env)).any (·.1) = false := by rfl) :
    IE X Hb (.Call (.Name x p) (e :: es) [] pos) (mCall sp noE ms) := ie_callX F hr hm hk hb pass0 (fun _ _ q => q.elim) ha hg hdb he hpl
theorem ie_call0 (F : FnOk X.prog X.w X.K X.mg X.base CX0 k f fd ps (liftSp X.K sp)) (hr : Room k X.A) (hm : X.mg x = some (.ref f)) (hk : PySem.W.keepIn X.K (.ref f) = true) (hb : Binds X.K fd ps [])
    (hg : Gl X x := by rfl) (hdb : (x == ("__debug__" : Str)) = false := by decide) : IE X Hb (.Call (.Name x p) [] [] pos) (mCall sp noE mNil) := by
  refine pe_w (pe_call0 F hr hg hm hk hb .nil pass0 hdb) fun σ H Q ⟨env, h, Q0, re, rh, m, fq⟩ => ?_
  exact ⟨[], h, Q0, noE, .nil, rh, m, fq, fun _ _ q => q.elim⟩
end
section
variable {P : Program} {w : World} {K : PySem.W.Frag} {mg : Str → Option Value} {base : Heap}
/-- a def that lets nothing out -/
theorem fnM {x qual : Str} {st : Stmt} {f : Addr} {fd : FuncData} {N ps : List Str} {k : Nat} {sp : MSp} {m : MTS} (F : Fun K x qual st f fd) (S : FnScope N ps (defScope st))
    (len : ∀ ds h Q E, sp ds h Q E → ds.length = ps.length)
    (d : ∀ (cdv : Value) (A : Around) (outer : List Env) (s : Shared) (H : Hp) (E : XK), Room k (A.deeper (PyProof.Rows.envOfC qual (defScope st) s.heap.objs.size f cdv)) → ISs (cxOf CX0 P w K mg base N qual (defScope st) f cdv A outer s H E).nox H (defBody st) m)
    (hm : ∀ ds h Q E, sp ds h Q E → m { nx := fun _ h' => Q .non h', rt := Q } (mstart N ds) h) : FnOk P w K mg base CX0 (k + 1) f fd ps (liftSp K sp) := by
  refine F.ok S (fun vs H Q E ⟨ds, h, Q0, E0, rs, rh, q, fq, fe⟩ => by rw [← rs.length]; exact len ds h Q0 E0 q) fun cdv A outer s H vs Q E hr ⟨ds, h, Q0, E0, rs, rh, q, fq, fe⟩ => ?_
  refine ⟨_, d cdv A outer s H E hr, ?_⟩
  refine liftS_iff.mpr ⟨mstart N ds, h, _, renv_start rs, rh, hm ds h Q0 E0 q, ?_, ?_, ?_, ?_⟩
  · exact fun env' h' q σ' H' t re' rh' => fq _ h' q _ H' t rh' rv_non
  · exact fun d h' q v H' t rv rh' => fq d h' q v H' t rh' rv
  · exact fun _ _ q => q.elim
  · exact fun _ _ q => q.elim
end
end M

namespace M
open PySem L2
/-! ### == -/
def isSc : D → D → Bool
  | .non, .non => true | .non, .int _ => true | .int _, .non => true | .non, .bl _ => true | .bl _, .non => true | .non, .str _ => true | .str _, .non => true
  | .int _, .int _ => true | .bl _, .bl _ => true | .str _, .str _ => true
  | .int _, .str _ => true | .str _, .int _ => true | .bl _, .str _ => true | .str _, .bl _ => true
  | _, _ => false
def eqS : D → D → Bool
  | .non, .non => true
  | .int i, .int j => decide (i = j)
  | .bl i, .bl j => decide (i = j)
  | .str i, .str j => decide (i = j)
  | _, _ => false
mutual
inductive DP (h : MH) : D → PyData → Prop
  | non : DP h .non .none
  | bl (b : Bool) : DP h (.bl b) (.bool b)
  | int (i : Int) : DP h (.int i) (.int i)
  | str (x : Str) : DP h (.str x) (.str x)
  | lst {a : Addr} {ds : List D} {ps : List PyData} : h a = some (.lst ds) → DPs h ds ps → DP h (.ref a) (.list ps)
  | rl {ds : List D} {ps : List PyData} : DPs h ds ps → DP h (.rl ds) (.list ps)
  | tup {ds : List D} {ps : List PyData} : DPs h ds ps → DP h (.tup ds) (.tuple ps)
inductive DPs (h : MH) : List D → List PyData → Prop
  | nil : DPs h [] []
  | cons {d : D} {ds : List D} {p : PyData} {ps : List PyData} : DP h d p → DPs h ds ps → DPs h (d :: ds) (p :: ps)
end
section
variable {K : PySem.W.Frag} {h : MH} {H : Hp}
mutual
theorem DP.dp (rh : HR K h H) : ∀ {d : D} {p : PyData} {v : V}, DP h d p → RV K H d v → Dp K H v p
  | _, _, _, .non, r => by rw [r.non]; exact .non
  | _, _, _, .bl b, r => by rw [r.bl]; exact .bl b
  | _, _, _, .int i, r => by rw [r.int]; exact .int i
  | _, _, _, .str x, r => by rw [r.str]; exact .str x
  | _, _, _, .lst e s, r => by
    rw [r.ref]
    obtain ⟨vs, E, rs⟩ := rh.lst e
    exact .lst (.of E) (DPs.dp rh s rs)
  | _, _, _, .rl s, r => by
    obtain ⟨a, vs, rfl, ta, rs⟩ := r.rl
    exact .lst ta.l (DPs.dp rh s rs)
  | _, _, _, .tup s, r => by
    obtain ⟨a, vs, rfl, ta, rs⟩ := r.tup
    exact .tup ta (DPs.dp rh s rs)
theorem DPs.dp (rh : HR K h H) : ∀ {ds : List D} {ps : List PyData} {vs : List V}, DPs h ds ps → RVs K H ds vs → DpAll K H vs ps
  | _, _, _, .nil, r => by rw [r.inv0]; exact .nil
  | _, _, _, .cons a b, r => by
    obtain ⟨v, ws, rfl, q, t⟩ := r.inv
    exact .cons (DP.dp rh a q) (DPs.dp rh b t)
end
end
def rEqD (x y : D) (h : MH) (Q : MQ) : Prop := ∃ p q, DP h x p ∧ DP h y q ∧ SeqAt.shaped p = true ∧ SeqAt.shaped q = true ∧ Q (.bl (PyData.eqv p q)) h
def rNeD (x y : D) (h : MH) (Q : MQ) : Prop := ∃ p q, DP h x p ∧ DP h y q ∧ SeqAt.shaped p = true ∧ SeqAt.shaped q = true ∧ Q (.bl (!PyData.eqv p q)) h
def rEq : MR2 := fun x y h Q => if isSc x y = true then Q (.bl (eqS x y)) h else rEqD x y h Q
def rNe : MR2 := fun x y h Q => if isSc x y = true then Q (.bl (!eqS x y)) h else rNeD x y h Q
section
variable {X : Cx}
theorem sc_of {K : PySem.W.Frag} {H : Hp} {x y : D} {vx vy : V} (c : isSc x y = true) (rx : RV K H x vx) (ry : RV K H y vy) : scal vx vy = true ∧ decide (vx = vy) = eqS x y := by
  cases x <;> cases y <;> first | (cases c; done) | skip
  all_goals simp only [RV] at rx ry
  all_goals subst rx ry
  all_goals refine ⟨rfl, ?_⟩
  all_goals (first | rfl | (simp only [eqS, decide_eq_decide, V.int.injEq, V.bl.injEq, V.str.injEq]) | (simp [eqS]))
theorem om_eq (hu : X.A.units + 64 < cLine) : OpM X (compareOp .Eq) rEq := by
  refine ⟨_, op_eq.or (op_eqD hu), fun x y h Q0 vx vy H Q q rh rx ry f => ?_⟩
  unfold rEq at q
  split at q
  · rename_i c
    obtain ⟨c1, c2⟩ := sc_of c rx ry
    exact .inl ⟨c1, by rw [c2]; exact fin_at f q rh rv_bl⟩
  · obtain ⟨p, p', d1, d2, s1, s2, q⟩ := q
    exact .inr ⟨p, p', d1.dp rh rx, d2.dp rh ry, s1, s2, fin_at f q rh rv_bl⟩
theorem om_ne (hu : X.A.units + 64 < cLine) : OpM X (compareOp .NotEq) rNe := by
  refine ⟨_, op_ne.or (op_neD hu), fun x y h Q0 vx vy H Q q rh rx ry f => ?_⟩
  unfold rNe at q
  split at q
  · rename_i c
    obtain ⟨c1, c2⟩ := sc_of c rx ry
    exact .inl ⟨c1, by rw [c2]; exact fin_at f q rh rv_bl⟩
  · obtain ⟨p, p', d1, d2, s1, s2, q⟩ := q
    exact .inr ⟨p, p', d1.dp rh rx, d2.dp rh ry, s1, s2, fin_at f q rh rv_bl⟩
/-! ### in: flat things -/
def flatD : D → Bool
  | .non => true
  | .bl _ => true
  | .int _ => true
  | .str _ => true
  | _ => false
def eqF : D → D → Bool
  | .non, .non => true
  | .bl a, .bl b => a == b
  | .bl a, .int b => (if a then 1 else 0) == b
  | .int a, .bl b => a == (if b then 1 else 0)
  | .int a, .int b => a == b
  | .str a, .str b => a == b
  | _, _ => false
def inF (x : D) (ds : List D) : Bool := ds.any fun y => eqF y x
def rIn (neg : Bool) : MR2 := fun x y h Q => match y with
  | .tup ds => flatD x = true ∧ ds.all flatD = true ∧ Q (.bl (if neg then !inF x ds else inF x ds)) h
  | .rl ds => flatD x = true ∧ ds.all flatD = true ∧ Q (.bl (if neg then !inF x ds else inF x ds)) h
  | .ref a => ∃ ds, h a = some (.lst ds) ∧ flatD x = true ∧ ds.all flatD = true ∧ Q (.bl (if neg then !inF x ds else inF x ds)) h
  | .str z => ∃ w, x = .str w ∧ Q (.bl (if neg then !(!(Builtin.Str.occurrences z w 0 z.length 1).isEmpty) else !(Builtin.Str.occurrences z w 0 z.length 1).isEmpty)) h
  | _ => False
theorem flat_of {K : PySem.W.Frag} {H : Hp} {x : D} {v : V} (c : flatD x = true) (r : RV K H x v) : flatV v = true := by
  cases x <;> first | (cases c; done) | skip
  all_goals simp only [RV] at r
  all_goals subst r
  all_goals rfl
theorem eqF_of {K : PySem.W.Frag} {H : Hp} {x y : D} {v w : V} (c : flatD x = true) (r : RV K H x v) (c2 : flatD y = true) (r2 : RV K H y w) : eqV v w = eqF x y := by
  cases x <;> first | (cases c; done) | skip
  all_goals (cases y <;> first | (cases c2; done) | skip)
  all_goals simp only [RV] at r r2
  all_goals subst r r2
  all_goals rfl
theorem flats_of {K : PySem.W.Frag} {H : Hp} : ∀ {ds : List D} {vs : List V}, ds.all flatD = true → RVs K H ds vs → vs.all flatV = true
  | [], _, _, r => by rw [r.inv0]; rfl
  | d :: ds, _, c, r => by
    obtain ⟨v, ws, rfl, q, t⟩ := r.inv
    rw [List.all_cons, Bool.and_eq_true] at c ⊢
    exact ⟨flat_of c.1 q, flats_of c.2 t⟩
theorem inF_of {K : PySem.W.Frag} {H : Hp} {x : D} {v : V} (c : flatD x = true) (r : RV K H x v) : ∀ {ds : List D} {vs : List V}, ds.all flatD = true → RVs K H ds vs → inV v vs = inF x ds
  | [], _, _, q => by rw [q.inv0]; rfl
  | d :: ds, _, c2, q => by
    obtain ⟨w, ws, rfl, q1, t⟩ := q.inv
    rw [List.all_cons, Bool.and_eq_true] at c2
    have ih := inF_of c r c2.2 t
    unfold inV inF at ih ⊢
    rw [List.any_cons, List.any_cons, ih, eqF_of c2.1 q1 c r]
theorem om_in : OpM X (compareOp .In) (rIn false) := by
  refine ⟨_, op_in_seq.or op_in_str, fun x y h Q0 vx vy H Q q rh rx ry f => ?_⟩
  cases y <;> first | exact q.elim | skip
  · obtain ⟨w, rfl, q⟩ := q
    rw [rx.str, ry.str]
    exact .inr ⟨_, _, rfl, rfl, fin_at f q rh rv_bl⟩
  · obtain ⟨c1, c2, q⟩ := q
    obtain ⟨a, vs, rfl, ta, rs⟩ := ry.tup
    exact .inl ⟨a, vs, rfl, .inr ta, flat_of c1 rx, flats_of c2 rs, by rw [inF_of c1 rx c2 rs]; exact fin_at f q rh rv_bl⟩
  · obtain ⟨c1, c2, q⟩ := q
    obtain ⟨a, vs, rfl, ta, rs⟩ := ry.rl
    exact .inl ⟨a, vs, rfl, .inl ta.l, flat_of c1 rx, flats_of c2 rs, by rw [inF_of c1 rx c2 rs]; exact fin_at f q rh rv_bl⟩
  · obtain ⟨ds, e, c1, c2, q⟩ := q
    rw [ry.ref]
    obtain ⟨vs, E, rs⟩ := rh.lst e
    exact .inl ⟨_, vs, rfl, .inl (.of E), flat_of c1 rx, flats_of c2 rs, by rw [inF_of c1 rx c2 rs]; exact fin_at f q rh rv_bl⟩
theorem om_notIn : OpM X (compareOp .NotIn) (rIn true) := by
  refine ⟨_, op_notIn_seq.or op_notin_str, fun x y h Q0 vx vy H Q q rh rx ry f => ?_⟩
  cases y <;> first | exact q.elim | skip
  · obtain ⟨w, rfl, q⟩ := q
    rw [rx.str, ry.str]
    exact .inr ⟨_, _, rfl, rfl, fin_at f q rh rv_bl⟩
  · obtain ⟨c1, c2, q⟩ := q
    obtain ⟨a, vs, rfl, ta, rs⟩ := ry.tup
    exact .inl ⟨a, vs, rfl, .inr ta, flat_of c1 rx, flats_of c2 rs, by rw [inF_of c1 rx c2 rs]; exact fin_at f q rh rv_bl⟩
  · obtain ⟨c1, c2, q⟩ := q
    obtain ⟨a, vs, rfl, ta, rs⟩ := ry.rl
    exact .inl ⟨a, vs, rfl, .inl ta.l, flat_of c1 rx, flats_of c2 rs, by rw [inF_of c1 rx c2 rs]; exact fin_at f q rh rv_bl⟩
  · obtain ⟨ds, e, c1, c2, q⟩ := q
    rw [ry.ref]
    obtain ⟨vs, E, rs⟩ := rh.lst e
    exact .inl ⟨_, vs, rfl, .inl (.of E), flat_of c1 rx, flats_of c2 rs, by rw [inF_of c1 rx c2 rs]; exact fin_at f q rh rv_bl⟩
/-! ### is -/
def isN : D → Bool | .non => true | _ => false
def rIs (neg : Bool) : MR2 := fun x y h Q => match y with
  | .non => Q (.bl (if neg then !isN x else isN x)) h
  | .bl b => ∃ a, x = .bl a ∧ Q (.bl (if neg then !decide (a = b) else decide (a = b))) h
  | _ => False
theorem isN_of {K : PySem.W.Frag} {H : Hp} {x : D} {v : V} (r : RV K H x v) : decide (v = .non) = isN x := by
  cases x <;> simp only [RV] at r <;> first | (subst r; rfl) | (obtain ⟨a, vs, e, _⟩ := r; subst e; rfl)
theorem om_is : OpM X (compareOp .Is) (rIs false) := by
  refine ⟨_, op_isN.or op_isBl, fun x y h Q0 vx vy H Q q rh rx ry f => ?_⟩
  cases y <;> first | exact q.elim | skip
  · exact .inl ⟨ry.non, by rw [isN_of rx]; exact fin_at f q rh rv_bl⟩
  · obtain ⟨a, rfl, q⟩ := q
    rw [rx.bl, ry.bl]
    exact .inr ⟨_, _, rfl, rfl, fin_at f q rh rv_bl⟩
theorem om_isnot : OpM X (compareOp .IsNot) (rIs true) := by
  refine ⟨_, op_notN.or op_notBl, fun x y h Q0 vx vy H Q q rh rx ry f => ?_⟩
  cases y <;> first | exact q.elim | skip
  · exact .inl ⟨ry.non, by rw [isN_of rx]; exact fin_at f q rh rv_bl⟩
  · obtain ⟨a, rfl, q⟩ := q
    rw [rx.bl, ry.bl]
    exact .inr ⟨_, _, rfl, rfl, fin_at f q rh rv_bl⟩
/-! ### max, min, sorted of ints in a list -/
def rMaxL : MRA := fun xs h Q => match xs with
  | [.ref a] => ∃ ns : List Int, h a = some (.lst (ns.map .int)) ∧ 0 < ns.length ∧ ∀ m, m ∈ ns → (∀ y, y ∈ ns → y ≤ m) → Q (.int m) h
  | _ => False
def rMinL : MRA := fun xs h Q => match xs with
  | [.ref a] => ∃ ns : List Int, h a = some (.lst (ns.map .int)) ∧ 0 < ns.length ∧ ∀ m, m ∈ ns → (∀ y, y ∈ ns → m ≤ y) → Q (.int m) h
  | _ => False
theorem cm_maxL (hc : X.calm = true) : CaM X (.builtin "max") rMaxL := by
  refine ⟨_, cr_max hc, fun xs h Q0 vs H Q q rh rs f => ?_⟩
  unfold rMaxL at q
  split at q
  · obtain ⟨v, rfl, rx⟩ := rs.one
    rw [rx.ref]
    obtain ⟨ns, e, l, q⟩ := q
    obtain ⟨vs, E, rs⟩ := rh.lst e
    rw [rs.ints] at E
    exact ⟨_, ns, rfl, .of E, l, fun m h1 h2 => fin_at f (q m h1 h2) rh rv_int⟩
  · exact q.elim
theorem cm_minL (hc : X.calm = true) : CaM X (.builtin "min") rMinL := by
  refine ⟨_, cr_min hc, fun xs h Q0 vs H Q q rh rs f => ?_⟩
  unfold rMinL at q
  split at q
  · obtain ⟨v, rfl, rx⟩ := rs.one
    rw [rx.ref]
    obtain ⟨ns, e, l, q⟩ := q
    obtain ⟨vs, E, rs⟩ := rh.lst e
    rw [rs.ints] at E
    exact ⟨_, ns, rfl, .of E, l, fun m h1 h2 => fin_at f (q m h1 h2) rh rv_int⟩
  · exact q.elim
end
end M

namespace M
open PySem L2
/-! ### isinstance -/
def tyD (h : MH) : D → String
  | .non => "NoneType"
  | .bl _ => "bool"
  | .int _ => "int"
  | .str _ => "str"
  | .tup _ => "tuple"
  | .tw _ => "tuple"
  | .rl _ => "list"
  | .ref a => match h a with
    | some (.lst _) => "list"
    | some (.dK _) => "dict"
    | some (.dT _) => "dict"
    | _ => "?"
def isTy (t c : String) : Bool := t == c || (t == "bool" && c == "int")
structure Kt (c : String) : Prop where
  yes : ∀ (K : PySem.W.Frag) (t : String), t = "NoneType" ∨ t = "bool" ∨ t = "int" ∨ t = "str" ∨ t = "tuple" ∨ t = "list" ∨ t = "dict" → PySem.W.kitOne K (.type t) (.type c) = some (isTy t c)
theorem kt_int : Kt "int" := ⟨fun K t h => by rcases h with e | e | e | e | e | e | e <;> subst e <;> exact kit_ty (by decide +kernel)⟩
theorem kt_bool : Kt "bool" := ⟨fun K t h => by rcases h with e | e | e | e | e | e | e <;> subst e <;> exact kit_ty (by decide +kernel)⟩
theorem kt_str : Kt "str" := ⟨fun K t h => by rcases h with e | e | e | e | e | e | e <;> subst e <;> exact kit_ty (by decide +kernel)⟩
theorem kt_tuple : Kt "tuple" := ⟨fun K t h => by rcases h with e | e | e | e | e | e | e <;> subst e <;> exact kit_ty (by decide +kernel)⟩
theorem kt_list : Kt "list" := ⟨fun K t h => by rcases h with e | e | e | e | e | e | e <;> subst e <;> exact kit_ty (by decide +kernel)⟩
theorem kt_dict : Kt "dict" := ⟨fun K t h => by rcases h with e | e | e | e | e | e | e <;> subst e <;> exact kit_ty (by decide +kernel)⟩
theorem bt_int : bootBuiltins "int" = some (.type "int") := PyProof.Rows.boot_int
theorem bt_bool : bootBuiltins "bool" = some (.type "bool") := PyProof.Rows.boot_bool
theorem bt_str : bootBuiltins "str" = some (.type "str") := PyProof.Rows.boot_str
theorem bt_tuple : bootBuiltins "tuple" = some (.type "tuple") := PyProof.Rows.boot_tuple
theorem bt_list : bootBuiltins "list" = some (.type "list") := PyProof.Rows.boot_list
theorem bt_dict : bootBuiltins "dict" = some (.type "dict") := PyProof.Rows.boot_dict
def mIsi (c : String) (a : MTE) : MTE := fun env h Q => a env h fun x h1 => tyD h1 x ≠ "?" ∧ Q (.bl (isTy (tyD h1 x) c)) h1
theorem tyX_of {K : PySem.W.Frag} {h : MH} {H : Hp} {x : D} {v : V} (n : tyD h x ≠ "?") (rh : HR K h H) (r : RV K H x v) :
    TyX K H v (.type (tyD h x)) ∧ (tyD h x = "NoneType" ∨ tyD h x = "bool" ∨ tyD h x = "int" ∨ tyD h x = "str" ∨ tyD h x = "tuple" ∨ tyD h x = "list" ∨ tyD h x = "dict") := by
  cases x with
  | non => rw [r.non]; exact ⟨.base .non, .inl rfl⟩
  | bl b => rw [r.bl]; exact ⟨.base (.bl b), .inr (.inl rfl)⟩
  | int b => rw [r.int]; exact ⟨.base (.int b), .inr (.inr (.inl rfl))⟩
  | str b => rw [r.str]; exact ⟨.base (.str b), .inr (.inr (.inr (.inl rfl)))⟩
  | tup ds =>
    obtain ⟨a, vs, rfl, ta, _⟩ := r.tup
    refine ⟨?_, .inr (.inr (.inr (.inr (.inl rfl))))⟩
    rcases ta with (e | ⟨o, e⟩) | ⟨o, its, n, e, c, _⟩
    · exact .base (.tup e)
    · exact .fTuple e
    · exact .kTuple e c
  | tw ds =>
    obtain ⟨a, vs, rfl, ta, _⟩ := r.tw
    refine ⟨?_, .inr (.inr (.inr (.inr (.inl rfl))))⟩
    rcases ta with (e | ⟨o, e⟩) | ⟨o, its, n, e, c, _⟩
    · exact .base (.tup e)
    · exact .fTuple e
    · exact .kTuple e c
  | rl ds =>
    obtain ⟨a, vs, rfl, ta, _⟩ := r.rl
    refine ⟨?_, .inr (.inr (.inr (.inr (.inr (.inl rfl)))))⟩
    rcases ta with ⟨o, e⟩ | ⟨o, its, n, e, c, _⟩
    · exact .base (.frz e)
    · exact .kList e c
  | ref a =>
    rw [r.ref]
    cases e : h a with
    | none => exact absurd (by show (match h a with | some (.lst _) => "list" | some (.dK _) => "dict" | some (.dT _) => "dict" | _ => "?") = "?"; rw [e]) n
    | some o =>
      cases o with
      | lst ds =>
        have e1 : tyD h (.ref a) = "list" := by show (match h a with | some (.lst _) => "list" | some (.dK _) => "dict" | some (.dT _) => "dict" | _ => "?") = "list"; rw [e]
        obtain ⟨vs, E, _⟩ := rh.lst e
        rw [e1]
        exact ⟨.base (.lst E), .inr (.inr (.inr (.inr (.inr (.inl rfl)))))⟩
      | dK ds =>
        have e1 : tyD h (.ref a) = "dict" := by show (match h a with | some (.lst _) => "list" | some (.dK _) => "dict" | some (.dT _) => "dict" | _ => "?") = "dict"; rw [e]
        obtain ⟨vs, E, _⟩ := rh.dK e
        rw [e1]
        exact ⟨.base (.dK E), .inr (.inr (.inr (.inr (.inr (.inr rfl)))))⟩
      | dT ds =>
        have e1 : tyD h (.ref a) = "dict" := by show (match h a with | some (.lst _) => "list" | some (.dK _) => "dict" | some (.dT _) => "dict" | _ => "?") = "dict"; rw [e]
        obtain ⟨vs, E, _⟩ := rh.dT e
        rw [e1]
        exact ⟨.base (.dT E), .inr (.inr (.inr (.inr (.inr (.inr rfl)))))⟩
      | fT fs ws od => exact absurd (by show (match h a with | some (.lst _) => "list" | some (.dK _) => "dict" | some (.dT _) => "dict" | _ => "?") = "?"; rw [e]) n
      | dN fs => exact absurd (by show (match h a with | some (.lst _) => "list" | some (.dK _) => "dict" | some (.dT _) => "dict" | _ => "?") = "?"; rw [e]) n
      | fN fs ws od => exact absurd (by show (match h a with | some (.lst _) => "list" | some (.dK _) => "dict" | some (.dT _) => "dict" | _ => "?") = "?"; rw [e]) n
section
variable {X : Cx} {Hb : Hp} {e : Expr} {es : List Expr} {me : MTE} {pos p p2 : Pos} {c : Str} {cn : String}
theorem ie_isi (hm : X.mg "isinstance" = none) (hmc : X.mg c = none) (he : IE X Hb e me) (hv : bootBuiltins c = some (.type cn)) (k : Kt cn) (hg : Gl X "isinstance" := by rfl) (hgc : Gl X c := by rfl) (hn : c ≠ "__name__" := by decide) (hd : (c == ("__debug__" : Str)) = false := by decide)
    (hs : starEach [e, .Name c p2] X.env = (false, eval e X.env) :: starEach [.Name c p2] X.env := by rfl) (hs2 : starEach [.Name c p2] X.env = (false, eval (.Name c p2) X.env) :: starEach [] X.env := by rfl) (hpl : (backTo pos (starEach [.Name c p2] X.env)).any (·.1) = false := by rfl) :
    IE X Hb (.Call (.Name "isinstance" p) [e, .Name c p2] [] pos) (mIsi cn me) := by
  refine pe_w (pe_callB call_isi hg hm PyProof.Rows.boot_isinstance (pa_cons he (pa_cons (pe_bltn (v := .ty cn) hgc hmc hv rfl hn hd) pa_nil hs2) hs) (by decide) (by decide) hs hpl) fun σ H Q ⟨env, h, Q0, re, rh, m, f⟩ => ?_
  refine ⟨env, h, _, re, rh, m, fun x h1 q v H1 t1 r1 rx => ?_⟩
  obtain ⟨ty, cs⟩ := tyX_of q.1 r1 rx
  exact ⟨v, .ty cn, _, _, _, rfl, .ty cn, ty, k.yes _ _ cs, f _ h1 q.2 _ H1 t1 r1 rv_bl⟩
/-! ### a list unpacked -/
def mAsgL (a : MTE) (ts : List Tg) : MTS := fun D' env h => a env h fun d h1 => ∃ b ds, d = .ref b ∧ h1 b = some (.lst ds) ∧ ∃ env', asgs ts ds env = some env' ∧ D'.nx env' h1
theorem is_asgL {ts : List Tg} {k : Nat} {pt : Pos} (hc : X.calm = true) (he : IE X Hb e me) (hg : IGs X es ts) (hn : (assignEach es X.env).length = ts.length := by rfl) (hst : (assignEach es X.env).findIdx? (·.1) = none := by rfl)
    (hs : swapsWithSole [.Tuple es k pt] e pos.line X.env = pure false := by rfl) (hw : swappedStores [.Tuple es k pt] e X.env = pure none := by rfl)
    (h1 : (assignEach [.Tuple es k pt] X.env).map (·.2) = [assign (.Tuple es k pt) X.env] := by rfl) : IS X Hb (.Assign [.Tuple es k pt] e pos) (mAsgL me ts) := by
  refine is_of (ps_asg he (pg_unl (t := gTs X.K ts) (n := ts.length) hc hg hn hst) hs hw h1) fun D' σ H env h D0 re rh m f => ?_
  refine ⟨env, h, _, re, rh, m, ?_⟩
  rintro d h1 ⟨b, ds, rfl, e1, env', e2, q⟩ v H1 t1 r1 rv
  obtain ⟨vs, E, rs⟩ := r1.lst e1
  rw [rv.ref]
  obtain ⟨σ', k1, k2, _⟩ := gTs_ok e2 rs (re.mono t1)
  exact ⟨b, vs, rfl, .of E, by rw [asgs_len e2, rs.length], k1 _ (f.nx env' h1 q σ' H1 t1 k2 r1)⟩
end
/-! ### a def of the text, a constant of the text -/
structure Fd (K : PySem.W.Frag) (mg : Str → Option Value) (x qual : Str) (st : Stmt) (ps : List Str) where
  a : Addr
  fd : FuncData
  F : Fun K x qual st a fd
  b : Binds K fd ps []
  m : mg x = some (.ref a)
structure Gc (K : PySem.W.Frag) (mg : Str → Option Value) (x : Str) (d : D) where
  u : Value
  v : V
  m : mg x = some u
  r : RelV v u
  rv : ∀ H, RV K H d v
theorem Gc.ie {X : Cx} {Hb : Hp} {x : Str} {d : D} {pos : Pos} (g : Gc X.K X.mg x d) (hg : Gl X x := by rfl) (hd : (x == ("__debug__" : Str)) = false := by decide) : IE X Hb (.Name x pos) (mC d) := ie_c (pe_glob hg g.m g.r hd) g.rv
/-! ### the end -/
theorem start_law {K : PySem.W.Frag} {H : Hp} {a : Addr} {ns : List Int} {sp : MSp} (hl : ns.length ≤ 63) (hb : ∀ z ∈ ns, Builtin.Int.intBits z ≤ 1048576) (hO : Only H) (hS : SqL K H a (ns.map V.int))
    (h : sp [.rl (ns.map .int)] (fun _ => none) (fun d _ => d = .bl true) noE) : liftSp K sp [.ref a] H (fun v _ => v = .bl true) fun _ _ _ => False := by
  have hI : SqI K H a (ns.map V.int) := by
    rcases hS with (e | ⟨o, e⟩) | e
    · rcases hO a with z | ⟨o, xs, z⟩
      · rw [e] at z; cases z
      · rw [e] at z; cases z
    · exact .inl ⟨o, e⟩
    · exact .inr e
  refine ⟨_, _, _, _, .cons ?_ .nil, fun _ _ e => (by cases e), h, fun d h' q v H' t rh rv => ?_, fun _ _ q => q.elim⟩
  · simp only [RV]
    exact ⟨a, _, rfl, hI, .of_ints⟩
  · subst q
    exact rv.bl
/-! ### frames -/
def Fr (S : List Addr) (h h' : MH) : Prop := ∀ b o, b ∉ S → h b = some o → h' b = some o
theorem Fr.refl {S : List Addr} {h : MH} : Fr S h h := fun _ _ _ e => e
theorem Fr.trans {S : List Addr} {h h1 h2 : MH} (a : Fr S h h1) (b : Fr S h1 h2) : Fr S h h2 := fun c o n e => b c o n (a c o n e)
theorem Fr.mono {S S' : List Addr} {h h1 : MH} (a : Fr S h h1) (s : ∀ x ∈ S, x ∈ S') : Fr S' h h1 := fun c o n e => a c o (fun z => n (s _ z)) e
theorem Fr.new {S : List Addr} {h : MH} {p : Addr} {o : MO} (n : h p = none) : Fr S h (up h p o) := fun b u _ e => by rw [up_ne (ne_of e n)]; exact e
theorem Fr.put {S : List Addr} {h : MH} {p : Addr} {o : MO} (n : p ∈ S) : Fr S h (up h p o) := fun b u nb e => by rw [up_ne (fun z => nb (by rw [z]; exact n))]; exact e
theorem Fr.at0 {h h' : MH} (f : Fr [] h h') {a : Addr} {o : MO} (e : h a = some o) : h' a = some o := f a o (by simp) e
theorem Fr.at1 {h h' : MH} {p a : Addr} {o : MO} (f : Fr [p] h h') (e : h a = some o) (n : a ≠ p) : h' a = some o := f a o (by simpa using n) e
theorem Fr.free {h h' : MH} (f : Fr [] h h') {a : Addr} (e : h' a = none) : h a = none := by
  cases q : h a with
  | none => rfl
  | some o => rw [f.at0 q] at e; cases e
/-! ### the walk -/
theorem seq_ {a b : MTS} {D' : MEnds} {env : ME} {h : MH} (k : a { D' with nx := b D' } env h) : mSeq a b D' env h := k
theorem ite_ {c : Prop} [Decidable c] {A B : Prop} (h1 : c → A) (h2 : ¬ c → B) : if decide c = true then A else B := by
  by_cases h : c
  · rw [if_pos (decide_eq_true h)]; exact h1 h
  · rw [if_neg (by simpa using h)]; exact h2 h
theorem iteb_ {c : Bool} {A B : Prop} (h1 : c = true → A) (h2 : c = false → B) : if c = true then A else B := by
  cases c with
  | true => rw [if_pos rfl]; exact h1 rfl
  | false => rw [if_neg Bool.false_ne_true]; exact h2 rfl
end M
namespace M
open PySem L2
section
variable {D' : MEnds} {env : ME} {h : MH} {e o i : MTE} {a b : MTS} {c : MTT} {n j : Nat} {t : Tg} {ts : List Tg} {r : MR2} {rs : MRSet}
theorem set_ (k : e env h fun d h1 => D'.nx (env.set n (some d)) h1) : mSet n e D' env h := k
theorem ret_ (k : e env h D'.rt) : mRet e D' env h := k
theorem retN_ (k : D'.rt .non h) : mRetN D' env h := k
theorem drop_ (k : e env h fun _ h1 => D'.nx env h1) : mDrop e D' env h := k
theorem next_ (k : D'.nx env h) : mNext D' env h := k
theorem brk_ (k : D'.bk env h) : mBrk D' env h := k
theorem ct_ (k : D'.ct env h) : mCt D' env h := k
theorem if_ (k : c env h fun k h1 => if k = true then a D' env h1 else b D' env h1) : mIf c a b D' env h := k
theorem asg_ (k : e env h fun d h1 => ∃ env', asg t d env = some env' ∧ D'.nx env' h1) : mAsg e t D' env h := k
theorem asgL_ (k : e env h fun d h1 => ∃ b ds, d = .ref b ∧ h1 b = some (.lst ds) ∧ ∃ env', asgs ts ds env = some env' ∧ D'.nx env' h1) : mAsgL e ts D' env h := k
theorem put_ (k : e env h fun d h1 => o env h1 fun x h2 => i env h2 fun y h3 => rs x y d h3 fun h4 => D'.nx env h4) : mPut rs e o i D' env h := k
theorem for_ {i : MTI} (k : i env h fun S h1 => ForW S t a D' env h1) : mFor i t a D' env h := k
theorem while_ (W : Nat → ME → MH → Prop) (m : Nat) (w0 : W m env h) (turn : ∀ m env h, W m env h →
  c env h fun k h1 => if k = true then a { D' with nx := fun env' h' => ∃ m', m' < m ∧ W m' env' h', ct := fun env' h' => ∃ m', m' < m ∧ W m' env' h', bk := D'.nx } env h1 else D'.nx env h1) : mWhile c a D' env h := ⟨W, ⟨m, w0⟩, turn⟩
/-- the loop's word -/
theorem forW {S : MSrc} {h1 : MH} (W : Nat → ME → MH → Prop) (w0 : W 0 env h1) (ok : ∀ k env' h', W k env' h' → S.ok h') (turn : ∀ k env' h', k < S.n → W k env' h' →
    ∃ env2, asg t (S.item k) env' = some env2 ∧ a { D' with nx := W (k + 1), ct := W (k + 1), bk := D'.nx } env2 h') (fin : ∀ env' h', W S.n env' h' → D'.nx env' h') : ForW S t a D' env h1 :=
  ⟨W, w0, fun k env' h' hk w => ⟨ok k env' h' w, fun hl => turn k env' h' hl w, fun e => fin env' h' (e ▸ w)⟩⟩
/-- a comprehension whose element and test leave the heap's things as they are -/
theorem lcW {S : MSrc} {h1 : MH} {Q : MQ} {tt : MTT} {vs : List Nat} (f : Nat → Option D) (ok : ∀ h', Fr [] h1 h' → S.ok h') (hz : S.n ≤ 100000) (turn : ∀ k h', k < S.n → Fr [] h1 h' →
    ∃ env2, asg t (S.item k) (mwipe env vs) = some env2 ∧ ∀ R : Bool → MH → Prop, (∀ h3, Fr [] h' h3 → R (f k).isSome h3) → tt env2 h' R)
    (el : ∀ k h' env2 d, k < S.n → Fr [] h1 h' → asg t (S.item k) (mwipe env vs) = some env2 → f k = some d → ∀ R : MQ, (∀ h3, Fr [] h' h3 → R d h3) → e env2 h' R)
    (fin : ∀ p h', Fr [] h1 h' → h1 p = none → h' p = some (.lst ((List.range S.n).filterMap f)) → Q (.ref p) h') : LcW S t tt e vs env h1 Q := by
  intro p np
  refine ⟨fun k h' => Fr [] h1 h' ∧ h' p = some (.lst ((List.range k).filterMap f)), ⟨.new np, up_same⟩, fun k h' hk ⟨fr, ep⟩ => ⟨ok h' fr, fun hl => ?_, fun e => fin p h' fr np (e ▸ ep)⟩⟩
  obtain ⟨env2, ea, ht⟩ := turn k h' hl fr
  refine ⟨env2, ea, ht _ fun h3 f3 => ?_⟩
  have e3 := f3.at0 ep
  have sz : ((List.range k).filterMap f).length < sizeLine := by
    have := List.length_filterMap_le f (List.range k)
    rw [List.length_range] at this
    rw [sizeLine_eq]; omega
  cases q : f k with
  | none =>
    refine ⟨fr.trans f3, ?_⟩
    rw [List.range_succ, List.filterMap_append, List.filterMap_cons, q, List.filterMap_nil, List.append_nil]
    exact e3
  | some d =>
    refine el k h3 env2 d hl (fr.trans f3) ea q _ fun h4 f4 => ?_
    refine ⟨_, f4.at0 e3, sz, fun b o nb e => ?_, ?_⟩
    · rw [up_ne (ne_of e np)]
      exact f4.at0 (f3.at0 (fr.at0 e))
    · rw [up_same, List.range_succ, List.filterMap_append, List.filterMap_cons, q, List.filterMap_nil]
theorem par_ (k : e env h fun x h1 => o env h1 fun y h2 => D'.nx ((env.set n (some x)).set j (some y)) h2) : mPar n j e o D' env h := k
theorem aug_ (k : ∃ x, env[n]? = some (some x) ∧ e env h fun y h1 => r x y h1 fun z h2 => D'.nx (env.set n (some z)) h2) : mAug n r e D' env h := k
end
section
variable {α : Type} {x y z u v w : α} {xs : List α}
theorem at0 : atI (x :: xs) 0 = some x := atI_nat (j := 0) rfl
theorem at1 : atI (x :: y :: xs) 1 = some y := atI_nat (j := 1) rfl
theorem at2 : atI (x :: y :: z :: xs) 2 = some z := atI_nat (j := 2) rfl
theorem at3 : atI (x :: y :: z :: u :: xs) 3 = some u := atI_nat (j := 3) rfl
theorem at4 : atI (x :: y :: z :: u :: v :: xs) 4 = some v := atI_nat (j := 4) rfl
theorem at5 : atI (x :: y :: z :: u :: v :: w :: xs) 5 = some w := atI_nat (j := 5) rfl
end
theorem srcR_item {lo c : Int} {n k : Nat} : (srcR lo n c).item k = .int (lo + (k : Nat) * c) := rfl
theorem srcR_n {lo c : Int} {n : Nat} : (srcR lo n c).n = n := rfl
theorem srcD_n {ds : List D} {ok : MH → Prop} : (srcD ds ok).n = ds.length := rfl
theorem srcE_n {ds : List D} {ok : MH → Prop} : (srcE ds ok).n = ds.length := rfl
theorem srcZ_n {ds es : List D} {ok : MH → Prop} : (srcZ ds es ok).n = min ds.length es.length := rfl
theorem srcD_item {ds : List D} {ok : MH → Prop} {k : Nat} : (srcD ds ok).item k = ds.getD k .non := rfl
theorem srcE_item {ds : List D} {ok : MH → Prop} {k : Nat} : (srcE ds ok).item k = .tw [.int (k : Nat), ds.getD k .non] := rfl
theorem srcZ_item {ds es : List D} {ok : MH → Prop} {k : Nat} : (srcZ ds es ok).item k = .tw [ds.getD k .non, es.getD k .non] := rfl
end M

namespace M
open PySem L2
/-! ### more rules -/
def mRev (a : MTE) : MTE := fun env h Q => a env h fun x h1 => match x with
  | .rl ds => ∀ p, h1 p = none → Q (.ref p) (up h1 p (.lst ds.reverse))
  | .ref a => ∃ ds, h1 a = some (.lst ds) ∧ ∀ p, h1 p = none → Q (.ref p) (up h1 p (.lst ds.reverse))
  | _ => False
theorem RVs.reverse {K : PySem.W.Frag} {H : Hp} : ∀ {ds : List D} {vs : List V}, RVs K H ds vs → RVs K H ds.reverse vs.reverse
  | [], _, h => by rw [h.inv0]; exact .nil
  | d :: ds, _, h => by
    obtain ⟨v, r, rfl, q, t⟩ := h.inv
    rw [List.reverse_cons, List.reverse_cons]
    exact t.reverse.append (.cons q .nil)
theorem rgV_ints (a b : Int) : rgV a b = ((List.range (b - a).toNat).map fun i => a + (i : Nat)).map V.int := by
  unfold rgV; rw [List.map_map]; rfl
def rgI (a b : Int) : List Int := (List.range (b - a).toNat).map fun i => a + (i : Nat)
def mTupR1 (a : MTE) : MTE := fun env h Q => a env h fun x h1 => ∃ j, x = .int j ∧ RgOk 0 j ∧ Q (.tup ((rgI 0 j).map .int)) h1
def mLstR1 (a : MTE) : MTE := fun env h Q => a env h fun x h1 => ∃ j, x = .int j ∧ RgOk 0 j ∧ ∀ p, h1 p = none → Q (.ref p) (up h1 p (.lst ((rgI 0 j).map .int)))
section
variable {X : Cx} {Hb : Hp} {a e o i : Expr} {ma me mo mi : MTE} {pos p p2 p3 pa : Pos} {k : Nat}
theorem ie_revL (he : IE X Hb e me) : IE X Hb (.Subscript e (.Slice none none (some (.UnaryOp .USub (.Constant (.int 1) k p) p2)) p3) pos) (mRev me) := by
  refine pe_w (pe_revL he) fun σ H Q ⟨env, h, Q0, re, rh, m, f⟩ => ?_
  refine ⟨env, h, _, re, rh, m, fun x h1 q v H1 t1 r1 rx => ?_⟩
  have f1 := Fin.mono t1 f
  cases x <;> first | exact q.elim | skip
  · obtain ⟨a, vs, rfl, ta, rs⟩ := rx.rl
    exact ⟨a, vs, rfl, ta.l, fun p np => f1 _ _ (q p (r1.free np)) _ _ (.new np) (r1.new np (ro_lst rs.reverse)) rv_ref⟩
  · obtain ⟨ds, e, q⟩ := q
    rw [rx.ref]
    obtain ⟨vs, E, rs⟩ := r1.lst e
    exact ⟨_, vs, rfl, .of E, fun p np => f1 _ _ (q p (r1.free np)) _ _ (.new np) (r1.new np (ro_lst rs.reverse)) rv_ref⟩
def tTupRgN (te : L2.St → Hp → (Int → Int → Hp → Prop) → Prop) : TE := fun σ H Q => te σ H fun a b H1 => RgOk a b ∧ ∀ q od, H1 q = none → od.dict = none → Q (.ref q) (upd H1 q (.frz od (.tup (rgV a b))))
open PySem.Spec PyProof PyProof.Rows in
theorem pe_tupRgN {X : Cx} {e : Expr} {te : L2.St → Hp → (Int → Int → Hp → Prop) → Prop} {p pos : Pos} (hc : X.calm = true) (hg : Gl X "tuple") (hm : X.mg "tuple" = none) (he : PRg X e te) (na : starEach [e] X.env = (false, eval e X.env) :: starEach [] X.env := by rfl) : PE X (.Call (.Name "tuple" p) [e] [] pos) (tTupRgN te) := by
  refine ⟨fun pins s σ H Q I h => ?_⟩
  refine Call_ (ld_blt I hg hm PyProof.Rows.boot_tuple (PyProof.Rows.callWith_type1 (args_cons (thn (he pins s σ H _ I h) fun x s1 ⟨r, a, b, t, u, v, H1, ex, hr, I1, ok, q⟩ => args_nil ?_) na) na))
  subst ex
  obtain ⟨b1, b2, b3, b4, b5⟩ := ok
  refine call_tuple_range (n := (b - a).toNat) (I1.ok.hd hc) hr (small_one b1 b2 b3 b4) (rangeSize_nat a b) b5 fun h' tk acc hk hi => ?_
  have I2 : Inv X pins σ H1 { s1 with heap := h', toks := tk } := I1.kept hk
  have e : acc.toList.toArray = acc := Array.toArray_toList
  have ok := okN (P := X.prog) (w := X.w) (h := h') (H := upd H1 h'.objs.size (.frz (tob acc.toList) (.tup (rgV a b)))) (by rw [rgV_length, sizeLine_eq]; omega) (vals_rg hi)
  have I3 := I2.laid (a := h'.objs.size) (t' := tk) (fun c o e => Heap.get?_push_of_some (h := h') (tob acc.toList) e) (Nat.le_refl _) ok
  unfold tob at I3
  rw [e] at I3
  exact ⟨.ref h'.objs.size, _, I3, rfl, q _ _ (I2.hok.fresh (Nat.le_refl _)) rfl⟩
theorem ie_tupR1 (hm : X.mg "tuple" = none) (hr : X.mg "range" = none) (ha : IE X Hb a ma) (hc : X.calm = true := by rfl) (hg : Gl X "tuple" := by rfl) (hg2 : Gl X "range" := by rfl) (na : starEach [a] X.env = (false, eval a X.env) :: starEach [] X.env := by rfl)
    (na2 : starEach [.Call (.Name "range" p2) [a] [] pa] X.env = (false, eval (.Call (.Name "range" p2) [a] [] pa) X.env) :: starEach [] X.env := by rfl) : IE X Hb (.Call (.Name "tuple" p) [.Call (.Name "range" p2) [a] [] pa] [] pos) (mTupR1 ma) := by
  refine pe_w (pe_tupRgN hc hg hm (prg_1 hg2 hr ha na) na2) fun σ H Q ⟨env, h, Q0, re, rh, m, f⟩ => ?_
  refine ⟨env, h, _, re, rh, m, ?_⟩
  rintro d h1 ⟨j, rfl, ok, q⟩ v H1 t1 r1 rx
  rw [rx.int]
  refine ⟨j, rfl, ok, fun p od np nd => ?_⟩
  rw [rgV_ints]
  exact f _ h1 q _ _ (t1.trans (.new np)) (r1.skip np) (rv_tup (.of upd_same nd) .of_ints)
theorem ie_lstR1 (hm : X.mg "list" = none) (hr : X.mg "range" = none) (ha : IE X Hb a ma) (hc : X.calm = true := by rfl) (hg : Gl X "list" := by rfl) (hg2 : Gl X "range" := by rfl) (na : starEach [a] X.env = (false, eval a X.env) :: starEach [] X.env := by rfl)
    (na2 : starEach [.Call (.Name "range" p2) [a] [] pa] X.env = (false, eval (.Call (.Name "range" p2) [a] [] pa) X.env) :: starEach [] X.env := by rfl) : IE X Hb (.Call (.Name "list" p) [.Call (.Name "range" p2) [a] [] pa] [] pos) (mLstR1 ma) := by
  refine pe_w (pe_listRg hc hg hm (prg_1 hg2 hr ha na) na2) fun σ H Q ⟨env, h, Q0, re, rh, m, f⟩ => ?_
  refine ⟨env, h, _, re, rh, m, ?_⟩
  rintro d h1 ⟨j, rfl, ok, q⟩ v H1 t1 r1 rx
  rw [rx.int]
  refine ⟨j, rfl, ok, fun p np => ?_⟩
  rw [rgV_ints]
  exact f _ _ (q p (r1.free np)) _ _ (t1.trans (.new np)) (r1.new np (ro_lst .of_ints)) rv_ref
def rPopAt : MRM := fun x xs h Q => match x, xs with
  | .ref a, [.int i] => ∃ ds, h a = some (.lst ds) ∧ 0 ≤ i ∧ i < ds.length ∧ ds.length < 2 ^ 62 ∧ ∃ y, ds[i.toNat]? = some y ∧ Q y (up h a (.lst (ds.eraseIdx i.toNat)))
  | _, _ => False
theorem RVs.eraseIdx {K : PySem.W.Frag} {H : Hp} : ∀ {ds : List D} {vs : List V} (n : Nat), RVs K H ds vs → RVs K H (ds.eraseIdx n) (vs.eraseIdx n)
  | [], _, _, h => by rw [h.inv0]; exact .nil
  | d :: ds, _, 0, h => by
    obtain ⟨v, r, rfl, q, t⟩ := h.inv
    exact t
  | d :: ds, _, n + 1, h => by
    obtain ⟨v, r, rfl, q, t⟩ := h.inv
    exact .cons q (t.eraseIdx n)
theorem mi_popAt : MtI X "list.pop" rPopAt := by
  refine ⟨_, mt_popAt, fun x xs h Q0 vx vs H Q q rh rx rs f => ?_⟩
  unfold rPopAt at q
  split at q
  · rename_i a i
    obtain ⟨ds, e, i0, i1, i2, y, ey, q⟩ := q
    obtain ⟨v, rfl, ry⟩ := rs.one
    obtain ⟨ws, E, rt⟩ := rh.lst e
    rw [rx.ref, ry.int]
    obtain ⟨u, eu, ru⟩ := rt.get ey
    have t : TL H (upd H _ (.lst (ws.eraseIdx i.toNat))) := .put E (fun _ z => by cases z) (fun _ _ z => by cases z)
    have hl := rt.length
    have e2 : ixN ws.length i = some i.toNat := by
      unfold ixN
      rw [if_pos i0, if_pos (by omega)]
    exact ⟨_, ws, i, i.toNat, u, rfl, rfl, E, by omega, by omega, (ixN_seq e2).1, eu, f _ _ q _ _ t (rh.put t (ro_lst ((rt.eraseIdx _).mono t))) (ru.mono t)⟩
  · exact q.elim
def rPop : MRM := fun x xs h Q => match x, xs with
  | .ref a, [] => ∃ ds, h a = some (.lst ds) ∧ ∃ y, ds[ds.length - 1]? = some y ∧ Q y (up h a (.lst ds.dropLast))
  | _, _ => False
theorem RVs.dropLast {K : PySem.W.Frag} {H : Hp} {ds : List D} {vs : List V} (h : RVs K H ds vs) : RVs K H ds.dropLast vs.dropLast := by
  rw [List.dropLast_eq_take, List.dropLast_eq_take, h.length]; exact h.take _
theorem mi_pop : MtI X "list.pop" rPop := by
  refine ⟨_, mt_pop, fun x xs h Q0 vx vs H Q q rh rx rs f => ?_⟩
  unfold rPop at q
  split at q
  · obtain ⟨ds, e, y, ey, q⟩ := q
    obtain ⟨ws, E, rt⟩ := rh.lst e
    rw [rx.ref, rs.inv0]
    obtain ⟨u, eu, ru⟩ := rt.get ey
    have t : TL H (upd H _ (.lst ws.dropLast)) := .put E (fun _ z => by cases z) (fun _ _ z => by cases z)
    exact ⟨_, ws, u, rfl, rfl, E, by rw [← rt.length]; exact eu, f _ _ q _ _ t (rh.put t (ro_lst (rt.dropLast.mono t))) (ru.mono t)⟩
  · exact q.elim
/-! ### sorted ints of a list -/
def rSorted : MRA := fun xs h Q => match xs with
  | [.ref a] => ∃ ns : List Int, h a = some (.lst (ns.map .int)) ∧ ∀ (ns' : List Int) p, ns'.Perm ns → ns'.Pairwise (· ≤ ·) → h p = none → Q (.ref p) (up h p (.lst (ns'.map .int)))
  | _ => False
theorem cm_sorted : CaM X (.builtin "sorted") rSorted := by
  refine ⟨_, cr_sortedI, fun xs h Q0 vs H Q q rh rs f => ?_⟩
  unfold rSorted at q
  split at q
  · obtain ⟨v, rfl, rx⟩ := rs.one
    rw [rx.ref]
    obtain ⟨ns, e, q⟩ := q
    obtain ⟨vs, E, rs⟩ := rh.lst e
    rw [rs.ints] at E
    exact ⟨_, ns, rfl, .of E, fun ns' p h1 h2 np => f _ _ (q ns' p h1 h2 (rh.free np)) _ _ (.new np) (rh.new np (ro_lst .of_ints)) rv_ref⟩
  · exact q.elim
/-! ### xs[i] op= e -/
def mAugS (r : MR2) (o i e : MTE) : MTS := fun D' env h => o env h fun x h1 => i env h1 fun y h2 => rIx x y h2 (fun z h3 => e env h3 fun w h4 => r z w h4 fun u h5 => rSetL x y u h5 fun h6 => D'.nx env h6) ∧ ∃ a, x = .ref a
theorem pget_list : PGet X (rIxL X.K) := by
  intro pins s σ H x y v u Q I rx ry h
  obtain ⟨p, xs, i, z, rfl, rfl, hq, he, q⟩ := h
  cases rx
  obtain ⟨t, rfl⟩ := ry
  obtain ⟨its, r, pl, hz⟩ := I.list hq
  obtain ⟨j, h1, h2, h3, h4, h5⟩ := atI_get he
  obtain ⟨w, ew, rw'⟩ := r.get h2
  have hl := r.length
  have hn := L2.line63
  have fin : EP X pins σ Q w s := ⟨z, H, I, rw', q⟩
  by_cases h0 : 0 ≤ i
  · have hj : i.toNat = j := by
      rw [seqIndex_of h0 h5] at h1
      exact Option.some.inj h1
    exact wpAny_getItem_list pl.isList h0 (by omega) (by rw [hj]; simpa using ew) fin
  · have hj : (i + (its.toArray.size : Int)).toNat = j := by
      rw [seqIndex_neg (by omega) h4] at h1
      rw [List.size_toArray, ← hl]
      exact Option.some.inj h1
    exact wpAny_getItem_list_neg pl.isList (by omega) (by rw [List.size_toArray] <;> omega) (by omega) (by rw [hj]; simpa using ew) fin
theorem is_augS {op : Operator} {r : MR2} {tpos : Pos} (hp : IpM X op r) (ho : IE X Hb o mo) (hi : IE X Hb i mi) (he : IE X Hb e me)
    (ha : ∀ ov iv new, augStore i ov iv new = (do holding [new, ov, iv] (setItem ov iv new); release [new, ov, iv] []; pure .next) := by intros; rfl) : IS X Hb (.AugAssign (.Subscript o i tpos) op e pos) (mAugS r mo mi me) := by
  obtain ⟨R, hR, hr⟩ := hp
  obtain ⟨RS, hRS, hs⟩ := se_list (X := X)
  refine is_of (ps_augS ho hi pget_list he hR hRS ha) fun D' σ H env h D0 re rh m f => ?_
  refine ⟨env, h, _, re, rh, m, fun x h1 q1 vx H1 t1 r1 rx => ?_⟩
  refine ⟨env, h1, _, re.mono t1, r1, q1, fun y h2 q2 vy H2 t2 r2 ry => ?_⟩
  have q2 : rIx x y h2 _ ∧ ∃ a, x = .ref a := q2
  obtain ⟨q2, a, rfl⟩ := q2
  cases y <;> first | exact q2.elim | skip
  rename_i k _z
  obtain ⟨ds, e0, d, ed, q2⟩ := q2
  obtain ⟨vs, E, rs⟩ := r2.lst e0
  obtain ⟨v, e1, rv⟩ := rs.atI ed
  have rx2 := rx.mono t2
  rw [rx2.ref, ry.int]
  refine ⟨a, vs, k, v, rfl, rfl, .of E, e1, ?_⟩
  refine ⟨env, h2, _, (re.mono t1).mono t2, r2, q2, fun w h4 q4 vw H4 t4 r4 rw' => ?_⟩
  refine hr d w h4 _ v vw H4 _ q4 r4 (rv.mono t4) rw' fun u h5 q5 vu H5 t5 r5 ru => ?_
  refine hs (.ref a) (.int k) u h5 _ _ _ vu H5 _ q5 r5 rv_ref rv_int ru fun h6 q6 H6 t6 r6 => ?_
  have tt := t1.trans (t2.trans (t4.trans (t5.trans t6)))
  exact f.nx env h6 q6 σ H6 tt (re.mono tt) r6
end
end M

namespace M
open PySem L2
/-- a promise of nothing (the foot of a recursion) -/
theorem fnNone {P : Program} {w : World} {K : PySem.W.Frag} {mg : Str → Option Value} {base : Heap} {CX : CXT} {k : Nat} {f : Addr} {fd : FuncData} {ps : List Str} {sp : MSp} (h : ∀ ds h Q E, ¬ sp ds h Q E) : FnOk P w K mg base CX k f fd ps (liftSp K sp) :=
  ⟨fun vs H Q E ⟨ds, hh, Q0, E0, _, _, q, _⟩ => absurd q (h _ _ _ _), fun A outer s H args us vs Q E _ _ _ _ ⟨ds, hh, Q0, E0, _, _, q, _⟩ => absurd q (h _ _ _ _)⟩
section
variable {D' : MEnds} {env : ME} {h : MH} {e o i : MTE} {a b : MTS} {c : MTT} {n j : Nat} {t : Tg} {ts : List Tg} {r : MR2} {rs : MRSet}
/-- a comprehension that changes the things at L: I tells what holds behind each item -/
theorem lcS {S : MSrc} {h1 : MH} {Q : MQ} {tt : MTT} {vs : List Nat} (L : List Addr) (I : Nat → List D → MH → Prop) (hL : ∀ a ∈ L, h1 a ≠ none)
    (stab : ∀ k acc h' p o, h1 p = none → I k acc h' → I k acc (up h' p o)) (i0 : I 0 [] h1) (ok : ∀ h', Fr L h1 h' → S.ok h') (hz : S.n ≤ 100000)
    (turn : ∀ k acc h', k < S.n → Fr L h1 h' → I k acc h' → acc.length ≤ k → ∃ env2, asg t (S.item k) (mwipe env vs) = some env2 ∧ ∀ R : Option D → MH → Prop,
      (∀ h3, Fr L h' h3 → I (k + 1) acc h3 → R none h3) → (∀ y h4, Fr L h' h4 → I (k + 1) (acc ++ [y]) h4 → R (some y) h4) →
      tt env2 h' fun b h3 => if b = true then e env2 h3 fun y h4 => R (some y) h4 else R none h3)
    (fin : ∀ p h' acc, Fr L h1 h' → h1 p = none → h' p = some (.lst acc) → I S.n acc h' → Q (.ref p) h') : LcW S t tt e vs env h1 Q := by
  intro p np
  have pL : p ∉ L := fun z => hL p z np
  refine ⟨fun k h' => Fr L h1 h' ∧ ∃ acc, h' p = some (.lst acc) ∧ acc.length ≤ k ∧ I k acc h', ⟨.new np, [], up_same, Nat.le_refl _, stab _ _ _ _ _ np i0⟩, ?_⟩
  rintro k h' hk ⟨fr, acc, ea, la, ia⟩
  refine ⟨ok h' fr, fun hl => ?_, fun e => fin p h' acc fr np ea (e ▸ ia)⟩
  obtain ⟨env2, eg, ht⟩ := turn k acc h' hl fr ia la
  refine ⟨env2, eg, ?_⟩
  have key := ht (fun d h3 => match d with
    | some y => ∃ acc, h3 p = some (.lst acc) ∧ acc.length < sizeLine ∧ (Fr L h1 (up h3 p (.lst (acc ++ [y]))) ∧ ∃ acc2, (up h3 p (.lst (acc ++ [y]))) p = some (.lst acc2) ∧ acc2.length ≤ k + 1 ∧ I (k + 1) acc2 (up h3 p (.lst (acc ++ [y]))))
    | none => Fr L h1 h3 ∧ ∃ acc, h3 p = some (.lst acc) ∧ acc.length ≤ k + 1 ∧ I (k + 1) acc h3) ?_ ?_
  · exact key
  · exact fun h3 f3 i3 => ⟨fr.trans f3, acc, f3 _ _ pL ea, by omega, i3⟩
  · intro y h4 f4 i4
    have e4 := f4 _ _ pL ea
    refine ⟨acc, e4, by rw [sizeLine_eq]; omega, fun b o nb e => ?_, _, up_same, by rw [List.length_append, List.length_singleton]; omega, stab _ _ _ _ _ np i4⟩
    rw [up_ne (ne_of e np)]
    exact f4 _ _ nb (fr _ _ nb e)
end
theorem inF_ints {x : Int} {xs : List Int} : inF (.int x) (xs.map .int) = decide (x ∈ xs) := by
  unfold inF
  rw [List.any_map]
  induction xs with
  | nil => rfl
  | cons y ys ih =>
    rw [List.any_cons, ih]
    show (y == x || _) = _
    rw [show (y == x) = decide (y = x) from rfl, ← Bool.decide_or]
    refine decide_eq_decide.mpr ?_
    rw [List.mem_cons, eq_comm]
theorem flat_ints {xs : List Int} : (xs.map D.int).all flatD = true := by
  rw [List.all_map]
  exact List.all_eq_true.mpr fun _ _ => rfl
theorem atI_ints {xs : List Int} {i : Nat} {x : Int} (h : xs[i]? = some x) : atI (xs.map D.int) (i : Int) = some (.int x) := atI_nat (by rw [List.getElem?_map, h]; rfl)
theorem atI_map {α : Type} {f : α → D} {xs : List α} {i : Nat} {x : α} (h : xs[i]? = some x) : atI (xs.map f) (i : Int) = some (f x) := atI_nat (by rw [List.getElem?_map, h]; rfl)
theorem atI_lt {ds : List D} {r : Int} (h0 : 0 ≤ r) (h1 : r < ds.length) : ∃ d, atI ds r = some d ∧ d ∈ ds := by
  have e : r = (r.toNat : Int) := by omega
  have hl : r.toNat < ds.length := by omega
  have h := atI_nat (List.getElem?_eq_getElem hl)
  rw [← e] at h
  exact ⟨ds[r.toNat], h, List.getElem_mem hl⟩
theorem ints_inj : ∀ {xs ys : List Int}, xs.map D.int = ys.map D.int → xs = ys
  | [], [], _ => rfl
  | [], _ :: _, h => by cases h
  | _ :: _, [], h => by cases h
  | x :: xs, y :: ys, h => by
    rw [List.map_cons, List.map_cons] at h
    injection h with h1 h2
    injection h1 with h1
    rw [h1, ints_inj h2]
theorem Fr.lst1 {L : List Addr} {h h' : MH} {a : Addr} {o : MO} (f : Fr L h h') (e : h a = some o) (n : a ∉ L) : h' a = some o := f a o n e

section
variable {env : ME} {e : MTE} {t : Tg}
/-- a comprehension that changes nothing that stood -/
theorem lcP {S : MSrc} {h1 : MH} {Q : MQ} {tt : MTT} {vs : List Nat} (f : Nat → Option D) (ok : ∀ h', Fr [] h1 h' → S.ok h') (hz : S.n ≤ 100000)
    (turn : ∀ k h', k < S.n → Fr [] h1 h' → ∃ env2, asg t (S.item k) (mwipe env vs) = some env2 ∧ ∀ R : Option D → MH → Prop,
      (∀ h3, Fr [] h' h3 → R (f k) h3) → tt env2 h' fun b h3 => if b = true then e env2 h3 fun y h4 => R (some y) h4 else R none h3)
    (fin : ∀ p h', Fr [] h1 h' → h1 p = none → h' p = some (.lst ((List.range S.n).filterMap f)) → Q (.ref p) h') : LcW S t tt e vs env h1 Q := by
  refine lcS [] (fun k acc _ => acc = (List.range k).filterMap f) (by simp) (fun _ _ _ _ _ _ i => i) rfl ok hz (fun k acc h' hk fr ia _ => ?_) (fun p h' acc fr np ep ia => fin p h' fr np (ia ▸ ep))
  obtain ⟨env2, ea, ht⟩ := turn k h' hk fr
  refine ⟨env2, ea, fun R r0 r1 => ht R fun h3 f3 => ?_⟩
  have e1 : (List.range (k + 1)).filterMap f = (List.range k).filterMap f ++ (match f k with | some d => [d] | none => []) := by
    rw [List.range_succ, List.filterMap_append, List.filterMap_cons]
    cases f k <;> rfl
  cases q : f k with
  | none => exact r0 h3 f3 (by rw [e1, q, List.append_nil]; exact ia)
  | some d => exact r1 d h3 f3 (by rw [e1, q, ia])
theorem range_fm {α β : Type} (xs : List α) (g : α → Option β) : (List.range xs.length).filterMap (fun k => (xs[k]?).bind g) = xs.filterMap g := by
  induction xs with
  | nil => rfl
  | cons x xs ih =>
    rw [List.length_cons, List.range_succ_eq_map, List.filterMap_cons, List.filterMap_map]
    show (match g x with | none => _ | some b => _) = _
    rw [List.filterMap_cons]
    have e : (List.range xs.length).filterMap ((fun k => ((x :: xs)[k]?).bind g) ∘ Nat.succ) = xs.filterMap g := by
      rw [← ih]; rfl
    rw [e]; cases g x <;> rfl
theorem getD_map {α : Type} {f : α → D} {xs : List α} {k : Nat} (h : k < xs.length) : (xs.map f).getD k .non = f xs[k] := by
  rw [List.getD_eq_getElem?_getD, List.getElem?_map, List.getElem?_eq_getElem h]; rfl
theorem lcL {α : Type} (xs : List α) (enc : α → D) (g : α → Option D) {okk : MH → Prop} {h1 : MH} {Q : MQ} {tt : MTT} {vs : List Nat} (ok : ∀ h', Fr [] h1 h' → okk h') (hz : xs.length ≤ 100000)
    (turn : ∀ x h', x ∈ xs → Fr [] h1 h' → ∃ env2, asg t (enc x) (mwipe env vs) = some env2 ∧ ∀ R : Option D → MH → Prop,
      (∀ h3, Fr [] h' h3 → R (g x) h3) → tt env2 h' fun b h3 => if b = true then e env2 h3 fun y h4 => R (some y) h4 else R none h3)
    (fin : ∀ p h', Fr [] h1 h' → h1 p = none → h' p = some (.lst (xs.filterMap g)) → Q (.ref p) h') : LcW (srcD (xs.map enc) okk) t tt e vs env h1 Q := by
  have hn : (srcD (xs.map enc) okk).n = xs.length := List.length_map ..
  refine lcP (fun k => (xs[k]?).bind g) ok (by rw [hn]; exact hz) (fun k h' hk fr => ?_) (fun p h' fr np ep => fin p h' fr np ?_)
  · rw [hn] at hk
    have e1 : (srcD (xs.map enc) okk).item k = enc xs[k] := getD_map hk
    rw [e1, List.getElem?_eq_getElem hk]
    exact turn xs[k] h' (List.getElem_mem hk) fr
  · rw [hn, range_fm] at ep
    exact ep
theorem fm_some {α : Type} (xs : List α) (g : α → D) : xs.filterMap (fun x => some (g x)) = xs.map g := by
  induction xs with
  | nil => rfl
  | cons x xs ih => rw [List.filterMap_cons, List.map_cons, ih]
theorem fm_if {α : Type} (xs : List α) (c : α → Bool) (g : α → D) : xs.filterMap (fun x => if c x = true then some (g x) else none) = (xs.filter c).map g := by
  induction xs with
  | nil => rfl
  | cons x xs ih =>
    rw [List.filterMap_cons, List.filter_cons]
    cases c x with
    | true => rw [if_pos rfl, if_pos rfl, List.map_cons, ih]
    | false => rw [if_neg Bool.false_ne_true, if_neg Bool.false_ne_true, ih]
end
/-! ### the operators at what they take -/
section
variable {i j : Int} {k : Nat} {h : MH} {Q : MQ} {a b : Addr} {xs ys : List D} {x y z : D} {s u : Str} {c : Bool}
theorem q_add1 : rAdd (.int i) (.int j) h Q = Q (.int (i + j)) h := rfl
theorem q_add2 : rAdd (.str s) (.str u) h Q = (s.length + u.length ≤ sizeLine ∧ Q (.str (s ++ u)) h) := rfl
theorem q_add3 : rAdd (.tup xs) (.tup ys) h Q = (xs.length + ys.length ≤ sizeLine ∧ Q (.tup (xs ++ ys)) h) := rfl
theorem q_add4 : rAdd (.ref a) (.ref b) h Q = (∃ xs ys, h a = some (.lst xs) ∧ h b = some (.lst ys) ∧ xs.length + ys.length ≤ sizeLine ∧ ∀ p, h p = none → Q (.ref p) (up h p (.lst (xs ++ ys)))) := rfl
theorem q_sub : rSub (.int i) (.int j) h Q = Q (.int (i - j)) h := rfl
theorem q_mul1 : rMul (.int i) (.int j) h Q = (MulOk i j ∧ Q (.int (i * j)) h) := rfl
theorem q_mul2 : rMul (.ref a) (.int i) h Q = (∃ xs, h a = some (.lst xs) ∧ -(2 ^ 63) ≤ i ∧ i < 2 ^ 63 ∧ xs.length * i.toNat ≤ sizeLine ∧ ∀ p, h p = none → Q (.ref p) (up h p (.lst (List.replicate i.toNat xs).flatten))) := rfl
theorem q_fdiv : rFdiv (.int i) (.int j) h Q = (DivOk j ∧ Q (.int (i / j)) h) := rfl
theorem q_fdivN : rFdivN (.int i) (.int j) h Q = (DivOkN j ∧ Q (.int (i.fdiv j)) h) := rfl
theorem q_mod : rMod (.int i) (.int j) h Q = (0 < j ∧ Q (.int (i % j)) h) := rfl
theorem q_modN : rModN (.int i) (.int j) h Q = (j ≠ 0 ∧ Q (.int (i.fmod j)) h) := rfl
theorem q_pow : rPow (.int i) (.int j) h Q = (CPow i j ∧ Q (.int (i ^ j.toNat)) h) := rfl
theorem q_shl : rShl (.int i) (.int j) h Q = (CPow i j ∧ Q (.int (i * 2 ^ j.toNat)) h) := rfl
theorem q_neg : rNeg (.int i) h Q = Q (.int (-i)) h := rfl
theorem q_lt : rLtI (.int i) (.int j) h Q = Q (.bl (decide (i < j))) h := rfl
theorem q_le : rLeI (.int i) (.int j) h Q = Q (.bl (decide (i ≤ j))) h := rfl
theorem q_gt : rGtI (.int i) (.int j) h Q = Q (.bl (decide (j < i))) h := rfl
theorem q_ge : rGeI (.int i) (.int j) h Q = Q (.bl (decide (j ≤ i))) h := rfl
theorem q_eq1 : rEq (.int i) (.int j) h Q = Q (.bl (decide (i = j))) h := rfl
theorem q_eq2 {d : Bool} : rEq (.bl c) (.bl d) h Q = Q (.bl (decide (c = d))) h := rfl
theorem q_eq3 : rEq (.str s) (.str u) h Q = Q (.bl (decide (s = u))) h := rfl
theorem q_eq4 : rEq .non .non h Q = Q (.bl true) h := rfl
theorem q_eq5 : rEq .non (.int i) h Q = Q (.bl false) h := rfl
theorem q_eq6 : rEq (.int i) .non h Q = Q (.bl false) h := rfl
theorem q_eq7 : rEq (.tup xs) y h Q = rEqD (.tup xs) y h Q := by cases y <;> rfl
theorem q_eq8 : rEq (.ref a) y h Q = rEqD (.ref a) y h Q := by cases y <;> rfl
theorem q_eq9 : rEq (.rl xs) y h Q = rEqD (.rl xs) y h Q := by cases y <;> rfl
theorem q_ne1 : rNe (.int i) (.int j) h Q = Q (.bl (!decide (i = j))) h := rfl
theorem q_ne2 {d : Bool} : rNe (.bl c) (.bl d) h Q = Q (.bl (!decide (c = d))) h := rfl
theorem q_ne3 : rNe (.str s) (.str u) h Q = Q (.bl (!decide (s = u))) h := rfl
theorem q_ne4 : rNe .non .non h Q = Q (.bl false) h := rfl
theorem q_ne5 : rNe .non (.int i) h Q = Q (.bl true) h := rfl
theorem q_ne6 : rNe (.int i) .non h Q = Q (.bl true) h := rfl
theorem q_ne7 : rNe (.tup xs) y h Q = rNeD (.tup xs) y h Q := by cases y <;> rfl
theorem q_ne8 : rNe (.ref a) y h Q = rNeD (.ref a) y h Q := by cases y <;> rfl
theorem q_ne9 : rNe (.rl xs) y h Q = rNeD (.rl xs) y h Q := by cases y <;> rfl
theorem q_iadd : rIAdd (.int i) (.int j) h Q = Q (.int (i + j)) h := rfl
theorem q_ix1 : rIx (.tup xs) (.int i) h Q = (∃ d, atI xs i = some d ∧ Q d h) := rfl
theorem q_ix2 : rIx (.rl xs) (.int i) h Q = (∃ d, atI xs i = some d ∧ Q d h) := rfl
theorem q_ix3 : rIx (.ref a) (.int i) h Q = (∃ ds, h a = some (.lst ds) ∧ ∃ d, atI ds i = some d ∧ Q d h) := rfl
theorem q_ix4 : rIx (.str s) (.int i) h Q = (s.length ≤ sizeLine ∧ ∃ c, atI s.cps.toList i = some c ∧ Q (.str ⟨#[c]⟩) h) := rfl
theorem q_sl1 {lo hi : Option Int} : rSl (.tup xs) lo hi h Q = Q (.tup (cutD xs lo hi)) h := rfl
theorem q_sl2 {lo hi : Option Int} : rSl (.rl xs) lo hi h Q = ∀ p, h p = none → Q (.ref p) (up h p (.lst (cutD xs lo hi))) := rfl
theorem q_sl3 {lo hi : Option Int} : rSl (.ref a) lo hi h Q = (∃ ds, h a = some (.lst ds) ∧ ∀ p, h p = none → Q (.ref p) (up h p (.lst (cutD ds lo hi)))) := rfl
theorem q_len1 : rLen [.tup xs] h Q = Q (.int xs.length) h := rfl
theorem q_len2 : rLen [.rl xs] h Q = Q (.int xs.length) h := rfl
theorem q_len3 : rLen [.ref a] h Q = (∃ ds, h a = some (.lst ds) ∧ Q (.int ds.length) h) := rfl
theorem q_len4 : rLen [.str s] h Q = (s.length ≤ sizeLine ∧ Q (.int s.length) h) := rfl
theorem q_abs : rAbs [.int i] h Q = Q (.int (if i < 0 then -i else i)) h := rfl
theorem q_max2 : rMax2 [.int i, .int j] h Q = Q (.int (if j > i then j else i)) h := rfl
theorem q_min2 : rMin2 [.int i, .int j] h Q = Q (.int (if j < i then j else i)) h := rfl
theorem q_int1 : rInt1 [.int i] h Q = Q (.int i) h := rfl
theorem q_int2 : rInt1 [.bl c] h Q = Q (.int (if c then 1 else 0)) h := rfl
theorem q_tuple1 : rTuple [.tup xs] h Q = Q (.tup xs) h := rfl
theorem q_tuple2 : rTuple [.rl xs] h Q = Q (.tup xs) h := rfl
theorem q_tuple3 : rTuple [.ref a] h Q = (∃ ds, h a = some (.lst ds) ∧ Q (.tup ds) h) := rfl
theorem q_list1 : rList [.tup xs] h Q = ∀ p, h p = none → Q (.ref p) (up h p (.lst xs)) := rfl
theorem q_list2 : rList [.rl xs] h Q = ∀ p, h p = none → Q (.ref p) (up h p (.lst xs)) := rfl
theorem q_list3 : rList [.ref a] h Q = (∃ ds, h a = some (.lst ds) ∧ ∀ p, h p = none → Q (.ref p) (up h p (.lst ds))) := rfl
theorem q_sum : rSum [.ref a] h Q = (∃ ns : List Int, h a = some (.lst (ns.map .int)) ∧ Q (.int ns.sum) h) := rfl
theorem q_all : rAll [.ref a] h Q = (∃ ns : List Bool, h a = some (.lst (ns.map .bl)) ∧ Q (.bl (ns.all id)) h) := rfl
theorem q_any : rAny [.ref a] h Q = (∃ ns : List Bool, h a = some (.lst (ns.map .bl)) ∧ Q (.bl (ns.any id)) h) := rfl
theorem q_maxL : rMaxL [.ref a] h Q = (∃ ns : List Int, h a = some (.lst (ns.map .int)) ∧ 0 < ns.length ∧ ∀ m, m ∈ ns → (∀ y, y ∈ ns → y ≤ m) → Q (.int m) h) := rfl
theorem q_minL : rMinL [.ref a] h Q = (∃ ns : List Int, h a = some (.lst (ns.map .int)) ∧ 0 < ns.length ∧ ∀ m, m ∈ ns → (∀ y, y ∈ ns → m ≤ y) → Q (.int m) h) := rfl
theorem q_sorted : rSorted [.ref a] h Q = (∃ ns : List Int, h a = some (.lst (ns.map .int)) ∧ ∀ (ns' : List Int) p, ns'.Perm ns → ns'.Pairwise (· ≤ ·) → h p = none → Q (.ref p) (up h p (.lst (ns'.map .int)))) := rfl
theorem q_is1 : rIs false x .non h Q = Q (.bl (isN x)) h := rfl
theorem q_is2 : rIs true x .non h Q = Q (.bl (!isN x)) h := rfl
theorem q_is3 : rIs false x (.bl c) h Q = (∃ a, x = .bl a ∧ Q (.bl (decide (a = c))) h) := rfl
theorem q_is4 : rIs true x (.bl c) h Q = (∃ a, x = .bl a ∧ Q (.bl (!decide (a = c))) h) := rfl
theorem q_in1 : rIn false x (.tup ys) h Q = (flatD x = true ∧ ys.all flatD = true ∧ Q (.bl (inF x ys)) h) := rfl
theorem q_in2 : rIn false x (.rl ys) h Q = (flatD x = true ∧ ys.all flatD = true ∧ Q (.bl (inF x ys)) h) := rfl
theorem q_in3 : rIn false x (.ref a) h Q = (∃ ds, h a = some (.lst ds) ∧ flatD x = true ∧ ds.all flatD = true ∧ Q (.bl (inF x ds)) h) := rfl
theorem q_nin1 : rIn true x (.tup ys) h Q = (flatD x = true ∧ ys.all flatD = true ∧ Q (.bl (!inF x ys)) h) := rfl
theorem q_nin2 : rIn true x (.rl ys) h Q = (flatD x = true ∧ ys.all flatD = true ∧ Q (.bl (!inF x ys)) h) := rfl
theorem q_nin3 : rIn true x (.ref a) h Q = (∃ ds, h a = some (.lst ds) ∧ flatD x = true ∧ ds.all flatD = true ∧ Q (.bl (!inF x ds)) h) := rfl
theorem q_setL {q : MH → Prop} : rSetL (.ref a) (.int i) y h q = (∃ ds, h a = some (.lst ds) ∧ ∃ j, ixN ds.length i = some j ∧ q (up h a (.lst (ds.set j y)))) := rfl
theorem q_app : rAppend (.ref a) [y] h Q = (∃ ds, h a = some (.lst ds) ∧ ds.length < sizeLine ∧ Q .non (up h a (.lst (ds ++ [y])))) := rfl
theorem q_ext : rExtend (.ref a) [.ref b] h Q = (∃ ds es, h a = some (.lst ds) ∧ h b = some (.lst es) ∧ ds.length + es.length ≤ sizeLine ∧ Q .non (up h a (.lst (ds ++ es)))) := rfl
theorem q_popAt : rPopAt (.ref a) [.int i] h Q = (∃ ds, h a = some (.lst ds) ∧ 0 ≤ i ∧ i < ds.length ∧ ds.length < 2 ^ 62 ∧ ∃ y, ds[i.toNat]? = some y ∧ Q y (up h a (.lst (ds.eraseIdx i.toNat)))) := rfl
theorem q_pop : rPop (.ref a) [] h Q = (∃ ds, h a = some (.lst ds) ∧ ∃ y, ds[ds.length - 1]? = some y ∧ Q y (up h a (.lst ds.dropLast))) := rfl
theorem q_ty1 : tyD h (.int i) = "int" := rfl
theorem q_ty2 : tyD h (.bl c) = "bool" := rfl
theorem q_ty3 : tyD h .non = "NoneType" := rfl
theorem q_ty4 : tyD h (.str s) = "str" := rfl
theorem q_ty5 : tyD h (.tup xs) = "tuple" := rfl
theorem q_ty6 : tyD h (.rl xs) = "list" := rfl
theorem q_ty7 (e : h a = some (.lst xs)) : tyD h (.ref a) = "list" := by show (match h a with | some (.lst _) => "list" | some (.dK _) => "dict" | some (.dT _) => "dict" | _ => "?") = "list"; rw [e]
theorem q_tym1 : tyM "list" (.ref a) h = ∃ ds, h a = some (.lst ds) := propext ⟨fun ⟨_, b⟩ => b, fun b => ⟨rfl, b⟩⟩
theorem q_isN1 : isN .non = true := rfl
theorem q_isN2 : isN (.int i) = false := rfl
theorem q_isN3 : isN (.tup xs) = false := rfl
theorem q_isN4 : isN (.ref a) = false := rfl
theorem q_isN5 : isN (.bl c) = false := rfl
theorem q_isN6 : isN (.str s) = false := rfl
end
end M

/-! t[::-1] -/
namespace HT
open PySem PySem.Spec PyProof PyProof.Rows
section
variable {prog : Program} {w : World} {A : Around} {E : Value → Shared → Prop} {s : Shared}
theorem places_rev (n : Nat) : Builtin.Slice.slicePlaces ((n : Int) - 1) (-1) (-1) = n := by
  unfold Builtin.Slice.slicePlaces
  have h1 : ¬ ((-1 : Int) > 0) := by omega
  simp only [h1, if_false]
  by_cases h : (n : Int) - 1 > -1
  · rw [if_pos h, show (- -1 : Int) = 1 by decide, Int.ediv_one]; omega
  · rw [if_neg h]; omega
theorem sliceApplied_rev {sl : Addr} {vs : Value} {n : Nat} {Q : Int × Int × Nat → Shared → Prop} (hs : s.heap.IsSliceOf sl .none .none vs) (ps : IsPart vs (some (-1)))
    (h : Q ((n : Int) - 1, -1, n) s) : wpAny (model prog w) A (Builtin.Slice.sliceApplied (.ref sl) (pure (n : Int))) Q E s := by
  obtain ⟨os, hos, hcs, hds⟩ := id hs
  unfold Builtin.Slice.sliceApplied Builtin.Slice.sliceFields
  refine wpAny_bind (wpAny_bind (wpAny_field hos hds (x := .none) rfl (wpAny_bind (wpAny_field hos hds (x := .none) rfl (wpAny_bind (wpAny_field hos hds (x := vs) rfl (wpAny_pure ?_)))))))
  refine wpAny_bind (slicePart_ ps ?_)
  show wpAny _ _ (if ((-1 : Int) == 0) = true then _ else _) _ _ s
  rw [if_neg (by decide)]
  refine wpAny_bind (slicePart_ .none (wpAny_bind (slicePart_ .none (wpAny_bind (wpAny_pure ?_)))))
  show wpAny _ _ (pure (((n : Int) - 1), (-1 : Int), Builtin.Slice.slicePlaces ((n : Int) - 1) (-1) (-1))) _ _ s
  rw [places_rev]
  exact wpAny_pure h
theorem fm_congr {α β : Type} {f g : α → Option β} : ∀ {l : List α}, (∀ x ∈ l, f x = g x) → l.filterMap f = l.filterMap g
  | [], _ => rfl
  | x :: l, h => by rw [List.filterMap_cons, List.filterMap_cons, h x (List.mem_cons_self ..), fm_congr fun y hy => h y (List.mem_cons_of_mem _ hy)]
theorem pick_rev (xs : Array Value) : ((List.range xs.size).filterMap fun (m : Nat) => xs[(((xs.size : Int) - 1) + (m : Int) * (-1)).toNat]?).toArray = xs.toList.reverse.toArray := by
  have e : (List.range xs.size).filterMap (fun (m : Nat) => xs[(((xs.size : Int) - 1) + (m : Int) * (-1)).toNat]?) = (List.range xs.size).filterMap ((fun k => xs[k]?) ∘ fun k => xs.size - 1 - k) := by
    refine fm_congr fun m hm => ?_
    have := List.mem_range.mp hm
    show xs[_]? = xs[xs.size - 1 - m]?
    rw [show (((xs.size : Int) - 1) + (m : Int) * (-1)).toNat = xs.size - 1 - m from by omega]
  rw [e, ← List.filterMap_map, PySem.W.krv_range, List.filterMap_reverse, PySem.W.krv_all]
theorem getItem_tuple_rev {t sl : Addr} {items : Array Value} {vs : Value} {Q : Value → Shared → Prop} (ht : IsTup s.heap t items) (hs : s.heap.IsSliceOf sl .none .none vs) (ps : IsPart vs (some (-1)))
    (h : Q (.ref s.heap.objs.size) { s with heap := s.heap.push { cls := .type "tuple", data := .seq items.toList.reverse.toArray } })
    (hsz : items.size ≤ sizeLine) : wpAny (model prog w) A (getItem (.ref t) (.ref sl)) Q E s := by
  have htake : sizeOk (.seq items.toList.reverse.toArray) := by
    show items.toList.reverse.toArray.size ≤ sizeLine
    rw [List.size_toArray, List.length_reverse, Array.length_toList]
    omega
  obtain ⟨os, hos, hcs, hds⟩ := id hs
  have hTs : s.TypeIs (.ref sl) "slice" := ⟨os, hos, hcs⟩
  unfold getItem
  try with_reducible refine wpAny_holding ?_
  first | refine wpAny_bind (wpAny_pure ?_) | skip
  refine wpAny_bind (wpAny_sequenceKey ht.typeIs (by decide) ?_)
  refine wpAny_bind (wpAny_callSpecial?_slot (name := Str.ofString "__getitem__") ht.typeIs PyProof.Rows.slot_tuple_getitem
    (wpAny_call_entry PyProof.Rows.slot_tuple_getitem ht.typeIs entry_tuple_getitem ?_ (args_tuple_getitem _ _)))
  show wpAny _ _ (Builtin.Tuple.tupleItemsOf (.ref t) >>= _) _ _ s
  refine wpAny_bind (tupleItemsOf_ ht ?_)
  refine wpAny_bind (wpAny_typeOf hTs ?_)
  rw [if_pos (by decide)]
  refine wpAny_bind (sliceApplied_rev hs ps ?_)
  have hno : ¬ ((((items.size : Int) - 1) == 0 && (-1 : Int) == 1 && items.size == items.size) = true) := by
    intro q
    rw [Bool.and_eq_true, Bool.and_eq_true] at q
    exact absurd (eq_of_beq q.1.2) (by decide)
  show wpAny _ _ (if (((items.size : Int) - 1) == 0 && (-1 : Int) == 1 && items.size == items.size) = true then _ else _) _ _ s
  rw [if_neg hno, pick_rev]
  first
    | exact wpAny_bind (m := Builtin.Tuple.tupleExact _) (wpAny_newObj_type (wpAny_pure ⟨_, rfl, wpAny_pure h⟩) htake)
    | exact wpAny_bind (m := Builtin.Tuple.tupleExact _) (wpAny_newObj_type (wpAny_bind (wpAny_pure (wpAny_pure ⟨_, rfl, wpAny_pure h⟩))) htake)
    | exact wpAny_bind (wpAny_bind (m := Builtin.Tuple.tupleExact _) (wpAny_newObj_type (wpAny_pure (wpAny_pure ⟨_, rfl, wpAny_pure h⟩)) htake))
    | exact wpAny_bind (wpAny_bind (m := Builtin.Tuple.tupleExact _) (wpAny_newObj_type (wpAny_pure ⟨_, rfl, wpAny_pure h⟩) htake))
end
end HT

namespace L2
open PySem PySem.Spec PyProof PyProof.Rows
/-- xs[::e], e being 1 or -1: a list, or with -1 a tuple -/
def rStepL (K : PySem.W.Frag) (x : V) (o : Option Int) (H2 : Hp) (Q : VK) : Prop :=
  (∃ a xs, x = .ref a ∧ SqL K H2 a xs ∧ ((o = some (-1) ∧ ∀ p, H2 p = none → Q (.ref p) (upd H2 p (.lst xs.reverse))) ∨ (o = some 1 ∧ ∀ p, H2 p = none → Q (.ref p) (upd H2 p (.lst xs))))) ∨
  (∃ a xs, x = .ref a ∧ SqT K H2 a xs ∧ o = some (-1) ∧ ∀ p od, H2 p = none → od.dict = none → Q (.ref p) (upd H2 p (.frz od (.tup xs.reverse))))
def tStep (K : PySem.W.Frag) (te ts : TE) : TE := fun σ H Q => te σ H fun x H1 => tPart ts σ H1 fun o H2 => rStepL K x o H2 Q
theorem pick_one (items : Array Value) : slicePick items none none (some 1) = items := by
  have e : slicePick items none none (some 1) = ((List.range items.size).filterMap (items[·]?)).toArray := by
    unfold slicePick
    have hb : sliceBounds none none (some 1) items.size = (0, (items.size : Int), 1) := by first | rfl | simp [sliceBounds]
    rw [hb]
    have hr : sliceRange 0 (items.size : Int) 1 = List.range items.size := by
      unfold sliceRange
      have h1 : ((1 : Int) > 0) := by decide
      simp only [h1, if_true]
      have e : (if (0 : Int) < items.size then ((items.size : Int) - 0 + 1 - 1) / 1 else 0).toNat = items.size := by
        split
        · rw [Int.ediv_one]; omega
        · omega
      simp [e]
      congr 1
      split <;> omega
    rw [hr]
  rw [e, PySem.W.krv_all]
theorem pe_step {X : Cx} {e se : Expr} {te ts : TE} {p3 pos : Pos} (he : PE X e te) (hse : PE X se ts) : PE X (.Subscript e (.Slice none none (some se) p3) pos) (tStep X.K te ts) := by
  refine ⟨fun pins s σ H Q I h => ?_⟩
  refine Subscript_ (thn (he.run pins s σ H _ I h) fun v s1 ⟨x, H1, I1, r1, q1⟩ => ?_)
  have hst : PO X (some se) (tPart ts) := po_some hse
  refine wpAny_Slice (thn (po_none.run pins s1 σ H1 (fun o H2 => o = none ∧ H2 = H1) I1 ⟨rfl, rfl⟩) fun vl s2 ⟨l, H2, I2, pl, el, e2⟩ => ?_)
  subst el e2
  refine thn (po_none.run pins s2 σ H2 (fun o H3 => o = none ∧ H3 = H2) I2 ⟨rfl, rfl⟩) fun vu s3 ⟨u, H3, I3, pu, eu, e3⟩ => ?_
  subst eu e3
  refine thn (hst.run pins s3 σ H3 _ I3 q1) fun vs s4 ⟨o, H4, I4, ps, hq⟩ => ?_
  have I5 : Inv X pins σ H4 { s4 with heap := s4.heap.push { cls := .type "slice", data := .fields #[vl, vu, vs] } } := I4.kept (t' := s4.toks) fun b ob q => Heap.get?_push_of_some _ q
  rcases hq with ⟨a, xs, rfl, hx, hq⟩ | ⟨a, xs, rfl, hx, rfl, q⟩
  · cases r1
    obtain ⟨its, r, ht, hz⟩ := I5.list hx
    have hlen := r.length
    refine tail_any (ops := [.ref a, .ref s4.heap.objs.size]) ht.isList.typeIs (PySem.slot_list_getitem.lookup) ?_ (by with_unfolding_all rfl)
    rcases hq with ⟨rfl, q⟩ | ⟨rfl, q⟩
    · refine wpAny_getItem_list_slice ht.isList (Heap.IsSliceOf.new _ vl vu vs) pl pu ps (by decide) ?_ (by rw [List.size_toArray]; omega)
      rw [PySem.W.krv_pick]
      refine ⟨.ref _, _, I5.laid (t' := s4.toks) (o := .lst xs.reverse) (fun b ob q => Heap.get?_push_of_some _ q) (Nat.le_refl _) ?_, rfl, q _ (I5.hok.fresh (Nat.le_refl _))⟩
      exact ⟨by rw [List.length_reverse]; exact hz, _, 0, r.reverse, Heap.get?_push_size _ rfl⟩
    · refine wpAny_getItem_list_slice ht.isList (Heap.IsSliceOf.new _ vl vu vs) pl pu ps (by decide) ?_ (by rw [List.size_toArray]; omega)
      rw [pick_one]
      refine ⟨.ref _, _, I5.laid (t' := s4.toks) (o := .lst xs) (fun b ob q => Heap.get?_push_of_some _ q) (Nat.le_refl _) ?_, rfl, q _ (I5.hok.fresh (Nat.le_refl _))⟩
      exact ⟨hz, _, 0, r, Heap.get?_push_size _ rfl⟩
  · cases r1
    obtain ⟨its, r, ht, hz⟩ := I5.tuple hx
    have hlen := r.length
    refine tail_any (ops := [.ref a, .ref s4.heap.objs.size]) ht.typeIs PyProof.Rows.slot_tuple_getitem.lookup ?_ (by with_unfolding_all rfl)
    cases pl
    cases pu
    refine HT.getItem_tuple_rev ht (Heap.IsSliceOf.new _ _ _ vs) ps ?_ (by rw [List.size_toArray]; omega)
    exact ⟨.ref _, _, I5.laid (t' := s4.toks) (fun b ob q => Heap.get?_push_of_some _ q) (Nat.le_refl _) (M.okN (by rw [List.length_reverse]; exact hz) r.reverse), rfl, q _ _ (I5.hok.fresh (Nat.le_refl _)) rfl⟩
end L2
namespace M
open PySem L2
def rStep : MR2 := fun x y h2 Q => match x, y with
  | .rl ds, .int i => (i = -1 ∨ i = 1) ∧ ∀ p, h2 p = none → Q (.ref p) (up h2 p (.lst (if i = -1 then ds.reverse else ds)))
  | .ref a, .int i => (i = -1 ∨ i = 1) ∧ ∃ ds, h2 a = some (.lst ds) ∧ ∀ p, h2 p = none → Q (.ref p) (up h2 p (.lst (if i = -1 then ds.reverse else ds)))
  | .tup ds, .int i => i = -1 ∧ Q (.tup ds.reverse) h2
  | _, _ => False
theorem q_step1 {xs : List D} {h : MH} {Q : MQ} : rStep (.tup xs) (.int (-1)) h Q = Q (.tup xs.reverse) h := propext ⟨fun q => q.2, fun q => ⟨rfl, q⟩⟩
theorem q_step2 {a : Addr} {h : MH} {Q : MQ} : rStep (.ref a) (.int (-1)) h Q = (∃ ds, h a = some (.lst ds) ∧ ∀ p, h p = none → Q (.ref p) (up h p (.lst ds.reverse))) := propext ⟨fun q => q.2, fun q => ⟨.inl rfl, q⟩⟩
section
variable {X : Cx} {Hb : Hp} {e se : Expr} {me ms : MTE} {pos p3 : Pos}
theorem ie_step (he : IE X Hb e me) (hs : IE X Hb se ms) : IE X Hb (.Subscript e (.Slice none none (some se) p3) pos) (mOp rStep me ms) := by
  refine pe_w (pe_step he hs) fun σ H Q ⟨env, h, Q0, re, rh, m, f⟩ => ?_
  refine ⟨env, h, _, re, rh, m, fun x h1 q1 vx H1 t1 r1 rx => ?_⟩
  refine ⟨env, h1, _, re.mono t1, r1, q1, fun y h2 q vy H2 t2 r2 ry => ?_⟩
  have f1 := Fin.mono (t1.trans t2) f
  have rx2 := rx.mono t2
  cases x <;> cases y <;> first | exact q.elim | skip
  · obtain ⟨rfl, q⟩ := q
    obtain ⟨a, vs, rfl, ta, rs⟩ := rx2.tup
    rw [ry.int]
    exact ⟨_, rfl, .inr ⟨a, vs, rfl, ta, rfl, fun p od np nd => f1 _ _ q _ _ (.new np) (r2.skip np) (rv_tup (.of upd_same nd) (rs.reverse.mono (.new np)))⟩⟩
  · obtain ⟨hi, q⟩ := q
    obtain ⟨a, vs, rfl, ta, rs⟩ := rx2.rl
    rw [ry.int]
    refine ⟨_, rfl, .inl ⟨a, vs, rfl, ta.l, ?_⟩⟩
    rcases hi with rfl | rfl
    · exact .inl ⟨rfl, fun p np => f1 _ _ (q p (r2.free np)) _ _ (.new np) (r2.new np (ro_lst rs.reverse)) rv_ref⟩
    · exact .inr ⟨rfl, fun p np => f1 _ _ (q p (r2.free np)) _ _ (.new np) (r2.new np (ro_lst rs)) rv_ref⟩
  · obtain ⟨hi, ds, e, q⟩ := q
    rw [rx2.ref, ry.int]
    obtain ⟨vs, E, rs⟩ := r2.lst e
    refine ⟨_, rfl, .inl ⟨_, vs, rfl, .of E, ?_⟩⟩
    rcases hi with rfl | rfl
    · exact .inl ⟨rfl, fun p np => f1 _ _ (q p (r2.free np)) _ _ (.new np) (r2.new np (ro_lst rs.reverse)) rv_ref⟩
    · exact .inr ⟨rfl, fun p np => f1 _ _ (q p (r2.free np)) _ _ (.new np) (r2.new np (ro_lst rs)) rv_ref⟩
end
end M

namespace M
open PySem L2
/-! ### lists and tuples of ints compared -/
theorem dps_ints {h : MH} : ∀ xs : List Int, DPs h (xs.map .int) (xs.map PyData.int)
  | [] => .nil
  | x :: xs => .cons (.int x) (dps_ints xs)
theorem canLay_ints : ∀ xs : List Int, PyData.canLayAll0 (xs.map PyData.int) = true
  | [] => rfl
  | x :: xs => by
    rw [List.map_cons, PyData.canLayAll0, canLay_ints xs]
    rfl
theorem depth_ints : ∀ xs : List Int, PyData.depthAll (xs.map PyData.int) = 0
  | [] => rfl
  | x :: xs => by
    rw [List.map_cons, PyData.depthAll, depth_ints xs]
    rfl
theorem shaped_list (xs : List Int) : SeqAt.shaped (.list (xs.map PyData.int)) = true := by
  unfold SeqAt.shaped
  rw [Bool.and_eq_true, decide_eq_true_eq]
  refine ⟨by rw [PyData.canLay0]; exact canLay_ints xs, ?_⟩
  rw [PyData.depth, depth_ints]; decide
theorem shaped_tup (xs : List Int) : SeqAt.shaped (.tuple (xs.map PyData.int)) = true := by
  unfold SeqAt.shaped
  rw [Bool.and_eq_true, decide_eq_true_eq]
  refine ⟨by rw [PyData.canLay0]; exact canLay_ints xs, ?_⟩
  rw [PyData.depth, depth_ints]; decide
theorem eqvAll_ints : ∀ xs ys : List Int, PyData.eqvAll (xs.map PyData.int) (ys.map PyData.int) = decide (xs = ys)
  | [], [] => by simp [PyData.eqvAll]
  | [], _ :: _ => by simp [PyData.eqvAll]
  | _ :: _, [] => by simp [PyData.eqvAll]
  | x :: xs, y :: ys => by
    rw [List.map_cons, List.map_cons, PyData.eqvAll, eqvAll_ints xs ys, PyData.eqv, show (x == y) = decide (x = y) from rfl, ← Bool.decide_and]
    exact decide_eq_decide.mpr (by rw [List.cons.injEq])
theorem eqv_list (xs ys : List Int) : PyData.eqv (.list (xs.map PyData.int)) (.list (ys.map PyData.int)) = decide (xs = ys) := by rw [PyData.eqv, eqvAll_ints]
theorem eqv_tup (xs ys : List Int) : PyData.eqv (.tuple (xs.map PyData.int)) (.tuple (ys.map PyData.int)) = decide (xs = ys) := by rw [PyData.eqv, eqvAll_ints]
section
variable {h : MH} {Q : MQ} {a b : Addr} {xs ys : List Int}
theorem eqD_tt (q : Q (.bl (decide (xs = ys))) h) : rEqD (.tup (xs.map .int)) (.tup (ys.map .int)) h Q := ⟨_, _, .tup (dps_ints xs), .tup (dps_ints ys), shaped_tup xs, shaped_tup ys, by rw [eqv_tup]; exact q⟩
theorem neD_tt (q : Q (.bl (!decide (xs = ys))) h) : rNeD (.tup (xs.map .int)) (.tup (ys.map .int)) h Q := ⟨_, _, .tup (dps_ints xs), .tup (dps_ints ys), shaped_tup xs, shaped_tup ys, by rw [eqv_tup]; exact q⟩
theorem eqD_ll (ea : h a = some (.lst (xs.map .int))) (eb : h b = some (.lst (ys.map .int))) (q : Q (.bl (decide (xs = ys))) h) : rEqD (.ref a) (.ref b) h Q := ⟨_, _, .lst ea (dps_ints xs), .lst eb (dps_ints ys), shaped_list xs, shaped_list ys, by rw [eqv_list]; exact q⟩
theorem neD_ll (ea : h a = some (.lst (xs.map .int))) (eb : h b = some (.lst (ys.map .int))) (q : Q (.bl (!decide (xs = ys))) h) : rNeD (.ref a) (.ref b) h Q := ⟨_, _, .lst ea (dps_ints xs), .lst eb (dps_ints ys), shaped_list xs, shaped_list ys, by rw [eqv_list]; exact q⟩
end
/-! ### as many unlike ones among fewer -/
theorem nodup_le {α : Type} [DecidableEq α] : ∀ {xs ys : List α}, xs.Nodup → (∀ x ∈ xs, x ∈ ys) → xs.length ≤ ys.length
  | [], _, _, _ => Nat.zero_le _
  | x :: xs, ys, hn, hs => by
    have hx := hs x (List.mem_cons_self ..)
    have h2 := nodup_le (ys := ys.erase x) (List.nodup_cons.mp hn).2 fun y hy => (List.mem_erase_of_ne (fun e : y = x => (List.nodup_cons.mp hn).1 (by rw [← e]; exact hy))).mpr (hs y (List.mem_cons_of_mem _ hy))
    rw [List.length_erase_of_mem hx] at h2
    have := List.length_pos_of_mem hx
    rw [List.length_cons]; omega
/-- from c on, one of the first length + 1 steps round m comes to what is not there -/
theorem free_step {ys : List Int} {m c : Int} (hm : (ys.length : Int) < m) : ∃ j : Nat, j ≤ ys.length ∧ (c + j) % m ∉ ys := by
  apply Classical.byContradiction
  intro hno
  have h1 : ∀ j : Nat, j ≤ ys.length → (c + j) % m ∈ ys := fun j hj => Classical.byContradiction fun h => hno ⟨j, hj, h⟩
  have h2 : ((List.range (ys.length + 1)).map fun j : Nat => (c + j) % m).Nodup := by
    rw [List.nodup_iff_pairwise_ne, List.pairwise_map]
    refine List.Pairwise.imp_of_mem ?_ (List.nodup_range (n := ys.length + 1))
    intro a b ha hb hne e
    have ha := List.mem_range.mp ha
    have hb := List.mem_range.mp hb
    have e2 : ((c + a) - (c + b)) % m = 0 := Int.emod_eq_emod_iff_emod_sub_eq_zero.mp e
    have e3 : m ∣ ((a : Int) - b) := by
      have := Int.dvd_of_emod_eq_zero e2
      rwa [show (c + (a : Int)) - (c + b) = (a : Int) - b from by omega] at this
    obtain ⟨q, hq⟩ := e3
    have : q = 0 := by
      apply Classical.byContradiction
      intro hq0
      have : m ≤ (m * q).natAbs := by
        rw [Int.natAbs_mul]
        have h3 : 1 ≤ q.natAbs := by omega
        have h4 : m.natAbs * 1 ≤ m.natAbs * q.natAbs := Nat.mul_le_mul_left _ h3
        omega
      omega
    subst this
    rw [Int.mul_zero] at hq
    exact hne (by omega)
  have h3 := nodup_le h2 (ys := ys) fun x hx => by
    obtain ⟨j, hj, rfl⟩ := List.mem_map.mp hx
    exact h1 j (by have := List.mem_range.mp hj; omega)
  rw [List.length_map, List.length_range] at h3
  omega
end M

/-! max, min of a tuple of ints -/
namespace L2
open PySem PySem.Spec PyProof PyProof.Rows
section
variable {prog : Program} {w : World} {A : Around} {E : Value → Shared → Prop} {s : Shared} {l : Addr} {its : List Value} {ns : List Int} {Q : Value → Shared → Prop}
theorem iter_intTup {xs : Array (Int × Tok)} {Q : Value → Shared → Prop} (hl : s.heap.IsTuple l (intItems xs))
    (h : ∀ s₂ : Shared, s₂ = { s with heap := s.heap.push { cls := .type "tuple_iterator", data := .fields #[.ref l, .int 0 0] } } →
      (s₂.heap.IsTupleIter s.heap.objs.size l 0 ∧ s₂.heap.IsTuple l (intItems xs)) → (∀ b ∈ [s.heap.objs.size, l], b < s₂.heap.objs.size) → l ≠ s.heap.objs.size → Q (.ref s.heap.objs.size) s₂) :
    wpAny (model prog w) A (pyIter (.ref l)) Q E s := by
  have hlt : l < s.heap.objs.size := by obtain ⟨_, e, _⟩ := hl; exact Heap.lt_size e
  refine wpAny_pyIter_tuple hl (h _ rfl ⟨⟨_, Heap.get?_push_size _ rfl, rfl, rfl⟩, ?_⟩ (fun b hb => ?_) (Nat.ne_of_lt hlt))
  · obtain ⟨o, e, r⟩ := hl
    exact ⟨o, Heap.get?_push_of_some _ e, r⟩
  · show b < (s.heap.push _).objs.size
    rw [Heap.size_push]
    simp only [List.mem_cons, List.not_mem_nil, or_false] at hb
    rcases hb with e | e
    · rw [e]; exact Nat.lt_succ_self _
    · rw [e]; exact Nat.lt_succ_of_lt hlt
theorem maxT_raw (hh : A.handled = none) (hl : s.heap.IsTuple l its.toArray) (hi : IntsAre its ns) (hne : 0 < ns.length)
    (h : ∀ h' tk M t', (∀ b o, s.heap.get? b = some o → h'.get? b = some o) → M ∈ ns → (∀ a, a ∈ ns → a ≤ M) → Q (.int M t') { s with heap := h', toks := tk }) : wpAny (model prog w) A (call (.builtin "max") [.ref l]) Q E s := by
  obtain ⟨xs, e⟩ := hi.allInts.items
  have hn : numsOf (intItems xs).toList = ns := by rw [← e]; exact hi.numsOf
  rw [nums_intItems] at hn
  subst hn
  rw [e] at hl
  have hsz : 0 < xs.size := by simpa using hne
  refine call_max_walk (iter_intTup hl fun s₂ e st hfp hlI => ?_)
  subst e
  refine ⟨_, _, _, _, _, _, _, rfl, Walks.tuple (A := A.in1) hh _ l hlI (intItems xs), st, hfp, by simpa [intItems] using hsz, CmpOf.ints_gt (numAt xs) (fun _ _ => intItems_at), fun v h' tk hP hk => ?_⟩
  have hv : (intItems xs)[argBest (fun i j => decide (numAt xs i > numAt xs j)) (xs.size - 1)]? = some v := by simpa [intItems] using hP
  obtain ⟨t, rfl⟩ := intItems_at hv
  obtain ⟨h1, h2⟩ := argBest_gt (numAt xs) (xs.size - 1)
  refine h h' tk _ t (fun b o e => hk b o (fun z => Nat.lt_irrefl _ (by have := Heap.lt_size e; rw [List.mem_singleton.mp z] at this; exact this)) (Heap.get?_push_of_some _ e)) ?_ fun a ha => ?_
  · rw [numAt_eq]; exact PySem.getD_mem (by rw [List.length_map, Array.length_toList]; omega)
  · obtain ⟨j, hj, rfl⟩ := mem_getD ha
    rw [List.length_map, Array.length_toList] at hj
    rw [← numAt_eq]; exact h2 j (by omega)
theorem minT_raw (hh : A.handled = none) (hl : s.heap.IsTuple l its.toArray) (hi : IntsAre its ns) (hne : 0 < ns.length)
    (h : ∀ h' tk M t', (∀ b o, s.heap.get? b = some o → h'.get? b = some o) → M ∈ ns → (∀ a, a ∈ ns → M ≤ a) → Q (.int M t') { s with heap := h', toks := tk }) : wpAny (model prog w) A (call (.builtin "min") [.ref l]) Q E s := by
  obtain ⟨xs, e⟩ := hi.allInts.items
  have hn : numsOf (intItems xs).toList = ns := by rw [← e]; exact hi.numsOf
  rw [nums_intItems] at hn
  subst hn
  rw [e] at hl
  have hsz : 0 < xs.size := by simpa using hne
  refine call_min_walk (iter_intTup hl fun s₂ e st hfp hlI => ?_)
  subst e
  refine ⟨_, _, _, _, _, _, _, rfl, Walks.tuple (A := A.in1) hh _ l hlI (intItems xs), st, hfp, by simpa [intItems] using hsz, CmpOf.ints_lt (numAt xs) (fun _ _ => intItems_at), fun v h' tk hP hk => ?_⟩
  have hv : (intItems xs)[argBest (fun i j => decide (numAt xs i < numAt xs j)) (xs.size - 1)]? = some v := by simpa [intItems] using hP
  obtain ⟨t, rfl⟩ := intItems_at hv
  obtain ⟨h1, h2⟩ := argBest_lt (numAt xs) (xs.size - 1)
  refine h h' tk _ t (fun b o e => hk b o (fun z => Nat.lt_irrefl _ (by have := Heap.lt_size e; rw [List.mem_singleton.mp z] at this; exact this)) (Heap.get?_push_of_some _ e)) ?_ fun a ha => ?_
  · rw [numAt_eq]; exact PySem.getD_mem (by rw [List.length_map, Array.length_toList]; omega)
  · obtain ⟨j, hj, rfl⟩ := mem_getD ha
    rw [List.length_map, Array.length_toList] at hj
    rw [← numAt_eq]; exact h2 j (by omega)
end
section
variable {X : Cx}
def rMaxT (K : PySem.W.Frag) : List V → Hp → VK → Prop := fun vs H Q => ∃ (a : Addr) (ns : List Int), vs = [V.ref a] ∧ SqT K H a (ns.map V.int) ∧ 0 < ns.length ∧ ∀ m, m ∈ ns → (∀ y, y ∈ ns → y ≤ m) → Q (.int m) H
def rMinT (K : PySem.W.Frag) : List V → Hp → VK → Prop := fun vs H Q => ∃ (a : Addr) (ns : List Int), vs = [V.ref a] ∧ SqT K H a (ns.map V.int) ∧ 0 < ns.length ∧ ∀ m, m ∈ ns → (∀ y, y ∈ ns → m ≤ y) → Q (.int m) H
theorem cr_maxT (hc : X.calm = true) : CallR X (.builtin "max") (rMaxT X.K) := by
  intro pins s σ H vs us Q I r h
  obtain ⟨a, ns, rfl, hs, hne, q⟩ := h
  obtain ⟨its, rv, hl, _⟩ := I.tuple hs
  rw [Vals.ref1 r]
  exact maxT_raw (I.ok.hd hc) (show s.heap.IsTuple a its.toArray from hl) rv.ints hne fun h' tk m t' hk h1 h2 => ⟨.int _, H, I.kept hk, ⟨_, rfl⟩, q m h1 h2⟩
theorem cr_minT (hc : X.calm = true) : CallR X (.builtin "min") (rMinT X.K) := by
  intro pins s σ H vs us Q I r h
  obtain ⟨a, ns, rfl, hs, hne, q⟩ := h
  obtain ⟨its, rv, hl, _⟩ := I.tuple hs
  rw [Vals.ref1 r]
  exact minT_raw (I.ok.hd hc) (show s.heap.IsTuple a its.toArray from hl) rv.ints hne fun h' tk m t' hk h1 h2 => ⟨.int _, H, I.kept hk, ⟨_, rfl⟩, q m h1 h2⟩
end
end L2
namespace M
open PySem L2
/-- max(xs), min(xs) of ints: a list or a tuple -/
def rMaxA : MRA := fun xs h Q => match xs with
  | [.ref a] => ∃ ns : List Int, h a = some (.lst (ns.map .int)) ∧ 0 < ns.length ∧ ∀ m, m ∈ ns → (∀ y, y ∈ ns → y ≤ m) → Q (.int m) h
  | [.tup ds] => ∃ ns : List Int, ds = ns.map .int ∧ 0 < ns.length ∧ ∀ m, m ∈ ns → (∀ y, y ∈ ns → y ≤ m) → Q (.int m) h
  | _ => False
def rMinA : MRA := fun xs h Q => match xs with
  | [.ref a] => ∃ ns : List Int, h a = some (.lst (ns.map .int)) ∧ 0 < ns.length ∧ ∀ m, m ∈ ns → (∀ y, y ∈ ns → m ≤ y) → Q (.int m) h
  | [.tup ds] => ∃ ns : List Int, ds = ns.map .int ∧ 0 < ns.length ∧ ∀ m, m ∈ ns → (∀ y, y ∈ ns → m ≤ y) → Q (.int m) h
  | _ => False
section
variable {X : Cx}
theorem cm_maxA (hc : X.calm = true) : CaM X (.builtin "max") rMaxA := by
  refine ⟨_, (cr_max hc).or (cr_maxT hc), fun xs h Q0 vs H Q q rh rs f => ?_⟩
  unfold rMaxA at q
  split at q
  · obtain ⟨v, rfl, rx⟩ := rs.one
    rw [rx.ref]
    obtain ⟨ns, e, l, q⟩ := q
    obtain ⟨vs, E, rs⟩ := rh.lst e
    rw [rs.ints] at E
    exact .inl ⟨_, ns, rfl, .of E, l, fun m h1 h2 => fin_at f (q m h1 h2) rh rv_int⟩
  · obtain ⟨v, rfl, rx⟩ := rs.one
    obtain ⟨ns, rfl, l, q⟩ := q
    obtain ⟨a, vs, rfl, ta, rs⟩ := rx.tup
    rw [rs.ints] at ta
    exact .inr ⟨a, ns, rfl, ta, l, fun m h1 h2 => fin_at f (q m h1 h2) rh rv_int⟩
  · exact q.elim
theorem cm_minA (hc : X.calm = true) : CaM X (.builtin "min") rMinA := by
  refine ⟨_, (cr_min hc).or (cr_minT hc), fun xs h Q0 vs H Q q rh rs f => ?_⟩
  unfold rMinA at q
  split at q
  · obtain ⟨v, rfl, rx⟩ := rs.one
    rw [rx.ref]
    obtain ⟨ns, e, l, q⟩ := q
    obtain ⟨vs, E, rs⟩ := rh.lst e
    rw [rs.ints] at E
    exact .inl ⟨_, ns, rfl, .of E, l, fun m h1 h2 => fin_at f (q m h1 h2) rh rv_int⟩
  · obtain ⟨v, rfl, rx⟩ := rs.one
    obtain ⟨ns, rfl, l, q⟩ := q
    obtain ⟨a, vs, rfl, ta, rs⟩ := rx.tup
    rw [rs.ints] at ta
    exact .inr ⟨a, ns, rfl, ta, l, fun m h1 h2 => fin_at f (q m h1 h2) rh rv_int⟩
  · exact q.elim
section
variable {i j : Int} {h : MH} {Q : MQ} {a : Addr} {xs : List D}
theorem q_maxA1 : rMaxA [.ref a] h Q = (∃ ns : List Int, h a = some (.lst (ns.map .int)) ∧ 0 < ns.length ∧ ∀ m, m ∈ ns → (∀ y, y ∈ ns → y ≤ m) → Q (.int m) h) := rfl
theorem q_maxA2 : rMaxA [.tup xs] h Q = (∃ ns : List Int, xs = ns.map .int ∧ 0 < ns.length ∧ ∀ m, m ∈ ns → (∀ y, y ∈ ns → y ≤ m) → Q (.int m) h) := rfl
theorem q_minA1 : rMinA [.ref a] h Q = (∃ ns : List Int, h a = some (.lst (ns.map .int)) ∧ 0 < ns.length ∧ ∀ m, m ∈ ns → (∀ y, y ∈ ns → m ≤ y) → Q (.int m) h) := rfl
theorem q_minA2 : rMinA [.tup xs] h Q = (∃ ns : List Int, xs = ns.map .int ∧ 0 < ns.length ∧ ∀ m, m ∈ ns → (∀ y, y ∈ ns → m ≤ y) → Q (.int m) h) := rfl
end
end
end M

namespace M
open PySem L2
/-! ### dicts made -/
def mDisp0 : MTE := fun _ h Q => ∀ p, h p = none → Q (.ref p) (up h p (.dK []))
def mDisp1 (k : Key) (d : D) : MTE := fun _ h Q => ∀ p, h p = none → Q (.ref p) (up h p (.dK [(k, d)]))
section
variable {X : Cx} {Hb : Hp} {pos : Pos}
theorem ie_disp0 : IE X Hb (.Dict [] [] pos) mDisp0 := by
  refine pe_w pe_dnewK fun σ H Q ⟨env, h, Q0, re, rh, m, f⟩ => fun p np => ?_
  exact f _ _ (m p (rh.free np)) _ _ (.new np) (rh.new np ⟨[], rfl, rfl, .nil⟩) rv_ref
theorem ie_disp1 {i : Int} {j : Nat} {kp : Pos} {v : Expr} {t : V} {d : D} (hv : PE X v (tC t)) (r : ∀ H, RV X.K H d t) : IE X Hb (.Dict [some (.Constant (.int i) j kp)] [v] pos) (mDisp1 (.inl i) d) := by
  refine pe_w (pe_disp (pps_cons pe_int hv pps_nil) rfl rfl (by simp) (by simp)) fun σ H Q ⟨env, h, Q0, re, rh, m, f⟩ => fun p np => ?_
  refine ⟨upd_same, [(.inl i, t)], rfl, Nat.le_of_ble_eq_true rfl, ?_⟩
  have e : upd (upd H p (.dK [])) p (.dK (mergeK [] [(Sum.inl i, t)])) = upd H p (.dK [(Sum.inl i, t)]) := by
    funext b
    unfold upd
    split <;> rfl
  rw [e]
  exact f _ _ (m p (rh.free np)) _ _ (.new np) (rh.new np ⟨[(.inl i, t)], rfl, rfl, .cons (r H) .nil⟩) rv_ref
theorem ie_disp1b {i : Int} {j j2 : Nat} {kp vp : Pos} {b : Bool} : IE X Hb (.Dict [some (.Constant (.int i) j kp)] [.Constant (.bool b) j2 vp] pos) (mDisp1 (.inl i) (.bl b)) := ie_disp1 pe_bl fun _ => rv_bl
theorem ie_disp1i {i v : Int} {j j2 : Nat} {kp vp : Pos} : IE X Hb (.Dict [some (.Constant (.int i) j kp)] [.Constant (.int v) j2 vp] pos) (mDisp1 (.inl i) (.int v)) := ie_disp1 pe_int fun _ => rv_int
theorem q_ty8 {h : MH} {a : Addr} {kv : List (Key × D)} (e : h a = some (.dK kv)) : tyD h (.ref a) = "dict" := by show (match h a with | some (.lst _) => "list" | some (.dK _) => "dict" | some (.dT _) => "dict" | _ => "?") = "dict"; rw [e]
end
end M

/-! max of a list of tuples of ints -/
namespace L2
open PySem PySem.Spec PyProof PyProof.Rows PySem.SeqAt PySem.W
theorem argBest_all {lt : Nat → Nat → Prop} (bt : Nat → Nat → Bool) (hb : ∀ i j, bt i j = true ↔ lt j i) (irr : ∀ i, ¬ lt i i) (tr : ∀ i j k, lt i j → lt j k → lt i k) : ∀ k, argBest bt k ≤ k ∧ ∀ j, j ≤ k → ¬ lt (argBest bt k) j
  | 0 => ⟨Nat.le_refl _, fun j hj => by
    have : j = 0 := by omega
    subst this; exact irr _⟩
  | k + 1 => by
    obtain ⟨h1, h2⟩ := argBest_all bt hb irr tr k
    unfold argBest
    by_cases c : bt (k + 1) (argBest bt k) = true
    · rw [if_pos c]
      refine ⟨Nat.le_refl _, fun j hj => ?_⟩
      by_cases e : j = k + 1
      · subst e; exact irr _
      · exact fun z => h2 j (by omega) (tr _ _ _ ((hb _ _).mp c) z)
    · rw [if_neg c]
      refine ⟨by omega, fun j hj => ?_⟩
      by_cases e : j = k + 1
      · subst e; exact fun z => c ((hb _ _).mpr z)
      · exact h2 j (by omega)

theorem alike_ints : ∀ xs ys : List Int, alikeAll (xs.map PyData.int) (ys.map PyData.int) = true
  | [], _ => by rw [List.map_nil, alikeAll]
  | _ :: _, [] => by rw [List.map_nil, List.map_cons, alikeAll]
  | x :: xs, y :: ys => by rw [List.map_cons, List.map_cons, alikeAll, alike_ints xs ys]; rfl
abbrev tuD (xs : List Int) : PyData := .tuple (xs.map .int)
theorem dlt_tup (xs ys : List Int) : dataLt (tuD xs) (tuD ys) = decide (xs < ys) := by
  rw [dataLt_tuple]
  exact dataLt_ints xs ys
theorem depth_tup (xs : List Int) : (tuD xs).depth ≤ 1 := by
  rw [PyData.depth, M.depth_ints]; decide
section
variable {X : Cx}
theorem dpAll_get {K : PySem.W.Frag} {H : Hp} : ∀ {ws : List V} {ds : List PyData} {i : Nat} {w : V}, DpAll K H ws ds → ws[i]? = some w → ∃ d, ds[i]? = some d ∧ Dp K H w d
  | _, _, _, _, .nil, e => by simp at e
  | _, _, 0, _, .cons a b, e => ⟨_, rfl, by simp at e; subst e; exact a⟩
  | _, _, i + 1, _, .cons a b, e => by
    obtain ⟨d, e1, q⟩ := dpAll_get b (i := i) (by simpa using e)
    exact ⟨d, by simpa using e1, q⟩
def rMaxTT (K : PySem.W.Frag) : List V → Hp → VK → Prop := fun vs H Q => ∃ (a : Addr) (ws : List V) (xss : List (List Int)), vs = [V.ref a] ∧ SqL K H a ws ∧ DpAll K H ws (xss.map tuD) ∧ 0 < xss.length ∧ xss.length = ws.length ∧
  ∀ k w, ws[k]? = some w → (∀ j, j < xss.length → ¬ (xss.getD k [] < xss.getD j [])) → Q w H
theorem cr_maxTT (hc : X.calm = true) (hu : X.A.in1.units + 1 < cLine) : CallR X (.builtin "max") (rMaxTT X.K) := by
  intro pins s σ H vs us Q I r h
  obtain ⟨a, ws, xss, rfl, hs, hd, hne, hll, q⟩ := h
  obtain ⟨its, rv, hl, _⟩ := I.list hs
  have hlen := rv.length
  rw [Vals.ref1 r]
  have hlt : a < s.heap.objs.size := by obtain ⟨_, _, e, _⟩ := hl; exact Heap.lt_size e
  refine call_max_walkH (wpAny_pyIter_list hl.isList ?_)
  have it : ∀ i v, its.toArray[i]? = some v → ∃ w, ws[i]? = some w ∧ RelV w v ∧ ∃ as, Reads s.heap v (tuD (xss.getD i [])) as := fun i v e => by
    have e' : its[i]? = some v := by simpa using e
    have hi : i < its.length := (List.getElem?_eq_some_iff.mp e').1
    have ew : ws[i]? = some ws[i] := List.getElem?_eq_getElem (by omega)
    obtain ⟨u, eu, ru⟩ := rv.get ew
    rw [eu] at e'
    cases e'
    obtain ⟨d, ed, dp⟩ := dpAll_get hd ew
    rw [List.getElem?_map, List.getElem?_eq_getElem (show i < xss.length by omega)] at ed
    cases ed
    obtain ⟨as, ra⟩ := Dp.reads I _ _ _ dp ru
    refine ⟨_, ew, ru, as, ?_⟩
    rw [List.getD_eq_getElem?_getD, List.getElem?_eq_getElem (show i < xss.length by omega)]
    exact ra
  refine ⟨_, _, _, _, _, _, _, s.heap, fun i j => decide (xss.getD j [] < xss.getD i []), rfl, (Walks.list (A := X.A.in1) (I.ok.hd hc) s.heap.objs.size a (Nat.ne_of_lt hlt) its.toArray).toS, ⟨⟨_, Heap.get?_push_size _ rfl, rfl, rfl⟩, hl.isList.push _⟩, fun b hb => ?_, by rw [List.size_toArray]; omega, fun b o e z => ?_, fun b o e => Heap.get?_push_of_some _ e, ?_, ?_⟩
  · show b < (s.heap.push _).objs.size
    rw [Heap.size_push]
    simp only [List.mem_cons, List.not_mem_nil, or_false] at hb
    rcases hb with e | e
    · rw [e]; exact Nat.lt_succ_self _
    · rw [e]; exact Nat.lt_succ_of_lt hlt
  · have := Heap.lt_size e
    rw [List.mem_singleton.mp z] at this
    exact Nat.lt_irrefl _ this
  · intro i j vi vj s' Q' E' hk hi hj hq
    obtain ⟨_, _, _, as, ra⟩ := it i vi hi
    obtain ⟨_, _, _, bs, rb⟩ := it j vj hj
    refine rcGt_alike (tuD (xss.getD i [])) (tuD (xss.getD j [])) X.A.in1 s' vi vj as bs (PyProof.Rows.Reads.keeps hk ra) (PyProof.Rows.Reads.keeps hk rb) (by rw [alike]; exact alike_ints _ _) (fun z => by cases z) ?_ _ _ _ _ ?_
    · have := depth_tup (xss.getD i [])
      omega
    · rw [dlt_tup]; exact hq
  · intro v s' hP hm
    obtain ⟨w, ew, rw', _⟩ := it _ v hP
    have best := (argBest_all (lt := fun i j => xss.getD i [] < xss.getD j []) (fun i j => decide (xss.getD j [] < xss.getD i [])) (fun i j => decide_eq_true_iff) (fun i => List.lt_irrefl _) (fun i j k => List.lt_trans) (its.toArray.size - 1)).2
    obtain ⟨m1, m2, m3, m4, m5⟩ := hm
    obtain ⟨hp, g, d, tk, os⟩ := s'
    simp only at m1 m2 m3 m4
    subst m2 m3 m4
    refine ⟨w, H, I.kept (t' := tk) (h' := hp) fun b o e => m1 b o ?_ (Heap.get?_push_of_some _ e), rw', q _ w ew fun j hj => best j (by rw [List.size_toArray]; omega)⟩
    intro z
    have := Heap.lt_size e
    rw [List.mem_singleton.mp z] at this
    exact Nat.lt_irrefl _ this
end
end L2

namespace L2
open PySem PySem.Spec PyProof PyProof.Rows
open AutoSeq1 (wpAny_loadPart')
/-! t * 1 is t -/
theorem tuple_mul1 (l : Addr) (items : Array Value) (n : Nat) (dd : Option Addr) (sl : Array (Option Value)) (u : Tok) (c1 : (items.isEmpty || (1 : Int) == 1) = true) :
    Meets (Builtin.«tuple.__mul__» ⟨[.ref l, .int 1 u], []⟩) (fun _ R s => s.heap.get? l = some { cls := .type "tuple", dict := dd, data := .seq items n, slots := sl } ∧
      R (.ok (.ret (Value.ref l))) s) :=
  .of_wp fun prog w A R s h => by
    obtain ⟨hp, g, d, tk, os⟩ := s
    obtain ⟨hl, h⟩ := h
    have f1 := AutoSeq1.idx_int
    have c0 : (decide ((1 : Int) < -(2 ^ 63)) || decide ((1 : Int) ≥ 2 ^ 63)) = false := by decide
    wp_walk using wpAny_loadPart' hl
    repeat (first
      | (refine wpAny_ite_false (decide_eq_false (by rw [c0]; exact Bool.false_ne_true)) ?_; wp_walk using wpAny_loadPart' hl)
      | (refine wpAny_ite_true (decide_eq_true c1) ?_; wp_walk using wpAny_loadPart' hl))
    exact ⟨_, rfl, h⟩

def rRepN (K : PySem.W.Frag) : R2 := fun x y H Q => ∃ l k xs, x = .ref l ∧ y = .int k ∧ SqT K H l xs ∧ xs ≠ [] ∧ 2 ≤ k ∧ k ≤ 1000 ∧ xs.length ≤ 1000 ∧ ∀ p od, H p = none → od.dict = none → Q (.ref p) (upd H p (.frz od (.tup (List.replicate k.toNat xs).flatten)))
theorem op_repN {X : Cx} : OpR X (binaryOp .Mult) (rRepN X.K) := by
  intro pins s σ H x y v u Q I rx ry h
  obtain ⟨l, k, xs, rfl, rfl, hT, hne, h1, h2, hz, q⟩ := h
  cases rx
  obtain ⟨t, rfl⟩ := ry
  obtain ⟨its, r, ⟨⟨cls, dd, data, sl⟩, ho, hc, n, hd⟩, hs⟩ := I.tuple hT
  simp only at hc hd
  subst hc hd
  have hle : its.length = xs.length := r.length.symm
  have hn : its ≠ [] := fun e => hne (by
    rw [e] at hle
    exact List.eq_nil_of_length_eq_zero hle.symm)
  have hi : its.toArray.isEmpty = false := by
    cases its with
    | nil => exact absurd rfl hn
    | cons a b => rfl
  have hsz0 : its.toArray.size = xs.length := by rw [List.size_toArray, hle]
  have hm : ((its.toArray.size : Nat) : Int) * k ≤ 1000000 := by
    rw [hsz0]
    have a1 : ((xs.length : Nat) : Int) * k ≤ 1000 * k := Int.mul_le_mul_of_nonneg_right (by omega) (by omega)
    omega
  have flen : (List.replicate k.toNat its).flatten.length ≤ sizeLine := by
    rw [PyProof.Rows.lm_len_rep_flat, hle, sizeLine_eq]
    have a1 : k.toNat * xs.length ≤ 1000 * 1000 := Nat.mul_le_mul (by omega) hz
    omega
  have c0 : (decide (k < -(2 ^ 63)) || decide (k ≥ 2 ^ 63)) = false := by
    rw [decide_eq_false (by omega), decide_eq_false (by omega)] <;> rfl
  have c1 : (its.toArray.isEmpty || k == 1) = false := by
    rw [hi, Bool.false_or]
    exact beq_eq_false_iff_ne.mpr (by omega)
  have c2 : (decide (k ≤ 0) || its.toArray.isEmpty) = false := by
    rw [hi, Bool.or_false]
    exact decide_eq_false (by omega)
  have c4 : Builtin.Tuple.tupleTooMany (((its.toArray.size : Nat) : Int) * k) = false := by
    unfold Builtin.Tuple.tupleTooMany
    rw [sizeLine_eq]
    exact decide_eq_false (by omega)
  refine wpAny_binaryOp_repeat_ref (T := "tuple") (U := "int") (by decide) ⟨_, ho, rfl⟩ (fun s' => typeIs_int s' k t) noFill_tuple_mul F.fills_int_mul F.slot_int_rmul repeat_tuple F.slot_int_index.lookup
    (call_meets F.slot_int_rmul (typeIs_int s k t) F.entry_int_rmul (F.args_int_rmul_2 _ _) (int_rmul_tuple k t l its.toArray n dd sl)
      ⟨ho, rfl, ⟨_, ho, rfl⟩, call_meets F.slot_tuple_mul ⟨_, ho, rfl⟩ F.entry_tuple_mul (F.args_tuple_mul_2 _ _) (tuple_mulW l its.toArray n dd sl k t c0 c1 c2 (by omega) c4 (by rw [size_rep, List.size_toArray]; exact flen)) ⟨ho, ?_⟩⟩)
  rw [size_rep]
  exact ⟨.ref s.heap.objs.size, _, I.laid (t' := s.toks) (fun b ob q => Heap.get?_push_of_some _ q) (Nat.le_refl _) (M.okN (by rw [PyProof.Rows.lm_len_rep_flat, sizeLine_eq]; have a1 : k.toNat * xs.length ≤ 1000 * 1000 := Nat.mul_le_mul (by omega) hz; omega) (r.rep k.toNat)), rfl, q _ _ (I.hok.fresh (Nat.le_refl _)) rfl⟩
def rRepT1 (K : PySem.W.Frag) : R2 := fun x y H Q => ∃ l xs, x = .ref l ∧ y = .int 1 ∧ SqT K H l xs ∧ Q (.ref l) H
theorem op_repT1 {X : Cx} : OpR X (binaryOp .Mult) (rRepT1 X.K) := by
  intro pins s σ H x y v u Q I rx ry h
  obtain ⟨l, xs, rfl, rfl, hT, q⟩ := h
  cases rx
  obtain ⟨t, rfl⟩ := ry
  obtain ⟨its, r, ⟨⟨cls, dd, data, sl⟩, ho, hc, n, hd⟩, hs⟩ := I.tuple hT
  simp only at hc hd
  subst hc hd
  exact wpAny_binaryOp_repeat_ref (T := "tuple") (U := "int") (by decide) ⟨_, ho, rfl⟩ (fun s' => typeIs_int s' 1 t) noFill_tuple_mul F.fills_int_mul F.slot_int_rmul repeat_tuple F.slot_int_index.lookup
    (call_meets F.slot_int_rmul (typeIs_int s 1 t) F.entry_int_rmul (F.args_int_rmul_2 _ _) (int_rmul_tuple 1 t l its.toArray n dd sl)
      ⟨ho, rfl, ⟨_, ho, rfl⟩, call_meets F.slot_tuple_mul ⟨_, ho, rfl⟩ F.entry_tuple_mul (F.args_tuple_mul_2 _ _) (tuple_mul1 l its.toArray n dd sl t (by simp)) ⟨ho, ⟨.ref l, H, I, rfl, q⟩⟩⟩)
end L2
namespace M
open PySem L2
def rMulT : MR2 := fun x y h Q => match x, y with
  | .tup ds, .int k => ds ≠ [] ∧ 1 ≤ k ∧ k ≤ 1000 ∧ ds.length ≤ 1000 ∧ Q (.tup (List.replicate k.toNat ds).flatten) h
  | _, _ => False
section
variable {X : Cx}
theorem om_mulT : OpM X (binaryOp .Mult) rMulT := by
  refine ⟨_, op_repN.or op_repT1, fun x y h Q0 vx vy H Q q rh rx ry f => ?_⟩
  cases x <;> cases y <;> first | exact q.elim | skip
  rename_i ds k
  obtain ⟨n0, k1, k2, l1, q⟩ := q
  obtain ⟨a, vs, rfl, ta, rs⟩ := rx.tupN
  rw [ry.int]
  by_cases e : k = 1
  · subst e
    refine .inr ⟨a, vs, rfl, rfl, ta.t, ?_⟩
    have e2 : (List.replicate (1 : Int).toNat ds).flatten = ds := by
      show (ds ++ []) = ds
      exact List.append_nil _
    rw [e2] at q
    exact fin_at f q rh (rv_tup ta rs)
  · refine .inl ⟨a, k, vs, rfl, rfl, ta.t, ?_, by omega, k2, by rw [← rs.length]; exact l1, fun p od np nd => ?_⟩
    · intro z
      subst z
      exact n0 (List.eq_nil_of_length_eq_zero rs.length)
    · exact f _ h q _ _ (.new np) (rh.skip np) (rv_tup (.of upd_same nd) ((rs.rep _).mono (.new np)))
/-- max of a list of tuples of ints -/
def rMaxTup : MRA := fun xs h Q => match xs with
  | [.ref a] => ∃ xss : List (List Int), h a = some (.lst (xss.map fun xs => .tup (xs.map .int))) ∧ 0 < xss.length ∧ ∀ m, m ∈ xss → (∀ y, y ∈ xss → ¬ m < y) → Q (.tup (m.map .int)) h
  | _ => False
theorem dpAll_tups {K : PySem.W.Frag} {h : MH} {H : Hp} (rh : HR K h H) : ∀ {xss : List (List Int)} {ws : List V}, RVs K H (xss.map fun xs => D.tup (xs.map .int)) ws → DpAll K H ws (xss.map tuD)
  | [], _, r => by rw [r.inv0]; exact .nil
  | xs :: xss, _, r => by
    obtain ⟨v, ws, rfl, q, t⟩ := r.inv
    exact .cons (DP.dp rh (.tup (dps_ints xs)) q) (dpAll_tups rh t)
theorem units1 {a : Nat} {c : Nat} (h : a + 64 < c) : a + 1 + 1 < c := by omega
theorem cm_maxTup (hc : X.calm = true) (hu : X.A.units + 64 < cLine) : CaM X (.builtin "max") rMaxTup := by
  refine ⟨_, cr_maxTT hc (units1 hu), fun xs h Q0 vs H Q q rh rs f => ?_⟩
  unfold rMaxTup at q
  split at q
  · obtain ⟨v, rfl, rx⟩ := rs.one
    rw [rx.ref]
    obtain ⟨xss, e, l, q⟩ := q
    obtain ⟨ws, E, rw'⟩ := rh.lst e
    have hl : xss.length = ws.length := by have := rw'.length; rwa [List.length_map] at this
    refine ⟨_, ws, xss, rfl, .of E, dpAll_tups rh rw', l, hl, fun k w ew hk => ?_⟩
    have hki : k < xss.length := by rw [hl]; exact (List.getElem?_eq_some_iff.mp ew).1
    obtain ⟨d, ed, rd⟩ := rw'.get' ew
    rw [List.getElem?_map, List.getElem?_eq_getElem hki] at ed
    cases ed
    refine fin_at f (q xss[k] (List.getElem_mem hki) fun y hy => ?_) rh rd
    obtain ⟨j, hj, rfl⟩ := List.mem_iff_getElem.mp hy
    have := hk j hj
    rw [List.getD_eq_getElem?_getD, List.getD_eq_getElem?_getD, List.getElem?_eq_getElem hki, List.getElem?_eq_getElem hj] at this
    exact this
  · exact q.elim
section
variable {k : Int} {h : MH} {Q : MQ} {a : Addr} {xs : List D}
theorem q_mulT : rMulT (.tup xs) (.int k) h Q = (xs ≠ [] ∧ 1 ≤ k ∧ k ≤ 1000 ∧ xs.length ≤ 1000 ∧ Q (.tup (List.replicate k.toNat xs).flatten) h) := rfl
theorem q_maxTup : rMaxTup [.ref a] h Q = (∃ xss : List (List Int), h a = some (.lst (xss.map fun xs => .tup (xs.map .int))) ∧ 0 < xss.length ∧ ∀ m, m ∈ xss → (∀ y, y ∈ xss → ¬ m < y) → Q (.tup (m.map .int)) h) := rfl
end
end
end M

namespace M
open PySem L2
/-! ### dicts with keys ints and texts -/
def keyD : Key → D
  | .inl i => .int i
  | .inr x => .str x
def dV (kvs : List (Key × D)) (k : Key) : Option D := (kvs.find? fun kv => decide (kv.1 = k)).map (·.2)
def dPutK (kvs : List (Key × D)) (k : Key) (v : D) : List (Key × D) :=
  if (kvs.any fun kv => decide (kv.1 = k)) = true then kvs.map (fun kv => if kv.1 = k then (kv.1, v) else kv) else kvs ++ [(k, v)]
section
variable {K : PySem.W.Frag} {H : Hp}
theorem rkv_inv {p : Key × D} {kvs : List (Key × D)} {ws : List (Key × V)} (h : RKV K H (p :: kvs) ws) : ∃ v rs, ws = (p.1, v) :: rs ∧ RV K H p.2 v ∧ RKV K H kvs rs := by
  obtain ⟨h1, h2⟩ := h
  cases ws with
  | nil => cases h1
  | cons w rs =>
    rw [List.map_cons, List.map_cons] at h1
    injection h1 with a b
    rw [List.map_cons] at h2
    obtain ⟨v, r, e, q, t⟩ := h2.inv
    rw [List.map_cons] at e
    injection e with e1 e2
    subst e1 e2
    refine ⟨w.2, rs, ?_, q, b, t⟩
    rw [a]
theorem rkv_get {k : Key} {d : D} : ∀ {kvs : List (Key × D)} {ws : List (Key × V)}, RKV K H kvs ws → dV kvs k = some d → ∃ v, valV ws k = some v ∧ RV K H d v
  | [], _, _, e => by cases e
  | p :: kvs, _, h, e => by
    obtain ⟨v, rs, rfl, q, t⟩ := rkv_inv h
    by_cases c : p.1 = k
    · have e' : dV (p :: kvs) k = some p.2 := by simp [dV, List.find?_cons, c]
      rw [e'] at e
      cases e
      exact ⟨v, by rw [valV_pos (p := (p.1, v)) c], q⟩
    · have e' : dV (p :: kvs) k = dV kvs k := by simp [dV, List.find?_cons, c]
      rw [e'] at e
      obtain ⟨u, eu, ru⟩ := rkv_get t e
      exact ⟨u, by rw [valV_neg (p := (p.1, v)) c]; exact eu, ru⟩
theorem keyD_rv {k : Key} {v : V} (h : RV K H (keyD k) v) : v = kV k := by
  cases k with
  | inl i => exact h.int
  | inr x => exact h.str
end
def mDGet (o i : MTE) : MTE := fun env h Q => o env h fun x h1 => i env h1 fun y h2 => ∃ a kvs k d, x = .ref a ∧ h2 a = some (.dK kvs) ∧ y = keyD k ∧ dV kvs k = some d ∧ Q d h2
section
variable {X : Cx} {Hb : Hp} {o i : Expr} {mo mi : MTE} {pos : Pos}
theorem ie_dget (hu : X.A.units + 64 < cLine) (ho : IE X Hb o mo) (hi : IE X Hb i mi) (hs : NoSl i) : IE X Hb (.Subscript o i pos) (mDGet mo mi) := by
  refine pe_w (pe_dget (by omega) ho hi hs) fun σ H Q ⟨env, h, Q0, re, rh, m, f⟩ => ?_
  refine ⟨env, h, _, re, rh, m, fun x h1 q1 vx H1 t1 r1 rx => ?_⟩
  refine ⟨env, h1, _, re.mono t1, r1, q1, fun y h2 q vy H2 t2 r2 ry => ?_⟩
  obtain ⟨a, kvs, k, d, rfl, e, rfl, ed, q⟩ := q
  obtain ⟨ws, E, rk⟩ := r2.dK e
  obtain ⟨v, ev, rv⟩ := rkv_get rk ed
  refine ⟨a, v, (rx.mono t2).ref, ?_, f d h2 q v H2 (t1.trans t2) r2 rv⟩
  rw [keyD_rv ry, ← ev]
  exact DGet.k E
end
section
variable {K : PySem.W.Frag} {H : Hp}
theorem rkv_any {k : Key} : ∀ {kvs : List (Key × D)} {ws : List (Key × V)}, RKV K H kvs ws → (kvs.any fun kv => decide (kv.1 = k)) = (ws.any fun kv => decide (kv.1 = k))
  | [], ws, h => by
    have : ws = [] := by
      cases ws with
      | nil => rfl
      | cons _ _ => cases h.1
    rw [this]; rfl
  | p :: kvs, _, h => by
    obtain ⟨v, rs, rfl, q, t⟩ := rkv_inv h
    rw [List.any_cons, List.any_cons, rkv_any t]
theorem rkv_map {k : Key} {d : D} {v : V} (r : RV K H d v) : ∀ {kvs : List (Key × D)} {ws : List (Key × V)}, RKV K H kvs ws → RKV K H (kvs.map fun kv => if kv.1 = k then (kv.1, d) else kv) (ws.map fun kv => if kv.1 = k then (kv.1, v) else kv)
  | [], ws, h => by
    have : ws = [] := by
      cases ws with
      | nil => rfl
      | cons _ _ => cases h.1
    rw [this]; exact ⟨rfl, .nil⟩
  | p :: kvs, _, h => by
    obtain ⟨u, rs, rfl, q, t⟩ := rkv_inv h
    have ih := rkv_map (k := k) r t
    rw [List.map_cons, List.map_cons]
    by_cases c : p.1 = k
    · rw [if_pos c, if_pos (show (p.1, u).1 = k from c)]
      exact ⟨by rw [List.map_cons, List.map_cons, ih.1], by rw [List.map_cons, List.map_cons]; exact .cons r ih.2⟩
    · rw [if_neg c, if_neg (show ¬ (p.1, u).1 = k from c)]
      exact ⟨by rw [List.map_cons, List.map_cons, ih.1], by rw [List.map_cons, List.map_cons]; exact .cons q ih.2⟩
theorem rkv_put {k : Key} {d : D} {v : V} {kvs : List (Key × D)} {ws : List (Key × V)} (h : RKV K H kvs ws) (r : RV K H d v) : RKV K H (dPutK kvs k d) (putK ws k v) := by
  unfold dPutK putK
  rw [rkv_any h]
  split
  · exact rkv_map r h
  · exact ⟨by rw [List.map_append, List.map_append, h.1]; rfl, by rw [List.map_append, List.map_append]; exact h.2.append (.cons r .nil)⟩
theorem rkv_len {kvs : List (Key × D)} {ws : List (Key × V)} (h : RKV K H kvs ws) : kvs.length = ws.length := by
  have := congrArg List.length h.1
  rwa [List.length_map, List.length_map] at this
end
def mPutD (e o i : MTE) : MTS := fun D' env h => e env h fun d h1 => o env h1 fun x h2 => i env h2 fun y h3 => ∃ a kvs k, x = .ref a ∧ h3 a = some (.dK kvs) ∧ y = keyD k ∧ kvs.length < sizeLine ∧ D'.nx env (up h3 a (.dK (dPutK kvs k d)))
section
variable {X : Cx} {Hb : Hp} {e o i : Expr} {me mo mi : MTE} {pos pos' : Pos}
theorem is_dput (hu : X.A.units + 64 < cLine) (he : IE X Hb e me) (ho : IE X Hb o mo) (hi : IE X Hb i mi) (hs : swapsWith e (some (.Subscript o i pos')) pos.line X.env = pure false := by rfl) : IS X Hb (.Assign [.Subscript o i pos'] e pos) (mPutD me mo mi) := by
  refine is_of (ps_dput (by omega) ho hi he hs) fun D' σ H env h D0 re rh m f => ?_
  refine ⟨env, h, _, re, rh, m, fun d h1 q1 v H1 t1 r1 rv => ?_⟩
  refine ⟨env, h1, _, re.mono t1, r1, q1, fun x h2 q2 vx H2 t2 r2 rx => ?_⟩
  refine ⟨env, h2, _, (re.mono t1).mono t2, r2, q2, fun y h3 q3 vy H3 t3 r3 ry => ?_⟩
  obtain ⟨a, kvs, k, rfl, ea, rfl, lk, q⟩ := q3
  obtain ⟨ws, E, rk⟩ := r3.dK ea
  have rv3 := rv.mono (t2.trans t3)
  have t : TL H3 (upd H3 a (.dK (putK ws k v))) := .put E (fun _ z => by cases z) (fun _ _ z => by cases z)
  have tt := t1.trans (t2.trans (t3.trans t))
  refine ⟨a, _, (rx.mono t3).ref, ?_, f.nx env _ q σ _ tt (re.mono tt) (r3.put t ⟨_, rfl, (rkv_put rk rv3).mono t⟩)⟩
  rw [keyD_rv ry]
  exact DPut.k E (by rw [← rkv_len rk]; exact lk)
end
end M

namespace M
open PySem L2
/-! ### a dict of some pairs, its keys constants -/
def mPairs : List (Key × MTE) → ME → MH → (List (Key × D) → MH → Prop) → Prop
  | [], _, h, Q => Q [] h
  | (k, m) :: r, env, h, Q => m env h fun d h1 => mPairs r env h1 fun ps h2 => Q ((k, d) :: ps) h2
def mDispN (kes : List (Key × MTE)) : MTE := fun env h Q => ∀ p, h p = none → mPairs kes env (up h p (.dK [])) fun ps h2 => h2 p = some (.dK []) ∧ Q (.ref p) (up h2 p (.dK ps))
theorem put_new {k : Key} {v : V} : ∀ {kvs : List (Key × V)}, (∀ p ∈ kvs, p.1 ≠ k) → putK kvs k v = kvs ++ [(k, v)] := fun {kvs} h => by
  unfold putK
  rw [if_neg]
  intro z
  obtain ⟨p, hp, e⟩ := List.any_eq_true.mp z
  exact h p hp (of_decide_eq_true e)
theorem merge_new : ∀ (more kvs : List (Key × V)), (more.map (·.1)).Nodup → (∀ p ∈ kvs, ∀ q ∈ more, p.1 ≠ q.1) → mergeK kvs more = kvs ++ more
  | [], kvs, _, _ => by rw [List.append_nil]; rfl
  | p :: r, kvs, hn, hd => by
    rw [List.map_cons, List.nodup_cons] at hn
    show mergeK (putK kvs p.1 p.2) r = _
    rw [put_new fun q hq => hd q hq p (List.mem_cons_self ..), merge_new r _ hn.2, List.append_assoc]; · rfl
    intro a ha b hb e
    rcases List.mem_append.mp ha with z | z
    · exact hd a z b (List.mem_cons_of_mem _ hb) e
    · rw [List.mem_singleton.mp z] at e
      exact hn.1 (List.mem_map.mpr ⟨b, hb, e.symm⟩)
theorem pairs_lift {K : PySem.W.Frag} {Hb : Hp} : ∀ {kes : List (Key × MTE)} {env : ME} {h : MH} {Q0 : List (Key × D) → MH → Prop} {σ : L2.St} {H : Hp} {Q : List (V × V) → Hp → Prop}, REnv K Hb H env σ → HR K h H → mPairs kes env h Q0 →
    (∀ ps h', Q0 ps h' → ps.map (·.1) = kes.map (·.1) → ∀ ws H', TL H H' → HR K h' H' → RKV K H' ps ws → Q (ws.map fun w => (kV w.1, w.2)) H') → tPairs (kes.map fun p => (tC (kV p.1), lift K Hb p.2)) σ H Q
  | [], env, h, Q0, σ, H, Q, re, rh, m, f => f [] h m rfl [] H (.refl H) rh ⟨rfl, .nil⟩
  | (k, m1) :: r, env, h, Q0, σ, H, Q, re, rh, m, f => by
    show tC (kV k) σ H fun x H1 => lift K Hb m1 σ H1 fun y H2 => tPairs (r.map fun p => (tC (kV p.1), lift K Hb p.2)) σ H2 fun ps H3 => Q ((x, y) :: ps) H3
    refine ⟨env, h, _, re, rh, m, fun d h1 q v H1 t1 r1 rv => ?_⟩
    refine pairs_lift (re.mono t1) r1 q fun ps h2 q2 ek ws H2 t2 r2 rk => ?_
    exact f _ h2 q2 (by rw [List.map_cons, List.map_cons, ek]) ((k, v) :: ws) H2 (t1.trans t2) r2 ⟨by rw [List.map_cons, List.map_cons, rk.1], by rw [List.map_cons, List.map_cons]; exact .cons (rv.mono t2) rk.2⟩
section
variable {X : Cx} {Hb : Hp} {pos : Pos} {keys : List (Option Expr)} {values : List Expr} {kes : List (Key × MTE)}
theorem ie_dispN (h : PPs X pos keys values (kes.map fun p => (tC (kV p.1), lift X.K Hb p.2))) (hn : (kes.map (·.1)).Nodup) (h15 : kes.length ≤ 15) (hall : keys.all (·.isSome) = true) (hl : keys.length = values.length) (h0 : keys ≠ []) (hk : keys.length ≤ 15) : IE X Hb (.Dict keys values pos) (mDispN kes) := by
  refine pe_w (pe_disp h hall hl h0 hk) fun σ H Q ⟨env, h, Q0, re, rh, m, f⟩ => fun p np => ?_
  have t0 : TL H (upd H p (.dK [])) := .new np
  refine pairs_lift (re.mono t0) (rh.new (m := .dK []) np ⟨[], rfl, rfl, .nil⟩) (m p (rh.free np)) fun ps h2 ⟨e, q⟩ ek ws H2 t2 r2 rk => ?_
  obtain ⟨ws0, E, r0⟩ := r2.dK e
  have e0 : ws0 = [] := by
    cases ws0 with
    | nil => rfl
    | cons _ _ => cases r0.1
  subst e0
  refine ⟨E, ws, rfl, ?_, ?_⟩
  · rw [← rkv_len rk]
    have := congrArg List.length ek
    rw [List.length_map, List.length_map] at this
    omega
  · rw [merge_new ws [] (by rw [← rk.1, ek]; exact hn) (by simp), List.nil_append]
    have t3 : TL H2 (upd H2 p (.dK ws)) := .put E (fun _ z => by cases z) (fun _ _ z => by cases z)
    exact f _ _ q _ _ (t0.trans (t2.trans t3)) (r2.put t3 ⟨_, rfl, rk.mono t3⟩) rv_ref
end
end M

namespace L2
open PySem PySem.Spec PyProof PyProof.Rows PySem.SeqAt PySem.W
/-! tuples of ints compared -/
def rGtD (K : PySem.W.Frag) : R2 := fun x y H Q => ∃ ns ms : List Int, Dp K H x (tuD ns) ∧ Dp K H y (tuD ms) ∧ Q (.bl (decide (ms < ns))) H
def rLtD (K : PySem.W.Frag) : R2 := fun x y H Q => ∃ ns ms : List Int, Dp K H x (tuD ns) ∧ Dp K H y (tuD ms) ∧ Q (.bl (decide (ns < ms))) H
section
variable {X : Cx}
theorem op_gtD (hu : X.A.units + 64 < cLine) : OpR X (compareOp .Gt) (rGtD X.K) := by
  intro pins s σ H x y v u Q I rx ry h
  obtain ⟨ns, ms, hd, he, q⟩ := h
  obtain ⟨as, r1⟩ := Dp.reads I _ x v hd rx
  obtain ⟨bs, r2⟩ := Dp.reads I _ y u he ry
  refine gt_data r1 r2 (by rw [alike]; exact alike_ints _ _) (fun z => by cases z) (by have := depth_tup ns; omega) ?_
  rw [dlt_tup]
  exact ⟨.bl _, H, I, rfl, q⟩
theorem op_ltD (hu : X.A.units + 64 < cLine) : OpR X (compareOp .Lt) (rLtD X.K) := by
  intro pins s σ H x y v u Q I rx ry h
  obtain ⟨ns, ms, hd, he, q⟩ := h
  obtain ⟨as, r1⟩ := Dp.reads I _ x v hd rx
  obtain ⟨bs, r2⟩ := Dp.reads I _ y u he ry
  refine lt_data r1 r2 (by rw [alike]; exact alike_ints _ _) (fun z => by cases z) (by have := depth_tup ns; omega) ?_
  rw [dlt_tup]
  exact ⟨.bl _, H, I, rfl, q⟩
end
end L2
namespace M
open PySem L2
def rGtT : MR2 := fun x y h Q => match x, y with
  | .int i, .int j => Q (.bl (decide (j < i))) h
  | .tup xs, .tup ys => ∃ ns ms : List Int, xs = ns.map .int ∧ ys = ms.map .int ∧ Q (.bl (decide (ms < ns))) h
  | _, _ => False
def rLtT : MR2 := fun x y h Q => match x, y with
  | .int i, .int j => Q (.bl (decide (i < j))) h
  | .tup xs, .tup ys => ∃ ns ms : List Int, xs = ns.map .int ∧ ys = ms.map .int ∧ Q (.bl (decide (ns < ms))) h
  | _, _ => False
section
variable {X : Cx}
theorem om_gtT (hu : X.A.units + 64 < cLine) : OpM X (compareOp .Gt) rGtT := by
  refine ⟨_, op_gt.or (op_gtD hu), fun x y h Q0 vx vy H Q q rh rx ry f => ?_⟩
  cases x <;> cases y <;> first | exact q.elim | skip
  · rw [rx.int, ry.int]
    exact .inl ⟨_, _, rfl, rfl, fin_at f q rh rv_bl⟩
  · obtain ⟨ns, ms, rfl, rfl, q⟩ := q
    exact .inr ⟨ns, ms, DP.dp rh (.tup (dps_ints ns)) rx, DP.dp rh (.tup (dps_ints ms)) ry, fin_at f q rh rv_bl⟩
theorem om_ltT (hu : X.A.units + 64 < cLine) : OpM X (compareOp .Lt) rLtT := by
  refine ⟨_, op_lt.or (op_ltD hu), fun x y h Q0 vx vy H Q q rh rx ry f => ?_⟩
  cases x <;> cases y <;> first | exact q.elim | skip
  · rw [rx.int, ry.int]
    exact .inl ⟨_, _, rfl, rfl, fin_at f q rh rv_bl⟩
  · obtain ⟨ns, ms, rfl, rfl, q⟩ := q
    exact .inr ⟨ns, ms, DP.dp rh (.tup (dps_ints ns)) rx, DP.dp rh (.tup (dps_ints ms)) ry, fin_at f q rh rv_bl⟩
section
variable {i j : Int} {h : MH} {Q : MQ} {xs ys : List D}
theorem q_gtT1 : rGtT (.int i) (.int j) h Q = Q (.bl (decide (j < i))) h := rfl
theorem q_gtT2 : rGtT (.tup xs) (.tup ys) h Q = (∃ ns ms : List Int, xs = ns.map .int ∧ ys = ms.map .int ∧ Q (.bl (decide (ms < ns))) h) := rfl
theorem q_ltT1 : rLtT (.int i) (.int j) h Q = Q (.bl (decide (i < j))) h := rfl
theorem q_ltT2 : rLtT (.tup xs) (.tup ys) h Q = (∃ ns ms : List Int, xs = ns.map .int ∧ ys = ms.map .int ∧ Q (.bl (decide (ns < ms))) h) := rfl
end
end
/-- a list, and the empty one -/
theorem eqD_nil {h : MH} {Q : MQ} {a b : Addr} {ds : List D} {ps : List PyData} (ea : h a = some (.lst ds)) (hp : DPs h ds ps) (sp : SeqAt.shaped (.list ps) = true) (eb : h b = some (.lst [])) (q : Q (.bl ds.isEmpty) h) : rEqD (.ref a) (.ref b) h Q := by
  refine ⟨_, _, .lst ea hp, .lst eb .nil, sp, rfl, ?_⟩
  have e : PyData.eqv (.list ps) (.list []) = ds.isEmpty := by
    cases hp with
    | nil => rw [PyData.eqv, PyData.eqvAll]; rfl
    | cons _ _ => rw [PyData.eqv, PyData.eqvAll]; rfl
  rw [e]; exact q
end M

namespace M
open PySem L2
/-! ### dicts: equations for the walk -/
section
variable {a : Addr} {s s2 : Str} {i : Int} {d v : D} {h : MH} {Q : D → MH → Prop} {kvs r : List (Key × D)} {k k2 : Key}
def fDGet (x y : D) (h : MH) (Q : D → MH → Prop) : Prop := ∃ a kvs k d, x = .ref a ∧ h a = some (.dK kvs) ∧ y = keyD k ∧ dV kvs k = some d ∧ Q d h
theorem q_dget {o i : MTE} {env : ME} : mDGet o i env h Q = o env h fun x h1 => i env h1 fun y h2 => fDGet x y h2 Q := rfl
theorem key_str (e : D.str s = keyD k) : k = .inr s := by
  cases k with
  | inl j => cases e
  | inr x => cases e; rfl
theorem key_int (e : D.int i = keyD k) : k = .inl i := by
  cases k with
  | inl j => cases e; rfl
  | inr x => cases e
theorem q_dgetS : fDGet (.ref a) (.str s) h Q = ∃ kvs, h a = some (.dK kvs) ∧ ∃ d, dV kvs (.inr s) = some d ∧ Q d h := by
  refine propext ⟨fun ⟨b, kvs, k, d, e1, e2, e3, e4, q⟩ => ?_, fun ⟨kvs, e, d, e2, q⟩ => ⟨a, kvs, .inr s, d, rfl, e, rfl, e2, q⟩⟩
  cases e1
  rw [key_str e3] at e4
  exact ⟨kvs, e2, d, e4, q⟩
theorem q_dgetI : fDGet (.ref a) (.int i) h Q = ∃ kvs, h a = some (.dK kvs) ∧ ∃ d, dV kvs (.inl i) = some d ∧ Q d h := by
  refine propext ⟨fun ⟨b, kvs, k, d, e1, e2, e3, e4, q⟩ => ?_, fun ⟨kvs, e, d, e2, q⟩ => ⟨a, kvs, .inl i, d, rfl, e, rfl, e2, q⟩⟩
  cases e1
  rw [key_int e3] at e4
  exact ⟨kvs, e2, d, e4, q⟩
theorem dV_cons : dV ((k, v) :: r) k2 = if k = k2 then some v else dV r k2 := by
  unfold dV
  rw [List.find?_cons]
  by_cases c : k = k2
  · rw [if_pos c]; simp [c]
  · rw [if_neg c]; simp [c]
/-- a value put under a key that is there -/
def dSet (kvs : List (Key × D)) (k : Key) (d : D) : List (Key × D) := match kvs with
  | [] => []
  | (k2, v) :: r => (k2, if k2 = k then d else v) :: dSet r k d
theorem dSet_map : ∀ kvs : List (Key × D), (kvs.map fun kv => if kv.1 = k then (kv.1, d) else kv) = dSet kvs k d
  | [] => rfl
  | (k2, v) :: r => by
    rw [List.map_cons, dSet_map r]
    show _ = (k2, if k2 = k then d else v) :: dSet r k d
    by_cases c : k2 = k
    · rw [if_pos c, if_pos (show (k2, v).1 = k from c)]
    · rw [if_neg c, if_neg (show ¬ (k2, v).1 = k from c)]
theorem dPut_in (e : (dV kvs k).isSome = true) : dPutK kvs k d = dSet kvs k d := by
  unfold dPutK
  rw [if_pos, dSet_map]
  obtain ⟨x, hx⟩ := Option.isSome_iff_exists.mp e
  unfold dV at hx
  obtain ⟨p, hp, _⟩ := Option.map_eq_some_iff.mp hx
  exact List.any_eq_true.mpr ⟨p, List.mem_of_find?_eq_some hp, List.find?_some (p := fun kv : Key × D => decide (kv.1 = k)) hp⟩
theorem dSet_nil : dSet [] k d = [] := rfl
theorem dSet_cons : dSet ((k2, v) :: r) k d = (k2, if k2 = k then d else v) :: dSet r k d := rfl
def fPutD (x y d : D) (h : MH) (Q : MH → Prop) : Prop := ∃ a kvs k, x = .ref a ∧ h a = some (.dK kvs) ∧ y = keyD k ∧ kvs.length < sizeLine ∧ Q (up h a (.dK (dPutK kvs k d)))
theorem putD_ {e o i : MTE} {D' : MEnds} {env : ME} (q : e env h fun d h1 => o env h1 fun x h2 => i env h2 fun y h3 => fPutD x y d h3 fun h4 => D'.nx env h4) : mPutD e o i D' env h := q
/-- a text key that is there -/
theorem q_putS {Q : MH → Prop} : fPutD (.ref a) (.str s) d h Q = ∃ kvs, h a = some (.dK kvs) ∧ kvs.length < sizeLine ∧ Q (up h a (.dK (dPutK kvs (.inr s) d))) := by
  refine propext ⟨fun ⟨b, kvs, k, e1, e2, e3, e4, q⟩ => ?_, fun ⟨kvs, e, l, q⟩ => ⟨a, kvs, .inr s, rfl, e, rfl, l, q⟩⟩
  cases e1
  rw [key_str e3] at q
  exact ⟨kvs, e2, e4, q⟩
theorem q_putI {Q : MH → Prop} : fPutD (.ref a) (.int i) d h Q = ∃ kvs, h a = some (.dK kvs) ∧ kvs.length < sizeLine ∧ Q (up h a (.dK (dPutK kvs (.inl i) d))) := by
  refine propext ⟨fun ⟨b, kvs, k, e1, e2, e3, e4, q⟩ => ?_, fun ⟨kvs, e, l, q⟩ => ⟨a, kvs, .inl i, rfl, e, rfl, l, q⟩⟩
  cases e1
  rw [key_int e3] at q
  exact ⟨kvs, e2, e4, q⟩
end
/-! texts as keys: unlike -/
theorem kn_cells_at : (Str.ofString "cells" = Str.ofString "at") = False := eq_false (by decide +kernel)
theorem kn_cells_digits : (Str.ofString "cells" = Str.ofString "digits") = False := eq_false (by decide +kernel)
theorem kn_cells_turn : (Str.ofString "cells" = Str.ofString "turn") = False := eq_false (by decide +kernel)
theorem kn_at_cells : (Str.ofString "at" = Str.ofString "cells") = False := eq_false (by decide +kernel)
theorem kn_at_digits : (Str.ofString "at" = Str.ofString "digits") = False := eq_false (by decide +kernel)
theorem kn_at_turn : (Str.ofString "at" = Str.ofString "turn") = False := eq_false (by decide +kernel)
theorem kn_digits_cells : (Str.ofString "digits" = Str.ofString "cells") = False := eq_false (by decide +kernel)
theorem kn_digits_at : (Str.ofString "digits" = Str.ofString "at") = False := eq_false (by decide +kernel)
theorem kn_digits_turn : (Str.ofString "digits" = Str.ofString "turn") = False := eq_false (by decide +kernel)
theorem kn_turn_cells : (Str.ofString "turn" = Str.ofString "cells") = False := eq_false (by decide +kernel)
theorem kn_turn_at : (Str.ofString "turn" = Str.ofString "at") = False := eq_false (by decide +kernel)
theorem kn_turn_digits : (Str.ofString "turn" = Str.ofString "digits") = False := eq_false (by decide +kernel)
end M

namespace M
open PySem L2
/-! ### plain data (None, ints, tuples of these) compared -/
def Pu : Nat → D → Prop
  | 0, _ => False
  | n + 1, d => match d with
    | .non => True
    | .int _ => True
    | .tup ds => ∀ x ∈ ds, Pu n x
    | _ => False
/-- what holds of plain data d: it is p -/
structure Pd (h : MH) (n : Nat) (d : D) (p : PyData) : Prop where
  dp : DP h d p
  lay : p.canLay0 = true
  dep : p.depth ≤ n
theorem pu_dps {h : MH} {n : Nat} (ih : ∀ d, Pu n d → ∃ p, DP h d p ∧ p.canLay0 = true ∧ p.depth ≤ n) : ∀ ds : List D, (∀ x ∈ ds, Pu n x) → ∃ ps, DPs h ds ps ∧ PyData.canLayAll0 ps = true ∧ PyData.depthAll ps ≤ n
  | [], _ => ⟨[], .nil, rfl, by rw [PyData.depthAll]; omega⟩
  | d :: ds, q => by
    obtain ⟨p, a1, a2, a3⟩ := ih d (q d (List.mem_cons_self ..))
    obtain ⟨ps, b1, b2, b3⟩ := pu_dps ih ds fun x hx => q x (List.mem_cons_of_mem _ hx)
    exact ⟨p :: ps, .cons a1 b1, by rw [PyData.canLayAll0, a2, b2]; rfl, by rw [PyData.depthAll]; omega⟩
theorem pu_dp {h : MH} : ∀ (n : Nat) (d : D), Pu n d → ∃ p, DP h d p ∧ p.canLay0 = true ∧ p.depth ≤ n
  | 0, _, q => q.elim
  | n + 1, d, q => by
    cases d with
    | non => exact ⟨_, .non, rfl, by rw [PyData.depth]; omega⟩
    | int i => exact ⟨_, .int i, rfl, by rw [PyData.depth]; omega⟩
    | tup ds =>
      obtain ⟨ps, b1, b2, b3⟩ := pu_dps (pu_dp n) ds q
      exact ⟨_, .tup b1, by rw [PyData.canLay0]; exact b2, by rw [PyData.depth]; omega⟩
    | bl _ => exact q.elim
    | str _ => exact q.elim
    | rl _ => exact q.elim
    | tw _ => exact q.elim
    | ref _ => exact q.elim
theorem pu_eqvs {h : MH} {n : Nat} (ih : ∀ d e p q, Pu n d → Pu n e → DP h d p → DP h e q → (PyData.eqv p q = true ↔ d = e)) : ∀ (ds es : List D) (ps qs : List PyData), (∀ x ∈ ds, Pu n x) → (∀ x ∈ es, Pu n x) → DPs h ds ps → DPs h es qs → (PyData.eqvAll ps qs = true ↔ ds = es)
  | [], [], _, _, _, _, .nil, .nil => by simp [PyData.eqvAll]
  | [], _ :: _, _, _, _, _, .nil, .cons _ _ => by simp [PyData.eqvAll]
  | _ :: _, [], _, _, _, _, .cons _ _, .nil => by simp [PyData.eqvAll]
  | d :: ds, e :: es, _, _, p1, p2, .cons a1 a2, .cons b1 b2 => by
    rw [PyData.eqvAll, Bool.and_eq_true, ih d e _ _ (p1 d (List.mem_cons_self ..)) (p2 e (List.mem_cons_self ..)) a1 b1, pu_eqvs ih ds es _ _ (fun x hx => p1 x (List.mem_cons_of_mem _ hx)) (fun x hx => p2 x (List.mem_cons_of_mem _ hx)) a2 b2, List.cons.injEq]
theorem pu_eqv {h : MH} : ∀ (n : Nat) (d e : D) (p q : PyData), Pu n d → Pu n e → DP h d p → DP h e q → (PyData.eqv p q = true ↔ d = e)
  | 0, _, _, _, _, q, _, _, _ => q.elim
  | n + 1, d, e, p, q, pd, pe, a, b => by
    cases d with
    | non =>
      cases a
      cases e with
      | non => cases b; simp [PyData.eqv]
      | int _ => cases b; simp [PyData.eqv]
      | tup _ => cases b; simp [PyData.eqv]
      | bl _ => exact pe.elim
      | str _ => exact pe.elim
      | rl _ => exact pe.elim
      | tw _ => exact pe.elim
      | ref _ => exact pe.elim
    | int i =>
      cases a
      cases e with
      | non => cases b; simp [PyData.eqv]
      | int _ => cases b; simp [PyData.eqv]
      | tup _ => cases b; simp [PyData.eqv]
      | bl _ => exact pe.elim
      | str _ => exact pe.elim
      | rl _ => exact pe.elim
      | tw _ => exact pe.elim
      | ref _ => exact pe.elim
    | tup ds =>
      cases a with | tup a =>
      cases e with
      | non => cases b; simp [PyData.eqv]
      | int _ => cases b; simp [PyData.eqv]
      | tup es =>
        cases b with | tup b =>
        rw [PyData.eqv, pu_eqvs (pu_eqv n) ds es _ _ pd pe a b, D.tup.injEq]
      | bl _ => exact pe.elim
      | str _ => exact pe.elim
      | rl _ => exact pe.elim
      | tw _ => exact pe.elim
      | ref _ => exact pe.elim
    | bl _ => exact pd.elim
    | str _ => exact pd.elim
    | rl _ => exact pd.elim
    | tw _ => exact pd.elim
    | ref _ => exact pd.elim
theorem shaped_of {p : PyData} {n : Nat} (l : p.canLay0 = true) (d : p.depth ≤ n) (hn : n ≤ 64) : SeqAt.shaped p = true := by
  unfold SeqAt.shaped
  rw [Bool.and_eq_true, decide_eq_true_eq]
  exact ⟨l, by omega⟩
section
variable {h : MH} {Q : MQ} {a b : Addr} {x y : D} {xs ys : List D}
theorem eqD_pu (px : Pu 9 x) (py : Pu 9 y) (q : ∀ b, (b = true ↔ x = y) → Q (.bl b) h) : rEqD x y h Q := by
  obtain ⟨p1, a1, a2, a3⟩ := pu_dp (h := h) 9 x px
  obtain ⟨p2, b1, b2, b3⟩ := pu_dp (h := h) 9 y py
  exact ⟨_, _, a1, b1, shaped_of a2 a3 (by decide), shaped_of b2 b3 (by decide), q _ (pu_eqv 9 x y _ _ px py a1 b1)⟩
theorem neD_pu (px : Pu 9 x) (py : Pu 9 y) (q : ∀ b, (b = true ↔ x ≠ y) → Q (.bl b) h) : rNeD x y h Q := by
  obtain ⟨p1, a1, a2, a3⟩ := pu_dp (h := h) 9 x px
  obtain ⟨p2, b1, b2, b3⟩ := pu_dp (h := h) 9 y py
  refine ⟨_, _, a1, b1, shaped_of a2 a3 (by decide), shaped_of b2 b3 (by decide), q _ ?_⟩
  rw [Bool.not_eq_true', ← Bool.not_eq_true, pu_eqv 9 x y _ _ px py a1 b1]
theorem dps_pu (px : ∀ x ∈ xs, Pu 9 x) : ∃ ps, DPs h xs ps ∧ SeqAt.shaped (.list ps) = true ∧ SeqAt.shaped (.tuple ps) = true := by
  obtain ⟨ps, b1, b2, b3⟩ := pu_dps (pu_dp (h := h) 9) xs px
  exact ⟨ps, b1, shaped_of (n := 10) (by rw [PyData.canLay0]; exact b2) (by rw [PyData.depth]; omega) (by decide), shaped_of (n := 10) (by rw [PyData.canLay0]; exact b2) (by rw [PyData.depth]; omega) (by decide)⟩
theorem eqD_pl (ea : h a = some (.lst xs)) (eb : h b = some (.lst ys)) (px : ∀ x ∈ xs, Pu 9 x) (py : ∀ x ∈ ys, Pu 9 x) (q : ∀ b, (b = true ↔ xs = ys) → Q (.bl b) h) : rEqD (.ref a) (.ref b) h Q := by
  obtain ⟨p1, a1, a2, _⟩ := dps_pu (h := h) px
  obtain ⟨p2, b1, b2, _⟩ := dps_pu (h := h) py
  refine ⟨_, _, .lst ea a1, .lst eb b1, a2, b2, q _ ?_⟩
  rw [PyData.eqv]
  exact pu_eqvs (pu_eqv 9) xs ys _ _ px py a1 b1
end
end M

namespace M
open PySem L2
/-! ### a constant tuple of the text -/
def gcTup {K : PySem.W.Frag} {mg : Str → Option Value} {x : Str} {T : Addr} {o : Obj} {its : Array Value} {n : Nat} {ds : List D} {vs : List V} (e : mg x = some (.ref T)) (lk : K.lookup T = some o) (hc : o.cls = .type "tuple") (hn : o.dict = none) (hd : o.data = .seq its n) (hz : its.size ≤ sizeLine) (r : Vals vs its.toList) (rv : ∀ H, RVs K H ds vs) : Gc K mg x (.tup ds) :=
  ⟨.ref T, .ref T, e, rfl, fun H => rv_tup (.inr ⟨o, its, n, lk, hc, hn, hd, hz, r⟩) (rv H)⟩
theorem rvs_nil {K : PySem.W.Frag} {H : Hp} : RVs K H [] [] := by simp only [RVs]
/-- a comprehension whose elements are new things -/
theorem lcR {env : ME} {e : MTE} {t : Tg} {S : MSrc} {h1 : MH} {Q : MQ} {vs : List Nat} (obj : Nat → MO) (ok : ∀ h', Fr [] h1 h' → S.ok h') (hz : S.n ≤ 100000)
    (turn : ∀ k h', k < S.n → Fr [] h1 h' → ∃ env2, asg t (S.item k) (mwipe env vs) = some env2 ∧ ∀ R : MQ, (∀ b h4, Fr [] h' h4 → h' b = none → h4 b = some (obj k) → R (.ref b) h4) → e env2 h' R)
    (fin : ∀ p h' (as : List Addr), Fr [] h1 h' → h1 p = none → h' p = some (.lst (as.map .ref)) → as.length = S.n → (∀ (n : Nat) (b : Addr), as[n]? = some b → h' b = some (obj n)) → Q (.ref p) h') : LcW S t mYes e vs env h1 Q := by
  intro p np
  refine ⟨fun k h' => Fr [] h1 h' ∧ ∃ as : List Addr, h' p = some (.lst (as.map .ref)) ∧ as.length = k ∧ ∀ (n : Nat) (b : Addr), as[n]? = some b → h' b = some (obj n) ∧ b ≠ p, ⟨.new np, [], up_same, rfl, by simp⟩, ?_⟩
  rintro k h' hk ⟨fr, as, ep, la, ha⟩
  refine ⟨ok h' fr, fun hl => ?_, fun e => fin p h' as fr np ep (la.trans e) fun n b hb => (ha n b hb).1⟩
  obtain ⟨env2, ea, ht⟩ := turn k h' hl fr
  refine ⟨env2, ea, ?_⟩
  show e env2 h' _
  refine ht _ fun b h4 f4 nb eb => ?_
  have e4 := f4.at0 ep
  have bp : b ≠ p := fun z => by rw [z, ep] at nb; cases nb
  refine ⟨_, e4, by rw [List.length_map, la, sizeLine_eq]; omega, ?_, as ++ [b], by rw [up_same, List.map_append]; rfl, by rw [List.length_append, la]; rfl, fun n c hc => ?_⟩
  · intro c o nc ec
    rw [up_ne (ne_of ec np)]
    exact f4.at0 (fr.at0 ec)
  · by_cases cn : n < k
    · rw [List.getElem?_append_left (by omega)] at hc
      obtain ⟨x1, x2⟩ := ha n c hc
      exact ⟨by rw [up_ne x2]; exact f4.at0 x1, x2⟩
    · rw [List.getElem?_append_right (by omega), la] at hc
      have e0 : n - k = 0 := by
        cases hz : n - k with
        | zero => rfl
        | succ m => rw [hz] at hc; simp at hc
      rw [e0] at hc
      simp at hc
      subst hc
      have : n = k := by omega
      subst this
      exact ⟨by rw [up_ne bp]; exact eb, bp⟩
theorem Fr.over {S : List Addr} {h h2 : MH} {p : Addr} {o : MO} (n : h p = none) (f : Fr S h h2) : Fr S h (up h2 p o) := fun b u nb e => by rw [up_ne (ne_of e n)]; exact f b u nb e
/-- displays of constants are constants -/
theorem tup2_C {a b : D} : mTup (mCons (mC a) (mCons (mC b) mNil)) = mC (.tup [a, b]) := by
  funext env h Q
  simp [mTup, mCons, mC, mNil, sizeLine_eq]
theorem tup3_C {a b c : D} : mTup (mCons (mC a) (mCons (mC b) (mCons (mC c) mNil))) = mC (.tup [a, b, c]) := by
  funext env h Q
  simp [mTup, mCons, mC, mNil, sizeLine_eq]
/-- a display of constants: the list -/
def mLC (ds : List D) : MTE := fun _ h Q => ∀ p, h p = none → Q (.ref p) (up h p (.lst ds))
theorem lst6_C {a b c d e f : D} : mLst (mCons (mC a) (mCons (mC b) (mCons (mC c) (mCons (mC d) (mCons (mC e) (mCons (mC f) mNil)))))) = mLC [a, b, c, d, e, f] := by
  funext env h Q
  simp [mLst, mCons, mC, mNil, sizeLine_eq, mLC]
theorem lstN_C : ∀ {ds : List D}, ds.length ≤ 100 → mLst (ds.foldr (fun d m => mCons (mC d) m) mNil) = mLC ds := by
  intro ds hl
  have key : ∀ (ds : List D) (env : ME) (h : MH) (Q : List D → MH → Prop), (ds.foldr (fun d m => mCons (mC d) m) mNil) env h Q = Q ds h := fun ds => by
    induction ds with
    | nil => intro env h Q; rfl
    | cons d ds ih =>
      intro env h Q
      show (ds.foldr (fun d m => mCons (mC d) m) mNil) env h (fun xs h2 => Q (d :: xs) h2) = _
      rw [ih]
  funext env h Q
  show (ds.foldr (fun d m => mCons (mC d) m) mNil) env h (fun xs h1 => xs.length ≤ sizeLine ∧ ∀ p, h1 p = none → Q (.ref p) (up h1 p (.lst xs))) = _
  rw [key]
  have : ds.length ≤ sizeLine := by rw [sizeLine_eq]; omega
  simp only [this, true_and]
  rfl
end M

namespace L2
open PySem PySem.Spec PyProof PyProof.Rows PySem.SeqAt PySem.W
/-! ### {(a, b): v}: a dict of one pair, its key a tuple -/
def tDisp1T (ta : TA) (tv : TE) : TE := fun σ H Q => ∀ p, H p = none → tTup ta σ (upd H p (.dT [])) fun x H1 => tv σ H1 fun y H2 =>
  ∃ (k : List Key) (q : Addr), x = .ref q ∧ H2 p = some (.dT []) ∧ H2 q = some (.tup (k.map kV)) ∧ Q (.ref p) (upd H2 p (.dT [(k, y)]))
theorem pe_disp1T {X : Cx} {pos p2 : Pos} {es : List Expr} {x1} {v : Expr} {ta : TA} {tv : TE} (hu : X.A.units + 64 < cLine) (ha : PA X es ta) (hv : PE X v tv) : PE X (.Dict [some (.Tuple es x1 p2)] [v] pos) (tDisp1T ta tv) := by
  refine ⟨fun pins s σ H Q I q => ?_⟩
  have hn := I.hok.fresh (Nat.le_refl s.heap.objs.size)
  have I1 := I.laid (a := s.heap.objs.size) (o := .dT []) (h' := s.heap.push { cls := .type "dict", data := .dict #[] }) (t' := s.toks) (fun _ _ q => Heap.get?_push_of_some _ q) (Nat.le_refl _) (dt_empty s.heap I.big)
  refine wpAny_Dict_any rfl rfl (by simp) (by simp) (thn ((pps_cons (pe_tup ha) hv pps_nil).run pins _ σ _ (fun ps H' => match ps with
    | [(x, y)] => ∃ (k : List Key) (q : Addr), x = .ref q ∧ H' s.heap.objs.size = some (.dT []) ∧ H' q = some (.tup (k.map kV)) ∧ Q (.ref s.heap.objs.size) (upd H' s.heap.objs.size (.dT [(k, y)]))
    | _ => False) I1 (q _ hn)) fun ws s2 ⟨ps, H2, I2, rel, q2⟩ => ?_)
  rcases ps with _ | ⟨⟨x, y⟩, _ | ⟨_, _⟩⟩
  · exact q2.elim
  · cases rel with
    | @cons _ b as bs h t =>
      cases t
      obtain ⟨k, c, ex, e, eb, q3⟩ := q2
      obtain ⟨u, w'⟩ := b
      obtain ⟨ru, rw'⟩ := h
      subst ex
      cases (show u = Value.ref c from ru)
      obtain ⟨z, hd, xs, rel, dd⟩ := dt_of I2.hok e
      cases rel
      unfold PySem.storeAll
      rw [List.forIn_cons]
      refine wpAny_bind (wpAny_bind (wpAny_dictSet_heap (hsz := Nat.zero_le _) (show X.A.units < cLine by omega) (key_of I2.hok eb) dd fun h' dd' hs => wpAny_pure ?_))
      show wpAny _ _ (forIn [] PUnit.unit _) _ _ _
      rw [List.forIn_nil]
      refine wpAny_pure ⟨.ref s.heap.objs.size, _, ?_, rfl, q3⟩
      obtain ⟨o, es', ep, hq, h2, h3, h4, _, h5⟩ := dd'
      refine d_write I2 (by rw [e]; exact True.intro) hs ⟨o, hq⟩ ⟨by show 1 ≤ sizeLine; decide, hd, _, (KT.put (kvs := []) (xs := []) .nil k eb rw').keeps fun c ys ec => ?_, o, es', ep, hq, h2, h3, h4, h5⟩
      rw [upd_ne (ne_of ec e (fun z => nomatch z))]
      exact ec
  · exact q2.elim
end L2
namespace M
open PySem L2
/-! ### dicts with keys of tuples -/
section
variable {κ : Type} [DecidableEq κ]
def dG (kvs : List (κ × D)) (k : κ) : Option D := (kvs.find? fun kv => decide (kv.1 = k)).map (·.2)
def dPutG (kvs : List (κ × D)) (k : κ) (v : D) : List (κ × D) :=
  if (kvs.any fun kv => decide (kv.1 = k)) = true then kvs.map (fun kv => if kv.1 = k then (kv.1, v) else kv) else kvs ++ [(k, v)]
variable {K : PySem.W.Frag} {H : Hp}
theorem rkvG_inv {p : κ × D} {kvs : List (κ × D)} {ws : List (κ × V)} (h : RKV K H (p :: kvs) ws) : ∃ v rs, ws = (p.1, v) :: rs ∧ RV K H p.2 v ∧ RKV K H kvs rs := by
  obtain ⟨h1, h2⟩ := h
  cases ws with
  | nil => cases h1
  | cons w rs =>
    rw [List.map_cons, List.map_cons] at h1
    injection h1 with a b
    rw [List.map_cons] at h2
    obtain ⟨v, r, e, q, t⟩ := h2.inv
    rw [List.map_cons] at e
    injection e with e1 e2
    subst e1 e2
    refine ⟨w.2, rs, ?_, q, b, t⟩
    rw [a]
theorem rkvG_nil {ws : List (κ × V)} (h : RKV K H ([] : List (κ × D)) ws) : ws = [] := by
  cases ws with
  | nil => rfl
  | cons _ _ => cases h.1
theorem rkvG_get {k : κ} : ∀ {kvs : List (κ × D)} {ws : List (κ × V)}, RKV K H kvs ws → (dG kvs k = none ∧ valV ws k = none) ∨ ∃ d v, dG kvs k = some d ∧ valV ws k = some v ∧ RV K H d v
  | [], ws, h => by rw [rkvG_nil h]; exact .inl ⟨rfl, rfl⟩
  | p :: kvs, _, h => by
    obtain ⟨v, rs, rfl, q, t⟩ := rkvG_inv h
    by_cases c : p.1 = k
    · exact .inr ⟨p.2, v, by simp [dG, List.find?_cons, c], by rw [valV_pos (p := (p.1, v)) c], q⟩
    · have e' : dG (p :: kvs) k = dG kvs k := by simp [dG, List.find?_cons, c]
      rw [e', valV_neg (p := (p.1, v)) c]
      exact rkvG_get t
theorem rkvG_any {k : κ} : ∀ {kvs : List (κ × D)} {ws : List (κ × V)}, RKV K H kvs ws → (kvs.any fun kv => decide (kv.1 = k)) = (ws.any fun kv => decide (kv.1 = k))
  | [], ws, h => by rw [rkvG_nil h]; rfl
  | p :: kvs, _, h => by
    obtain ⟨v, rs, rfl, q, t⟩ := rkvG_inv h
    rw [List.any_cons, List.any_cons, rkvG_any t]
theorem rkvG_map {k : κ} {d : D} {v : V} (r : RV K H d v) : ∀ {kvs : List (κ × D)} {ws : List (κ × V)}, RKV K H kvs ws → RKV K H (kvs.map fun kv => if kv.1 = k then (kv.1, d) else kv) (ws.map fun kv => if kv.1 = k then (kv.1, v) else kv)
  | [], ws, h => by rw [rkvG_nil h]; exact ⟨rfl, .nil⟩
  | p :: kvs, _, h => by
    obtain ⟨u, rs, rfl, q, t⟩ := rkvG_inv h
    have ih := rkvG_map (k := k) r t
    rw [List.map_cons, List.map_cons]
    by_cases c : p.1 = k
    · rw [if_pos c, if_pos (show (p.1, u).1 = k from c)]
      exact ⟨by rw [List.map_cons, List.map_cons, ih.1], by rw [List.map_cons, List.map_cons]; exact .cons r ih.2⟩
    · rw [if_neg c, if_neg (show ¬ (p.1, u).1 = k from c)]
      exact ⟨by rw [List.map_cons, List.map_cons, ih.1], by rw [List.map_cons, List.map_cons]; exact .cons q ih.2⟩
theorem rkvG_put {k : κ} {d : D} {v : V} {kvs : List (κ × D)} {ws : List (κ × V)} (h : RKV K H kvs ws) (r : RV K H d v) : RKV K H (dPutG kvs k d) (putK ws k v) := by
  unfold dPutG putK
  rw [rkvG_any h]
  split
  · exact rkvG_map r h
  · exact ⟨by rw [List.map_append, List.map_append, h.1]; rfl, by rw [List.map_append, List.map_append]; exact h.2.append (.cons r .nil)⟩
theorem rkvG_len {kvs : List (κ × D)} {ws : List (κ × V)} (h : RKV K H kvs ws) : kvs.length = ws.length := by
  have := congrArg List.length h.1
  rwa [List.length_map, List.length_map] at this
end
def keyT (k : List Key) : D := .tup (k.map keyD)
section
variable {K : PySem.W.Frag} {H : Hp}
theorem rvs_keys : ∀ {ks : List Key} {vs : List V}, RVs K H (ks.map keyD) vs → vs = ks.map kV
  | [], vs, h => by simpa only [List.map_nil, RVs] using h
  | k :: ks, vs, h => by
    rw [List.map_cons] at h
    obtain ⟨v, r, rfl, q, t⟩ := h.inv
    rw [keyD_rv q, rvs_keys t]; rfl
theorem rv_key {k : Key} : RV K H (keyD k) (kV k) := by
  cases k with
  | inl i => exact rv_int
  | inr x => exact rv_str
theorem rvs_keys' : ∀ {ks : List Key}, RVs K H (ks.map keyD) (ks.map kV)
  | [] => .nil
  | k :: ks => .cons rv_key rvs_keys'
end
/-- the dict at a, locked or not -/
def isT (h : MH) (a : Addr) (kvs : List (List Key × D)) : Prop := h a = some (.dT kvs) ∨ ∃ ws od, h a = some (.fT kvs ws od)
theorem HR.rdT {K : PySem.W.Frag} {h : MH} {H : Hp} (r : HR K h H) {a : Addr} {kvs : List (List Key × D)} (e : isT h a kvs) : ∃ ws, Rd H a (.dT ws) ∧ RKV K H kvs ws := by
  rcases e with e | ⟨ws, od, e⟩
  · obtain ⟨ws, E, q⟩ := r.dT e; exact ⟨ws, .inl E, q⟩
  · obtain ⟨E, q⟩ := r.fT e; exact ⟨ws, .inr ⟨od, E⟩, q⟩
theorem rd_upd {H : Hp} {a p : Addr} {u : HO} {o : HO} (r : Rd H a u) (n : H p = none) : Rd (upd H p o) a u := by
  rcases r with e | ⟨od, e⟩
  · exact .inl (by rw [upd_ne (L2.ne_of_none e n)]; exact e)
  · exact .inr ⟨od, by rw [upd_ne (L2.ne_of_none e n)]; exact e⟩
/-- d[(e1, ..)] -/
def mDGetT (o : MTE) (ts : MTA) : MTE := fun env h Q => o env h fun x h1 => ts env h1 fun ds h2 => ds.length ≤ 16 ∧ ∃ a kvs k d, x = .ref a ∧ isT h2 a kvs ∧ ds = List.map keyD k ∧ dG kvs k = some d ∧ Q d h2
/-- d.get((e1, ..), f) -/
def mDGet2T (o : MTE) (ts : MTA) (f : MTE) : MTE := fun env h Q => o env h fun x h1 => ∃ a, x = .ref a ∧ (∃ kvs, isT h1 a kvs) ∧ ts env h1 fun ds h2 => ds.length ≤ 16 ∧ f env h2 fun z h3 => ∃ kvs k, isT h3 a kvs ∧ ds = List.map keyD k ∧ Q ((dG kvs k).getD z) h3
/-- d[(e1, ..)] = e -/
def mPutDT (e o : MTE) (ts : MTA) : MTS := fun D' env h => e env h fun d h1 => o env h1 fun x h2 => ts env h2 fun ds h3 => ds.length ≤ 16 ∧ ∃ a kvs k, x = .ref a ∧ h3 a = some (.dT kvs) ∧ ds = List.map keyD k ∧ kvs.length < sizeLine ∧ D'.nx env (up h3 a (.dT (dPutG kvs k d)))
/-- {}, {(e1, ..): f} -/
def mDisp0T : MTE := fun _ h Q => ∀ p, h p = none → Q (.ref p) (up h p (.dT []))
def mDisp1T (ts : MTA) (f : MTE) : MTE := fun env h Q => ∀ p, h p = none → ts env (up h p (.dT [])) fun ds h1 => ds.length ≤ 16 ∧ f env h1 fun d h2 => ∃ k, ds = List.map keyD k ∧ h2 p = some (.dT []) ∧ Q (.ref p) (up h2 p (.dT [(k, d)]))
section
variable {X : Cx} {Hb : Hp} {o e f : Expr} {es : List Expr} {mo me mf : MTE} {ms : MTA} {pos pos' p2 apos cpos : Pos} {x1 : Nat}
theorem le16 {n : Nat} (h : n ≤ 16) : n ≤ sizeLine := by rw [sizeLine_eq]; omega
theorem ie_dgetT {y1} (hu : X.A.units + 64 < cLine) (ho : IE X Hb o mo) (hi : IA X Hb es ms) (hs : NoSl (.Tuple es y1 p2)) : IE X Hb (.Subscript o (.Tuple es y1 p2) pos) (mDGetT mo ms) := by
  refine pe_w (pe_dget (by omega) ho (pe_tup hi) hs) fun σ H Q ⟨env, h, Q0, re, rh, m, f⟩ => ?_
  refine ⟨env, h, _, re, rh, m, fun x h1 q1 vx H1 t1 r1 rx => ?_⟩
  refine ⟨env, h1, _, re.mono t1, r1, q1, fun ds h2 q vs H2 t2 r2 rs => ?_⟩
  obtain ⟨l16, a, kvs, k, d, rfl, e, rfl, ed, q⟩ := q
  have ev := rvs_keys rs
  subst ev
  refine ⟨by rw [List.length_map] at *; exact le16 l16, fun p np => ?_⟩
  obtain ⟨ws, E, rk⟩ := r2.rdT e
  rcases rkvG_get (k := k) rk with ⟨c, _⟩ | ⟨d', v, c, ev, rv⟩
  · rw [c] at ed; cases ed
  · rw [c] at ed; cases ed
    have t3 : TL H2 (upd H2 p (.tup (k.map kV))) := .new np
    refine ⟨a, v, (rx.mono t2).ref, .inr ⟨ws, k, p, rd_upd E np, rfl, upd_same, ev.symm⟩, f _ h2 q v _ (t1.trans (t2.trans t3)) (r2.skip np) (rv.mono t3)⟩
theorem ie_dget2T {y1} (hu : X.A.units + 64 < cLine) (ho : IE X Hb o mo) (hi : IA X Hb es ms) (hf : IE X Hb f mf) (m2 : M2 X o "get" apos (.Tuple es y1 p2) f cpos) : IE X Hb (.Call (.Attribute o "get" apos) [.Tuple es y1 p2, f] [] cpos) (mDGet2T mo ms mf) := by
  refine pe_w (pe_dget2 (by omega) ho (pe_tup hi) hf m2) fun σ H Q ⟨env, h, Q0, re, rh, m, f⟩ => ?_
  refine ⟨env, h, _, re, rh, m, fun x h1 q1 vx H1 t1 r1 rx => ?_⟩
  obtain ⟨a, rfl, ⟨kvs0, e0⟩, q1⟩ := q1
  obtain ⟨ws0, E0, _⟩ := r1.rdT e0
  refine ⟨a, rx.ref, .inr ⟨ws0, E0⟩, env, h1, _, re.mono t1, r1, q1, fun ds h2 q vs H2 t2 r2 rs => ?_⟩
  obtain ⟨l16, q⟩ := q
  refine ⟨by rw [← rs.length]; exact le16 l16, fun p np => ?_⟩
  have t3 : TL H2 (upd H2 p (.tup vs)) := .new np
  refine ⟨env, h2, _, (re.mono t1).mono (t2.trans t3), r2.skip np, q, fun z h3 q3 vz H3 t4 r4 rz => ?_⟩
  obtain ⟨kvs, k, e, rfl, q9⟩ := q3
  have ev := rvs_keys rs
  subst ev
  obtain ⟨ws, E, rk⟩ := r4.rdT e
  have eb : H3 p = some (.tup (k.map kV)) := t4.1 _ _ upd_same
  have tt := t1.trans (t2.trans (t3.trans t4))
  rcases rkvG_get (k := k) rk with ⟨c, ev⟩ | ⟨d', v, c, ev, rv⟩
  · refine ⟨none, .inr ⟨ws, k, p, E, rfl, eb, ev.symm⟩, f _ h3 q9 _ H3 tt r4 ?_⟩
    rw [c]; exact rz
  · refine ⟨some v, .inr ⟨ws, k, p, E, rfl, eb, ev.symm⟩, f _ h3 q9 _ H3 tt r4 ?_⟩
    rw [c]; exact rv
theorem is_dputT {y1} (hu : X.A.units + 64 < cLine) (he : IE X Hb e me) (ho : IE X Hb o mo) (hi : IA X Hb es ms) (hs : swapsWith e (some (.Subscript o (.Tuple es y1 p2) pos')) pos.line X.env = pure false := by rfl) : IS X Hb (.Assign [.Subscript o (.Tuple es y1 p2) pos'] e pos) (mPutDT me mo ms) := by
  refine is_of (ps_dput (by omega) ho (pe_tup hi) he hs) fun D' σ H env h D0 re rh m f => ?_
  refine ⟨env, h, _, re, rh, m, fun d h1 q1 v H1 t1 r1 rv => ?_⟩
  refine ⟨env, h1, _, re.mono t1, r1, q1, fun x h2 q2 vx H2 t2 r2 rx => ?_⟩
  refine ⟨env, h2, _, (re.mono t1).mono t2, r2, q2, fun ds h3 q3 vs H3 t3 r3 rs => ?_⟩
  obtain ⟨l16, a, kvs, k, rfl, ea, rfl, lk, q⟩ := q3
  have ev := rvs_keys rs
  subst ev
  refine ⟨by rw [List.length_map] at *; exact le16 l16, fun p np => ?_⟩
  obtain ⟨ws, E, rk⟩ := r3.dT ea
  have t4 : TL H3 (upd H3 p (.tup (k.map kV))) := .new np
  have E4 : (upd H3 p (.tup (k.map kV))) a = some (.dT ws) := by rw [upd_ne (L2.ne_of_none E np)]; exact E
  have rv4 := rv.mono (t2.trans (t3.trans t4))
  have t5 : TL (upd H3 p (.tup (k.map kV))) (upd (upd H3 p (.tup (k.map kV))) a (.dT (putK ws k v))) := .put E4 (fun _ z => by cases z) (fun _ _ z => by cases z)
  have tt := t1.trans (t2.trans (t3.trans (t4.trans t5)))
  exact ⟨a, _, (rx.mono t3).ref, DPut.t E4 upd_same (by rw [← rkvG_len rk]; exact lk), f.nx env _ q σ _ tt (re.mono tt) ((r3.skip np).put t5 ⟨_, rfl, (rkvG_put (rk.mono t4) rv4).mono t5⟩)⟩
theorem ie_disp0T : IE X Hb (.Dict [] [] pos) mDisp0T := by
  refine pe_w pe_dnewT fun σ H Q ⟨env, h, Q0, re, rh, m, f⟩ => fun p np => ?_
  exact f _ _ (m p (rh.free np)) _ _ (.new np) (rh.new np ⟨[], rfl, rfl, .nil⟩) rv_ref
theorem ie_disp1T {y1} (hu : X.A.units + 64 < cLine) (hi : IA X Hb es ms) (hf : IE X Hb f mf) : IE X Hb (.Dict [some (.Tuple es y1 p2)] [f] pos) (mDisp1T ms mf) := by
  refine pe_w (pe_disp1T hu hi hf) fun σ H Q ⟨env, h, Q0, re, rh, m, f⟩ => fun p np => ?_
  have t0 : TL H (upd H p (.dT [])) := .new np
  refine ⟨env, _, _, re.mono t0, rh.new (m := .dT []) np ⟨[], rfl, rfl, .nil⟩, m p (rh.free np), fun ds h1 q vs H1 t1 r1 rs => ?_⟩
  obtain ⟨l16, q⟩ := q
  refine ⟨by rw [← rs.length]; exact le16 l16, fun b nb => ?_⟩
  have t2 : TL H1 (upd H1 b (.tup vs)) := .new nb
  refine ⟨env, h1, _, re.mono (t0.trans (t1.trans t2)), r1.skip nb, q, fun d h2 q2 v H2 t3 r3 rv => ?_⟩
  obtain ⟨k, rfl, ep, q⟩ := q2
  have ev := rvs_keys rs
  subst ev
  obtain ⟨ws, E, rk⟩ := r3.dT ep
  have := rkvG_nil rk
  subst this
  have eb : H2 b = some (.tup (k.map kV)) := t3.1 _ _ upd_same
  have t4 : TL H2 (upd H2 p (.dT [(k, v)])) := .put E (fun _ z => by cases z) (fun _ _ z => by cases z)
  refine ⟨k, b, rfl, E, eb, f _ _ q _ _ (t0.trans (t1.trans (t2.trans (t3.trans t4)))) (r3.put t4 ⟨[(k, v)], rfl, rfl, ?_⟩) rv_ref⟩
  exact .cons (rv.mono t4) .nil
end
/-! ### for .. in d, d locked meanwhile -/
def srcT (d : Addr) (kvs : List (List Key × D)) (ws : List (List Key × V)) (od : Obj) : MSrc := ⟨kvs.length, fun i => match kvs[i]? with
  | some kv => .tw (kv.1.map keyD)
  | none => .non, fun h' => h' d = some (.fT kvs ws od)⟩
def mKeysF (n : Nat) : MTI := fun env h R => ∃ d kvs ws od, env[n]? = some (some (.ref d)) ∧ h d = some (.fT kvs ws od) ∧ R (srcT d kvs ws od) h
def mLockT (n : Nat) (m : MTS) : MTS := fun D' env h => ∃ d kvs, env[n]? = some (some (.ref d)) ∧ h d = some (.dT kvs) ∧ ∀ ws od,
  m ⟨fun env' h' => h' d = some (.fT kvs ws od) ∧ D'.nx env' (up h' d (.dT kvs)), fun v h' => h' d = some (.fT kvs ws od) ∧ D'.rt v (up h' d (.dT kvs)), fun env' h' => h' d = some (.fT kvs ws od) ∧ D'.bk env' (up h' d (.dT kvs)), fun env' h' => h' d = some (.fT kvs ws od) ∧ D'.ct env' (up h' d (.dT kvs))⟩ env (up h d (.fT kvs ws od))
section
variable {X : Cx} {Hb : Hp} {tg e : Expr} {n : Nat} {st : Stmt} {m : MTS}
theorem so_T {K : PySem.W.Frag} {H : Hp} {d : Addr} {kvs : List (List Key × D)} {ws : List (List Key × V)} {od : Obj} (rk : RKV K H kvs ws) : SrcOk K H (srcT d kvs ws od) (Itkt d od ws) where
  go := fun i h H' t r ok hi => ⟨(r.fT ok).1, by rw [← rkvG_len (r.fT ok).2]; exact hi⟩
  stop := fun h H' t r ok => ⟨(r.fT ok).1, by rw [← rkvG_len (r.fT ok).2]; exact Nat.le_refl _⟩
  yld := fun i h H' t r ok hi x H2 y => by
    obtain ⟨rfl, k, v, q, e1, rfl, e2⟩ := y
    refine ⟨.refl _, r, ?_⟩
    have hk : (kvs.map (·.1))[i]? = some k := by rw [rk.1, List.getElem?_map, e1]; rfl
    rw [List.getElem?_map] at hk
    obtain ⟨kv, e3, e4⟩ := Option.map_eq_some_iff.mp hk
    show RV K _ (match kvs[i]? with
      | some kv => .tw (kv.1.map keyD)
      | none => .non) _
    rw [e3]
    show RV K _ (.tw (kv.1.map keyD)) _
    rw [e4]
    exact rv_tw (.of e2) rvs_keys'
theorem ii_keysF (he : IE X Hb e (mVar n)) : II X Hb tg e (mKeysF n) := by
  refine pi_w (pi_keys he) fun σ H R ⟨env, h, Q0, re, rh, ⟨d, kvs, ws, od, en, ed, m⟩, f⟩ => ?_
  refine ⟨env, h, fun x h' => x = .ref d ∧ h' = h, re, rh, ⟨_, en, rfl, rfl⟩, ?_⟩
  rintro _ _ ⟨rfl, rfl⟩ v H1 t1 r1 rx
  obtain ⟨E, rk⟩ := r1.fT ed
  exact ⟨d, od, rx.ref, .inr ⟨ws, E, f _ _ m _ H1 t1 r1 (so_T rk)⟩⟩
theorem is_lockT (hs : IS X Hb st m) : IS X Hb st (mLockT n m) := by
  refine is_of (ps_lock hs) fun D' σ H env h D0 re rh ⟨d, kvs, en, ed, mm⟩ f => ?_
  obtain ⟨ws, E, rk⟩ := rh.dT ed
  refine ⟨d, .dT ws, E, True.intro, fun od => ?_⟩
  have t1 : TL H (upd H d (.frz od (.dT ws))) := .lock E
  refine liftS_iff.mpr ⟨env, _, _, re.mono t1, rh.put (m := .fT kvs ws od) t1 ⟨rfl, rk.mono t1⟩, mm ws od, ?_, ?_, ?_, ?_⟩
  · rintro env' h' ⟨e', q⟩ σ' H' t re' rh'
    obtain ⟨E', rk'⟩ := rh'.fT e'
    have t2 : TL H' (upd H' d (.dT ws)) := .unlock E'
    exact ⟨E', f.nx env' _ q σ' _ (t1.trans (t.trans t2)) (re'.mono t2) (rh'.put t2 ⟨ws, rfl, rk'.mono t2⟩)⟩
  · rintro v h' ⟨e', q⟩ v' H' t rv' rh'
    obtain ⟨E', rk'⟩ := rh'.fT e'
    have t2 : TL H' (upd H' d (.dT ws)) := .unlock E'
    exact ⟨E', f.rt v _ q v' _ (t1.trans (t.trans t2)) (rv'.mono t2) (rh'.put t2 ⟨ws, rfl, rk'.mono t2⟩)⟩
  · rintro env' h' ⟨e', q⟩ σ' H' t re' rh'
    obtain ⟨E', rk'⟩ := rh'.fT e'
    have t2 : TL H' (upd H' d (.dT ws)) := .unlock E'
    exact ⟨E', f.bk env' _ q σ' _ (t1.trans (t.trans t2)) (re'.mono t2) (rh'.put t2 ⟨ws, rfl, rk'.mono t2⟩)⟩
  · rintro env' h' ⟨e', q⟩ σ' H' t re' rh'
    obtain ⟨E', rk'⟩ := rh'.fT e'
    have t2 : TL H' (upd H' d (.dT ws)) := .unlock E'
    exact ⟨E', f.ct env' _ q σ' _ (t1.trans (t.trans t2)) (re'.mono t2) (rh'.put t2 ⟨ws, rfl, rk'.mono t2⟩)⟩
end
section
variable {D' : MEnds} {env : ME} {h : MH} {e o : MTE} {ts : MTA} {n : Nat} {m : MTS}
theorem putDT_ (q : e env h fun d h1 => o env h1 fun x h2 => ts env h2 fun ds h3 => ds.length ≤ 16 ∧ ∃ a kvs k, x = .ref a ∧ h3 a = some (.dT kvs) ∧ ds = List.map keyD k ∧ kvs.length < sizeLine ∧ D'.nx env (up h3 a (.dT (dPutG kvs k d)))) : mPutDT e o ts D' env h := q
theorem lockT_ (q : ∃ d kvs, env[n]? = some (some (.ref d)) ∧ h d = some (.dT kvs) ∧ ∀ ws od,
  m ⟨fun env' h' => h' d = some (.fT kvs ws od) ∧ D'.nx env' (up h' d (.dT kvs)), fun v h' => h' d = some (.fT kvs ws od) ∧ D'.rt v (up h' d (.dT kvs)), fun env' h' => h' d = some (.fT kvs ws od) ∧ D'.bk env' (up h' d (.dT kvs)), fun env' h' => h' d = some (.fT kvs ws od) ∧ D'.ct env' (up h' d (.dT kvs))⟩ env (up h d (.fT kvs ws od))) : mLockT n m D' env h := q
end
end M

namespace M
open PySem PySem.Spec PyProof.Rows L2
/-! ### list(zip(a, b)) of two lists -/
abbrev ZipO (h : Heap) (z TI TO : Addr) (f0 : Value) (f : Bool) : Prop :=
  h.get? z = some { cls := .type "zip", dict := none, data := .fields #[f0, .bool f, .bool false, .ref TI, .ref TO], slots := #[] }
section
variable {prog : Program} {w : World} {A : Around} {E : Value → Shared → Prop} {s : Shared}
theorem wp_setflag {z TI TO : Addr} {f0 : Value} {f : Bool} {Q : Bool → Shared → Prop} (hz : ZipO s.heap z TI TO f0 f) (h : ∀ h₃, ZipO h₃ z TI TO f0 true → Heap.SameBut z s.heap h₃ → Q false { s with heap := h₃ }) :
    wpAny (model prog w) A (if (Value.bool f != Value.bool true) = true then do
      setField (Value.ref z) 1 (Value.bool true)
      pure false
    else pure false) Q E s := by
  cases f with
  | true =>
    rw [if_neg (show ¬ ((Value.bool true != Value.bool true) = true) from Bool.false_ne_true)]
    exact wpAny_pure (h s.heap hz (Heap.SameBut.refl _ _))
  | false =>
    rw [if_pos (show (Value.bool false != Value.bool true) = true from rfl)]
    exact wpAny_bind (wpAny_setField_rec hz (by simp) fun h₃ he₃ hs₃ => wpAny_pure (h h₃ he₃ hs₃))
theorem zip_own_item {z TI TO i1 i2 l1 l2 a : Addr} {f : Bool} {oa : Obj} {k1 k2 : Nat} {xs ys : Array Value} {x y : Value} {Q : Value → Shared → Prop} (D : ZipApart z TI TO i1 i2 l1 l2)
    (hz : ZipO s.heap z TI TO (rawInt a) f) (ha : s.heap.get? a = some oa) (hTI : IsPair s.heap TI (.ref i1) (.ref i2))
    (h1 : s.heap.IsListIter i1 l1 k1) (h2 : s.heap.IsListIter i2 l2 k2) (hl1 : s.heap.IsList l1 xs) (hl2 : s.heap.IsList l2 ys) (hx : xs[k1]? = some x) (hy : ys[k2]? = some y)
    (hQ : ∀ h', ZipO h' z TI TO (rawInt a) true → h'.IsListIter i1 l1 (k1 + 1) → h'.IsListIter i2 l2 (k2 + 1) → IsPair h' s.heap.objs.size x y → h'.objs.size = s.heap.objs.size + 1 →
      (∀ c o, c ≠ z → c ≠ i1 → c ≠ i2 → s.heap.get? c = some o → h'.get? c = some o) → Q (.ref s.heap.objs.size) { s with heap := h' }) :
    wpAny (model prog w) A (Builtin.«zip.__next__» ⟨[.ref z], []⟩) (fun fin s' => ∃ v, fin = .done (.ret v) ∧ Q v s') E s := by
  show wpAny _ _ (field (.ref z) 2 >>= _) _ _ _
  refine wpAny_bind (wpAny_field hz rfl (x := .bool false) rfl ?_)
  show wpAny _ _ (field (.ref z) 3 >>= _) _ _ _
  refine wpAny_bind (wpAny_field hz rfl (x := .ref TI) rfl ?_)
  refine wpAny_bind (wpAny_seqItems hTI rfl ?_)
  show wpAny _ _ (Builtin.SmallTypes.ownedTupleIsFree (.ref z) >>= _) _ _ _
  refine wpAny_bind ?_
  unfold Builtin.SmallTypes.ownedTupleIsFree
  refine wpAny_bind (wpAny_field hz rfl (x := rawInt a) rfl ?_)
  show wpAny _ _ (loadIfAlive ((a : Int).toNat) >>= _) _ _ _
  rw [Int.toNat_natCast]
  refine wpAny_bind (PySem.W.kdx_alive ha ?_)
  simp only [Option.isNone_some, Bool.false_eq_true, if_false]
  refine wpAny_bind (wpAny_field hz rfl (x := .bool f) rfl ?_)
  refine wp_setflag hz fun h₃ hz₃ hs₃ => ?_
  simp only [Bool.false_eq_true, if_false]
  refine wpAny_bind ?_
  first
  | rw [List.forIn_toArray]
  | (rw [← Array.forIn_toList]; simp only [List.toList_toArray])
  | rw [← Array.forIn_toList]
  simp only [List.forIn_cons, List.forIn_nil]
  refine wpAny_bind (wpAny_bind (wpAny_holding ?_))
  show wpAny _ _ (do let x ← Builtin.SmallTypes.nextOf (.ref i1); pure (some x)) _ _ _
  refine wpAny_bind (wpAny_nextOf_list_item (h1.extBut hs₃.extBut D.i1z) (hl1.extBut hs₃.extBut D.l1z) hx fun h₄ h1₄ hs₄ => wpAny_pure ?_)
  dsimp only
  refine wpAny_pure ?_
  dsimp only
  refine wpAny_bind (wpAny_bind (wpAny_holding ?_))
  show wpAny _ _ (do let x ← Builtin.SmallTypes.nextOf (.ref i2); pure (some x)) _ _ _
  refine wpAny_bind (wpAny_nextOf_list_item ((h2.extBut hs₃.extBut D.i2z).extBut hs₄.extBut D.i12.symm) ((hl2.extBut hs₃.extBut D.l2z).extBut hs₄.extBut D.l2i1) hy fun h₅ h2₅ hs₅ => wpAny_pure ?_)
  dsimp only
  refine wpAny_pure ?_
  dsimp only
  refine wpAny_pure ?_
  dsimp only
  refine wpAny_bind (wpAny_newTuple ?_ (by show 2 ≤ sizeLine; decide))
  have hsz : h₅.objs.size = s.heap.objs.size := by rw [hs₅.1, hs₄.1, hs₃.1]
  have kp : ∀ c o, c ≠ z → c ≠ i1 → c ≠ i2 → s.heap.get? c = some o → (h₅.push { cls := .type "tuple", data := .seq #[x, y] }).get? c = some o := fun c o c1 c2 c3 e =>
    Heap.get?_push_of_some _ (hs₅.extBut _ _ c3 (hs₄.extBut _ _ c2 (hs₃.extBut _ _ c1 e)))
  refine wpAny_pure ⟨_, rfl, ?_⟩
  show Q (.ref h₅.objs.size) _
  have hq := hQ (h₅.push { cls := .type "tuple", data := .seq #[x, y] }) (Heap.get?_push_of_some _ (hs₅.extBut _ _ D.i2z.symm (hs₄.extBut _ _ D.i1z.symm hz₃)))
    ((h1₄.extBut hs₅.extBut D.i12).at fun o e => Heap.get?_push_of_some _ e) (h2₅.at fun o e => Heap.get?_push_of_some _ e) (by rw [← hsz]; exact Heap.get?_push_size _ rfl) (by rw [Heap.size_push, hsz]) kp
  rw [hsz]
  exact hq
theorem zip_own_end {z TI TO i1 i2 l1 l2 a : Addr} {f : Bool} {oa : Obj} {k1 k2 : Nat} {xs ys : Array Value} {Q : PySem.Fin → Shared → Prop} (hh : A.handled = none) (D : ZipApart z TI TO i1 i2 l1 l2)
    (hz : ZipO s.heap z TI TO (rawInt a) f) (ha : s.heap.get? a = some oa) (hTI : IsPair s.heap TI (.ref i1) (.ref i2))
    (h1 : s.heap.IsListIter i1 l1 k1) (h2 : s.heap.IsListIter i2 l2 k2) (hl1 : s.heap.IsList l1 xs) (hl2 : s.heap.IsList l2 ys) (hend : xs[k1]? = none ∨ ys[k2]? = none)
    (hE : ∀ h' e, (∀ c o, c ≠ z → c ≠ i1 → c ≠ i2 → s.heap.get? c = some o → h'.get? c = some o) → (∃ o, h'.get? e = some o ∧ o.cls = .type "StopIteration") → E (.ref e) { s with heap := h' }) :
    wpAny (model prog w) A (Builtin.«zip.__next__» ⟨[.ref z], []⟩) Q E s := by
  show wpAny _ _ (field (.ref z) 2 >>= _) _ _ _
  refine wpAny_bind (wpAny_field hz rfl (x := .bool false) rfl ?_)
  show wpAny _ _ (field (.ref z) 3 >>= _) _ _ _
  refine wpAny_bind (wpAny_field hz rfl (x := .ref TI) rfl ?_)
  refine wpAny_bind (wpAny_seqItems hTI rfl ?_)
  show wpAny _ _ (Builtin.SmallTypes.ownedTupleIsFree (.ref z) >>= _) _ _ _
  refine wpAny_bind ?_
  unfold Builtin.SmallTypes.ownedTupleIsFree
  refine wpAny_bind (wpAny_field hz rfl (x := rawInt a) rfl ?_)
  show wpAny _ _ (loadIfAlive ((a : Int).toNat) >>= _) _ _ _
  rw [Int.toNat_natCast]
  refine wpAny_bind (PySem.W.kdx_alive ha ?_)
  simp only [Option.isNone_some, Bool.false_eq_true, if_false]
  refine wpAny_bind (wpAny_field hz rfl (x := .bool f) rfl ?_)
  refine wp_setflag hz fun h₃ hz₃ hs₃ => ?_
  simp only [Bool.false_eq_true, if_false]
  refine wpAny_bind ?_
  first
  | rw [List.forIn_toArray]
  | (rw [← Array.forIn_toList]; simp only [List.toList_toArray])
  | rw [← Array.forIn_toList]
  simp only [List.forIn_cons, List.forIn_nil]
  refine wpAny_bind (wpAny_bind (wpAny_holding ?_))
  show wpAny _ _ (do let x ← Builtin.SmallTypes.nextOf (.ref i1); pure (some x)) _ _ _
  cases hx : xs[k1]? with
  | none =>
    refine wpAny_bind (wpAny_nextOf_list_end hh (h1.extBut hs₃.extBut D.i1z) (hl1.extBut hs₃.extBut D.l1z) hx fun h₄ e hs₄ he => ?_)
    exact hE h₄ e (fun c o c1 c2 _ x => hs₄ _ _ c2 (hs₃.extBut _ _ c1 x)) he
  | some x =>
    have hy : ys[k2]? = none := by rcases hend with h | h; rw [hx] at h; cases h; exact h
    refine wpAny_bind (wpAny_nextOf_list_item (h1.extBut hs₃.extBut D.i1z) (hl1.extBut hs₃.extBut D.l1z) hx fun h₄ h1₄ hs₄ => wpAny_pure ?_)
    dsimp only
    refine wpAny_pure ?_
    dsimp only
    refine wpAny_bind (wpAny_bind (wpAny_holding ?_))
    show wpAny _ _ (do let x ← Builtin.SmallTypes.nextOf (.ref i2); pure (some x)) _ _ _
    refine wpAny_bind (wpAny_nextOf_list_end hh ((h2.extBut hs₃.extBut D.i2z).extBut hs₄.extBut D.i12.symm) ((hl2.extBut hs₃.extBut D.l2z).extBut hs₄.extBut D.l2i1) hy fun h₅ e hs₅ he => ?_)
    exact hE h₅ e (fun c o c1 c2 c3 x => hs₅ _ _ c3 (hs₄.extBut _ _ c2 (hs₃.extBut _ _ c1 x))) he
/-- zip's state as it is gone through: nothing handed out yet, or a pair that still stands -/
def ZipSt (h : Heap) (z TI TO i1 i2 l1 l2 S : Addr) (i : Nat) : Prop :=
  ((i = 0 ∧ IsZip h z TI TO .none ∧ ∃ p q, IsPair h TO p q) ∨ ∃ (a : Addr) (f : Bool) (oa : Obj), ZipO h z TI TO (rawInt a) f ∧ h.get? a = some oa ∧ a ≠ z ∧ a ≠ TO ∧ a ≠ i1 ∧ a ≠ i2 ∧ a ≠ S) ∧
  IsPair h TI (.ref i1) (.ref i2) ∧ h.IsListIter i1 l1 i ∧ h.IsListIter i2 l2 i
theorem zip_item {z TI TO i1 i2 l1 l2 S : Addr} {i : Nat} {xs ys : Array Value} {x y : Value} {Q : Option Value → Shared → Prop} (D : ZipApart z TI TO i1 i2 l1 l2)
    (hst : ZipSt s.heap z TI TO i1 i2 l1 l2 S i) (hS : S < s.heap.objs.size) (hl1 : s.heap.IsList l1 xs) (hl2 : s.heap.IsList l2 ys) (hx : xs[i]? = some x) (hy : ys[i]? = some y)
    (hQ : ∀ h', ZipSt h' z TI TO i1 i2 l1 l2 S (i + 1) → IsPair h' s.heap.objs.size x y → h'.objs.size = s.heap.objs.size + 1 →
      (∀ c o, c ≠ z → c ≠ TO → c ≠ i1 → c ≠ i2 → s.heap.get? c = some o → h'.get? c = some o) → Q (some (.ref s.heap.objs.size)) { s with heap := h' }) :
    wpAny (model prog w) A (pyNext (.ref z)) Q E s := by
  obtain ⟨hd, hTI, h1, h2⟩ := hst
  have l1' : i1 < s.heap.objs.size := by obtain ⟨_, e, _⟩ := h1; exact Heap.lt_size e
  have l2' : i2 < s.heap.objs.size := by obtain ⟨_, e, _⟩ := h2; exact Heap.lt_size e
  rcases hd with ⟨rfl, hz, p, q, hTO⟩ | ⟨a, f, oa, hz, ha, a1, a2, a3, a4, a5⟩
  · refine wpAny_pyNext_zip_item D hz hTI hTO h1 h2 hl1 hl2 hx hy fun h' z' TO' h1' h2' hT hsz hk => hQ h' ⟨.inr ⟨s.heap.objs.size, false, { cls := .type "tuple", data := .seq #[x, y] }, z', hT, ?_, ?_, ?_, ?_, ?_⟩, ?_, h1', h2'⟩ hT hsz hk
    · exact Nat.ne_of_gt (Heap.lt_size hz)
    · exact Nat.ne_of_gt (Heap.lt_size hTO)
    · exact Nat.ne_of_gt l1'
    · exact Nat.ne_of_gt l2'
    · exact Nat.ne_of_gt hS
    · exact hk _ _ D.TIz D.TITO D.TIi1 D.TIi2 hTI
  · have hT : s.TypeIs (.ref z) "zip" := ⟨_, hz, rfl⟩
    unfold pyNext
    refine wpAny_bind (wpAny_attempt (wpAny_callSpecial?_slot (name := Str.ofString "__next__") hT F.slot_zip_next
      (wpAny_call_entry F.slot_zip_next hT F.entry_zip_next
        (zip_own_item D hz ha hTI h1 h2 hl1 hl2 hx hy fun h' z' h1' h2' hT hsz hk => wpAny_pure (hQ h' ⟨.inr ⟨a, true, oa, z', ?_, a1, a2, a3, a4, a5⟩, ?_, h1', h2'⟩ hT hsz fun c o c1 _ c3 c4 e => hk c o c1 c3 c4 e)) (F.args_zip_next_1 _))))
    · exact hk _ _ a1 a3 a4 ha
    · exact hk _ _ D.TIz D.TIi1 D.TIi2 hTI
theorem zip_end {z TI TO i1 i2 l1 l2 S : Addr} {i : Nat} {xs ys : Array Value} {Q : Option Value → Shared → Prop} (hh : A.handled = none) (D : ZipApart z TI TO i1 i2 l1 l2)
    (hst : ZipSt s.heap z TI TO i1 i2 l1 l2 S i) (hl1 : s.heap.IsList l1 xs) (hl2 : s.heap.IsList l2 ys) (hend : xs[i]? = none ∨ ys[i]? = none)
    (hQ : ∀ h', (∀ c o, c ≠ z → c ≠ TO → c ≠ i1 → c ≠ i2 → s.heap.get? c = some o → h'.get? c = some o) → Q none { s with heap := h' }) : wpAny (model prog w) A (pyNext (.ref z)) Q E s := by
  obtain ⟨hd, hTI, h1, h2⟩ := hst
  rcases hd with ⟨rfl, hz, p, q, hTO⟩ | ⟨a, f, oa, hz, ha, a1, a2, a3, a4, a5⟩
  · exact wpAny_pyNext_zip_end hh D hz hTI hTO h1 h2 hl1 hl2 hend hQ
  · have hT : s.TypeIs (.ref z) "zip" := ⟨_, hz, rfl⟩
    unfold pyNext
    refine wpAny_bind (wpAny_attempt (wpAny_callSpecial?_slot (name := Str.ofString "__next__") hT F.slot_zip_next
      (wpAny_call_entry F.slot_zip_next hT F.entry_zip_next (zip_own_end hh D hz ha hTI h1 h2 hl1 hl2 hend fun h' e hk he => ?_) (F.args_zip_next_1 _))))
    obtain ⟨o, ho, hc⟩ := he
    refine wpAny_bind (wpAny_isInstance (T := "StopIteration") (b := true) ⟨o, ho, hc⟩ isSubtype_stop ?_)
    exact wpAny_pure (hQ _ fun c o c1 _ c3 c4 e => hk c o c1 c3 c4 e)
theorem ZipSt.keep {h h' : Heap} {z TI TO i1 i2 l1 l2 S i : Nat} (st : ZipSt h z TI TO i1 i2 l1 l2 S i) (k : ∀ b o, b ≠ S → h.get? b = some o → h'.get? b = some o) (nz : z ≠ S) (nI : TI ≠ S) (nO : TO ≠ S) (n1 : i1 ≠ S) (n2 : i2 ≠ S) : ZipSt h' z TI TO i1 i2 l1 l2 S i := by
  obtain ⟨hd, hTI, h1, h2⟩ := st
  refine ⟨?_, k _ _ nI hTI, h1.at fun o e => k _ o n1 e, h2.at fun o e => k _ o n2 e⟩
  rcases hd with ⟨rfl, hz, p, q, hTO⟩ | ⟨a, f, oa, hz, ha, a1, a2, a3, a4, a5⟩
  · exact .inl ⟨rfl, k _ _ nz hz, p, q, k _ _ nO hTO⟩
  · exact .inr ⟨a, f, oa, k _ _ nz hz, k _ _ a5 ha, a1, a2, a3, a4, a5⟩
end
theorem ngt {a b c : Addr} (h : a < c) (q : c ≤ b) : b ≠ a := fun e => by rw [e] at q; exact absurd (Nat.lt_of_lt_of_le h q) (Nat.lt_irrefl _)
/-- the pairs that were made -/
structure PairsM (xs ys : Array Value) (lo : Addr) (h : Heap) (as : List Addr) : Prop where
  rise : as.Pairwise (· < ·)
  above : ∀ a ∈ as, lo ≤ a
  pairs : ∀ (j : Nat) (a : Addr), as[j]? = some a → ∃ x y, xs[j]? = some x ∧ ys[j]? = some y ∧ IsPair h a x y
theorem PairsM.there {xs ys : Array Value} {lo : Addr} {h : Heap} {as : List Addr} (g : PairsM xs ys lo h as) {a : Addr} (ha : a ∈ as) : a < h.objs.size := by
  obtain ⟨j, hj⟩ := List.mem_iff_getElem?.mp ha
  obtain ⟨_, _, _, _, e⟩ := g.pairs j a hj
  exact Heap.lt_size e
section
variable {prog : Program} {w : World} {A : Around} {s : Shared} {R : Result → Shared → Prop}
theorem zip_loop {S z TI TO i1 i2 l1 l2 lo : Addr} {xs ys : Array Value} {n : Nat} (hh : A.handled = none) (D : ZipApart z TI TO i1 i2 l1 l2) (hn : n = min xs.size ys.size) (hsz : n ≤ sizeLine)
    (nz : z ≠ S) (nI : TI ≠ S) (nO : TO ≠ S) (n1 : i1 ≠ S) (n2 : i2 ≠ S) (m1 : l1 ≠ S) (m2 : l2 ≠ S) (bS : S < lo) (bz : z < lo) (bO : TO < lo) (b1 : i1 < lo) (b2 : i2 < lo) (res : Value) {h₁ : Heap}
    (hR : ∀ h' tk acc c as, (∀ b o, b ≠ S → b ≠ z → b ≠ TO → b ≠ i1 → b ≠ i2 → h₁.get? b = some o → h'.get? b = some o) → h'.get? S = some { cls := .type "list", dict := none, data := .seq acc c, slots := #[] } →
      as.length = n → PairsM xs ys lo h' as → acc.toList = as.map Value.ref → R (.ok (.ret res)) { s with heap := h', toks := tk }) :
    ∀ (k i : Nat) (h : Heap) (tk c : Nat) (acc : Array Value) (as : List Addr), n - i = k → i ≤ n → ZipSt h z TI TO i1 i2 l1 l2 S i → h.IsList l1 xs → h.IsList l2 ys →
      (∀ b o, b ≠ S → b ≠ z → b ≠ TO → b ≠ i1 → b ≠ i2 → h₁.get? b = some o → h.get? b = some o) →
      h.get? S = some { cls := .type "list", dict := none, data := .seq acc c, slots := #[] } → acc.toList = as.map Value.ref → as.length = i → PairsM xs ys lo h as → lo ≤ h.objs.size →
      codeAny (model prog w) A (.builtin "list.extend.loop" ⟨[.ref S, .ref z, res], []⟩) R { s with heap := h, toks := tk } := by
  intro k
  induction k with
  | zero =>
    intro i h tk c acc as hk hi hst hl1 hl2 hkeep hS hacc hal hG hlo
    refine codeAny_builtin PySem.F.entry_extend_loop ?_
    rw [Around.under_plainId PySem.F.plain_extend_loop _]
    show wpAny _ A.in1 (pyNext (.ref z) >>= _) _ _ _
    have hend : xs[i]? = none ∨ ys[i]? = none := by
      rcases Nat.le_total xs.size ys.size with q | q
      · exact .inl (Array.getElem?_eq_none (by omega))
      · exact .inr (Array.getElem?_eq_none (by omega))
    refine wpAny_bind (zip_end (s := { s with heap := h, toks := tk }) (A := A.in1) hh D hst hl1 hl2 hend fun h' he => ?_)
    refine wpAny_pure (hR h' tk acc c as (fun b o h1 h2 h3 h4 h5 e => he b o h2 h3 h4 h5 (hkeep b o h1 h2 h3 h4 h5 e)) (he S _ nz.symm nO.symm n1.symm n2.symm hS) (by omega) ⟨hG.rise, hG.above, fun j a hj => ?_⟩ hacc)
    obtain ⟨x, y, e1, e2, e3⟩ := hG.pairs j a hj
    have hb := hG.above a (List.mem_of_getElem? hj)
    exact ⟨x, y, e1, e2, he a _ (ngt bz hb) (ngt bO hb) (ngt b1 hb) (ngt b2 hb) e3⟩
  | succ k ih =>
    intro i h tk c acc as hk hi hst hl1 hl2 hkeep hS hacc hal hG hlo
    have hx1 : i < xs.size := by omega
    have hx2 : i < ys.size := by omega
    have hsz2 : acc.size = i := by rw [← Array.length_toList, hacc, List.length_map, hal]
    refine codeAny_builtin PySem.F.entry_extend_loop ?_
    rw [Around.under_plainId PySem.F.plain_extend_loop _]
    show wpAny _ A.in1 (pyNext (.ref z) >>= _) _ _ _
    refine wpAny_bind (zip_item (s := { s with heap := h, toks := tk }) (S := S) D hst (Heap.lt_size hS) hl1 hl2 (Array.getElem?_eq_getElem hx1) (Array.getElem?_eq_getElem hx2) fun h' hst' ht hz hkp => ?_)
    dsimp only at ht hz hkp ⊢
    have hS' := hkp S _ nz.symm nO.symm n1.symm n2.symm hS
    have up : ∀ b o, b ≠ S → h'.get? b = some o → (h'.update S (Obj.mapSeq (·.push (Value.ref h.objs.size)))).get? b = some o := fun b o hb e => (Heap.get?_update_other _ _ (Ne.symm hb)).trans e
    have hSl : S < h.objs.size := Heap.lt_size hS
    show wpAny _ A.in1 (updateSeq S (·.push (Value.ref h.objs.size)) >>= _) _ _ _
    refine wpAny_bind ?_
    refine wpAny_updateSeq hS' rfl (wpAny_pure ⟨plainId_quiet PySem.F.plain_extend_loop _, ih (i + 1) _ tk _ (acc.push (Value.ref h.objs.size)) (as ++ [h.objs.size]) (by omega) (by omega) (hst'.keep up nz nI nO n1 n2)
      (hl1.at fun o e => up _ o m1 (hkp _ o D.l1z D.l1TO D.l1i1 D.l1i2 e)) (hl2.at fun o e => up _ o m2 (hkp _ o D.l2z D.l2TO D.l2i1 D.l2i2 e))
      (fun b o h1 h2 h3 h4 h5 e => up b o h1 (hkp b o h2 h3 h4 h5 (hkeep b o h1 h2 h3 h4 h5 e))) (Heap.get?_update_self _ hS' rfl) (by rw [Array.toList_push, hacc, List.map_append]; rfl) (by rw [List.length_append, hal]; rfl) ⟨?_, ?_, ?_⟩ ?_⟩)
      (by rw [hsz2]; omega) (by show (acc.push (Value.ref h.objs.size)).size ≤ sizeLine + 1; rw [Array.size_push, hsz2]; omega)
    · refine List.pairwise_append.mpr ⟨hG.rise, List.pairwise_singleton _ _, fun a ha b hb => ?_⟩
      rw [List.mem_singleton.mp hb]
      exact hG.there ha
    · intro a ha
      rcases List.mem_append.mp ha with ha | ha
      · exact hG.above a ha
      · rw [List.mem_singleton.mp ha]; exact hlo
    · intro j b hj
      rcases Nat.lt_trichotomy j as.length with h1 | h1 | h1
      · rw [List.getElem?_append_left h1] at hj
        obtain ⟨x, y, e1, e2, e3⟩ := hG.pairs j b hj
        have hb := hG.above b (List.mem_of_getElem? hj)
        exact ⟨x, y, e1, e2, up b _ (ngt bS hb) (hkp b _ (ngt bz hb) (ngt bO hb) (ngt b1 hb) (ngt b2 hb) e3)⟩
      · subst h1
        have hb : h.objs.size = b := by simpa using hj
        subst hb
        exact ⟨xs[as.length]'(by omega), ys[as.length]'(by omega), Array.getElem?_eq_getElem _, Array.getElem?_eq_getElem _, up _ _ (Nat.ne_of_gt hSl) (by subst hal; exact ht)⟩
      · have hnone : (as ++ [h.objs.size])[j]? = none := List.getElem?_eq_none (by rw [List.length_append, List.length_singleton]; omega)
        rw [hnone] at hj; cases hj
    · have e : (h'.update S (Obj.mapSeq (·.push (Value.ref h.objs.size)))).get? h.objs.size = _ := up _ _ (Nat.ne_of_gt hSl) ht
      exact Nat.le_of_lt (Nat.lt_of_le_of_lt hlo (Heap.lt_size e))
theorem nolen_zip : typeLookup (.type "zip") "__len__" = pure none := by rw [typeLookup_type, builtinLookup_eq_fast]; kernel_rfl
theorem nohint_zip : typeLookup (.type "zip") "__length_hint__" = pure none := by rw [typeLookup_type, builtinLookup_eq_fast]; kernel_rfl
/-- what stands of zip's things at its beginning -/
structure Zip0 (h : Heap) (z TI TO i1 i2 l1 l2 : Addr) (xs ys : Array Value) : Prop where
  apart : ZipApart z TI TO i1 i2 l1 l2
  zz : IsZip h z TI TO .none
  ti : IsPair h TI (.ref i1) (.ref i2)
  tt : ∃ p q, IsPair h TO p q
  a1 : h.IsListIter i1 l1 0
  a2 : h.IsListIter i2 l2 0
  l1 : h.IsList l1 xs
  l2 : h.IsList l2 ys
theorem Zip0.keep {h h' : Heap} {z TI TO i1 i2 l1 l2 : Addr} {xs ys : Array Value} (g : Zip0 h z TI TO i1 i2 l1 l2 xs ys) (k : ∀ b o, b < h.objs.size → h.get? b = some o → h'.get? b = some o) : Zip0 h' z TI TO i1 i2 l1 l2 xs ys :=
  have k' : ∀ b o, h.get? b = some o → h'.get? b = some o := fun b o e => k b o (Heap.lt_size e) e
  ⟨g.apart, k' _ _ g.zz, k' _ _ g.ti, (let ⟨p, q, e⟩ := g.tt; ⟨p, q, k' _ _ e⟩), g.a1.at fun o e => k' _ o e, g.a2.at fun o e => k' _ o e, g.l1.at fun o e => k' _ o e, g.l2.at fun o e => k' _ o e⟩
theorem call_list_zip {E : Value → Shared → Prop} {z TI TO i1 i2 l1 l2 : Addr} {xs ys : Array Value} {Q : Value → Shared → Prop} (hh : A.handled = none) (g : Zip0 s.heap z TI TO i1 i2 l1 l2 xs ys) (hsz : min xs.size ys.size ≤ sizeLine)
    (hQ : ∀ (h' : Heap) (tk : Nat) (acc : Array Value) (c : Nat) (as : List Addr), (∀ b o, b ≠ z → b ≠ TO → b ≠ i1 → b ≠ i2 → s.heap.get? b = some o → h'.get? b = some o) →
      h'.get? s.heap.objs.size = some { cls := .type "list", dict := none, data := .seq acc c, slots := #[] } → as.length = min xs.size ys.size → PairsM xs ys (s.heap.objs.size + 1) h' as → acc.toList = as.map Value.ref →
      Q (.ref s.heap.objs.size) { s with heap := h', toks := tk }) :
    wpAny (model prog w) A (call (.type "list") [.ref z]) Q E s := by
  have bz : z < s.heap.objs.size := Heap.lt_size g.zz
  have bI : TI < s.heap.objs.size := Heap.lt_size g.ti
  have bO : TO < s.heap.objs.size := let ⟨_, _, e⟩ := g.tt; Heap.lt_size e
  have b1 : i1 < s.heap.objs.size := by obtain ⟨_, e, _⟩ := g.a1; exact Heap.lt_size e
  have b2 : i2 < s.heap.objs.size := by obtain ⟨_, e, _⟩ := g.a2; exact Heap.lt_size e
  have m1 : l1 < s.heap.objs.size := by obtain ⟨_, e, _⟩ := g.l1; exact Heap.lt_size e
  have m2 : l2 < s.heap.objs.size := by obtain ⟨_, e, _⟩ := g.l2; exact Heap.lt_size e
  refine callType_codes (Q₁ := fun obj s₁ => obj = .ref s.heap.objs.size ∧ s₁ = { s with heap := s.heap.push { cls := .type "list", data := .seq #[] } }) F.called_list (F.typeCall_list_1 _) F.entry_list_init
    (code_list_new _ ⟨rfl, rfl⟩) fun obj s₁ h₁ => ?_
  obtain ⟨rfl, rfl⟩ := h₁
  generalize hSe : s.heap.objs.size = S at *
  have hS : (s.heap.push { cls := .type "list", data := .seq #[] }).get? S = some { cls := .type "list", data := .seq #[] } := by rw [← hSe]; exact Heap.get?_push_size _ rfl
  refine ⟨⟨_, hS, rfl⟩, F.args_list_init_2 _ _, ?_⟩
  have g1 : Zip0 (s.heap.push { cls := .type "list", data := .seq #[] }) z TI TO i1 i2 l1 l2 xs ys := g.keep fun b o _ e => Heap.get?_push_of_some _ e
  have k1 : ∀ b o, s.heap.get? b = some o → (s.heap.push { cls := .type "list", data := .seq #[] }).get? b = some o := fun b o e => Heap.get?_push_of_some _ e
  have z1 : (s.heap.push { cls := .type "list", data := .seq #[] }).objs.size = S + 1 := by rw [Heap.size_push, hSe]
  generalize s.heap.push { cls := .type "list", data := .seq #[] } = h1 at hS g1 k1 z1 ⊢
  show wpAny _ A.in1.in1 (do let old ← Builtin.List.listItems (.ref S); Builtin.List.listUpdate (.ref S) (fun _ => #[]); letGo old.toList.reverse; Builtin.List.listExtendWith (.ref S) (.ref z) .none) _ _ _
  refine wpAny_bind ?_
  unfold Builtin.List.listItems
  refine wpAny_bind (wpAny_seqItems hS rfl (wpAny_pure ?_))
  show wpAny _ A.in1.in1 (updateSeq S (fun _ => #[]) >>= fun _ => letGo (#[] : Array Value).toList.reverse >>= fun _ => Builtin.List.listExtendWith (.ref S) (.ref z) .none) _ _ _
  refine wpAny_bind (wpAny_updateSeq hS rfl ?_)
  have hS₂ := Heap.get?_update_self (Obj.mapSeq (fun _ => (#[] : Array Value))) hS rfl
  have oth : ∀ b o, b ≠ S → h1.get? b = some o → (h1.update S (Obj.mapSeq (fun _ => (#[] : Array Value)))).get? b = some o :=
    fun b o hb e => (Heap.get?_update_other _ _ (Ne.symm hb)).trans e
  have z2 : (h1.update S (Obj.mapSeq (fun _ => (#[] : Array Value)))).objs.size = S + 1 := by rw [Heap.size_update, z1]
  have e4 : ∀ {u : Addr} {h₀ h₂ : Heap}, True := fun {_ _ _} => trivial
  have nS : ∀ {u : Addr}, u < S → u ≠ S := fun h => Nat.ne_of_lt h
  have g2 : Zip0 (h1.update S (Obj.mapSeq (fun _ => (#[] : Array Value)))) z TI TO i1 i2 l1 l2 xs ys :=
    ⟨g1.apart, oth _ _ (nS bz) g1.zz, oth _ _ (nS bI) g1.ti, (let ⟨p, q, e⟩ := g1.tt; ⟨p, q, oth _ _ (nS bO) e⟩), g1.a1.at fun o e => oth _ o (nS b1) e, g1.a2.at fun o e => oth _ o (nS b2) e, g1.l1.at fun o e => oth _ o (nS m1) e, g1.l2.at fun o e => oth _ o (nS m2) e⟩
  have k2 : ∀ b o, s.heap.get? b = some o → (h1.update S (Obj.mapSeq (fun _ => (#[] : Array Value)))).get? b = some o := fun b o e => oth b o (by rw [← hSe]; exact Nat.ne_of_lt (Heap.lt_size e)) (k1 b o e)
  generalize h1.update S (Obj.mapSeq (fun _ => (#[] : Array Value))) = h2 at hS₂ g2 k2 z2 ⊢
  clear hS g1 k1 z1 oth
  refine wpAny_bind (wpAny_letGo ?_)
  unfold Builtin.List.listExtendWith
  have hT : Shared.TypeIs { s with heap := h2 } (.ref z) "zip" := ⟨_, g2.zz, rfl⟩
  refine wpAny_bind (wpAny_typeOf hT ?_)
  have h1 : Builtin.List.listSameRef (.ref S) (.ref z) = false := by simp [Builtin.List.listSameRef, (nS bz).symm]
  have h2' : (Value.type "zip" == Value.type "list") = false := by decide
  have h3 : (Value.type "zip" == Value.type "tuple") = false := by decide
  simp only [h1, h2', h3, Bool.or_false, Bool.false_eq_true, if_false]
  refine wpAny_bind (wpAny_pyIter_zip g2.zz ?_)
  refine wpAny_bind (wpAny_holding ?_)
  unfold Builtin.List.listLengthHint
  refine wpAny_bind (wpAny_specialOf hT nolen_zip ?_)
  show wpAny _ A.in1.in1 (specialOf (Value.ref z) (Str.ofString "__length_hint__") >>= _) _ _ _
  refine wpAny_bind (wpAny_specialOf hT nohint_zip ?_)
  refine wpAny_pure ?_
  show wpAny _ A.in1.in1 (rule "list.extend.makes-room" >>= fun _ => Builtin.List.listTouch (.ref S) >>= fun _ =>
    again (.builtin "list.extend.loop" ⟨[.ref S, .ref z, .none], []⟩)) _ _ _
  refine wpAny_bind (wpAny_rule ?_)
  refine wpAny_bind ?_
  show wpAny _ A.in1.in1 (updateSeq S (·.push .none) >>= fun _ => updateSeq S (·.pop)) _ _ _
  refine wpAny_bind (wpAny_updateSeq hS₂ rfl ?_)
  have hS₃ := Heap.get?_update_self (Obj.mapSeq (·.push Value.none)) hS₂ rfl
  refine wpAny_updateSeq hS₃ rfl ?_
  have hS₄ := Heap.get?_update_self (Obj.mapSeq (·.pop)) hS₃ rfl
  have oth : ∀ b o, b ≠ S → h2.get? b = some o → ((h2.update S (Obj.mapSeq (·.push Value.none))).update S (Obj.mapSeq (·.pop))).get? b = some o :=
    fun b o hb e => (Heap.get?_update_other _ _ (Ne.symm hb)).trans ((Heap.get?_update_other _ _ (Ne.symm hb)).trans e)
  have z3 : ((h2.update S (Obj.mapSeq (·.push Value.none))).update S (Obj.mapSeq (·.pop))).objs.size = S + 1 := by rw [Heap.size_update, Heap.size_update, z2]
  generalize (h2.update S (Obj.mapSeq (·.push Value.none))).update S (Obj.mapSeq (·.pop)) = h3' at hS₄ oth z3 ⊢
  have D := g2.apart
  refine wpAny_pure ⟨plainId_quiet F.plain_extend_loop _, zip_loop (A := A.in1) (lo := S + 1) (h₁ := h2) (xs := xs) (ys := ys) (n := min xs.size ys.size) hh D rfl hsz (nS bz) (nS bI) (nS bO) (nS b1) (nS b2) (nS m1) (nS m2) (Nat.lt_succ_self _) (Nat.lt_succ_of_lt bz) (Nat.lt_succ_of_lt bO) (Nat.lt_succ_of_lt b1) (Nat.lt_succ_of_lt b2) .none
    (fun h' tk acc c as hk hS' hl hG hacc => ?_) (min xs.size ys.size) 0 h3' _ _ #[] [] (Nat.sub_zero _) (Nat.zero_le _) ⟨.inl ⟨rfl, oth _ _ (nS bz) g2.zz, (let ⟨p, q, e⟩ := g2.tt; ⟨p, q, oth _ _ (nS bO) e⟩)⟩, oth _ _ (nS bI) g2.ti, g2.a1.at fun o e => oth _ o (nS b1) e, g2.a2.at fun o e => oth _ o (nS b2) e⟩
    (g2.l1.at fun o e => oth _ o (nS m1) e) (g2.l2.at fun o e => oth _ o (nS m2) e) (fun b o hb _ _ _ _ e => oth b o hb e) hS₄ rfl rfl ⟨List.Pairwise.nil, (fun _ ha => nomatch ha), (fun j a hj => by simp at hj)⟩ (by rw [z3]; exact Nat.le_refl _)⟩
  refine ⟨rfl, hQ h' tk acc c as (fun b o c1 c2 c3 c4 e => hk b o ?_ c1 c2 c3 c4 (k2 b o e)) hS' hl hG hacc⟩
  rw [← hSe]; exact Nat.ne_of_lt (Heap.lt_size e)
end
/-! the rule -/
section
variable {X : Cx} {ta : TA} {e e2 : Expr}
/-- tuples already laid are tracked, with their objects -/
theorem takeF {X : Cx} {pins : List (Addr × Obj)} {σ : L2.St} {H0 : Hp} {s : Shared} {h' : Heap} {tk : Nat} {P : Addr → List V → Prop} (I0 : Inv X pins σ H0 s) : ∀ (L : List Addr) (H1 : Hp), Inv X pins σ H1 { s with heap := h', toks := tk } → L.Nodup →
    (∀ a ∈ L, s.heap.objs.size ≤ a ∧ H1 a = none ∧ ∃ vs od, P a vs ∧ od.dict = none ∧ ∀ H2, ObjOk X.prog X.w H2 h' a (.frz od (.tup vs))) →
    ∃ H2, Inv X pins σ H2 { s with heap := h', toks := tk } ∧ (∀ b o, H1 b = some o → H2 b = some o) ∧ ∀ a ∈ L, ∃ vs od, P a vs ∧ od.dict = none ∧ H2 a = some (.frz od (.tup vs))
  | [], H1, I1, _, _ => ⟨H1, I1, fun _ _ e => e, fun _ h => nomatch h⟩
  | a :: L, H1, I1, hn, h => by
    obtain ⟨hb, hnone, vs, od, hP, hd, ok⟩ := h a (List.mem_cons_self ..)
    have I2 : Inv X pins σ (upd H1 a (.frz od (.tup vs))) { s with heap := h', toks := tk } := I1.take (h' := h') (t' := tk) (fun b ob _ e => e) (I0.fpOk hb hnone) (ok _)
    rw [List.nodup_cons] at hn
    obtain ⟨H2, I3, g, q⟩ := takeF I0 L (upd H1 a (.frz od (.tup vs))) I2 hn.2 fun c hc => by
      obtain ⟨c1, c2, c3⟩ := h c (List.mem_cons_of_mem _ hc)
      exact ⟨c1, by rw [upd_ne (fun z => hn.1 (by rw [← z]; exact hc))]; exact c2, c3⟩
    refine ⟨H2, I3, fun b o e => g b o (by rw [upd_ne (L2.ne_of_none e hnone)]; exact e), fun c hc => ?_⟩
    rcases List.mem_cons.mp hc with rfl | hc
    · exact ⟨vs, od, hP, hd, g _ _ upd_same⟩
    · exact q c hc
def tLstZip (K : PySem.W.Frag) (ta : TA) : TE := fun σ H Q => ta σ H fun vs H1 => ∃ (a b : Addr) (xs ys : List V), vs = [.ref a, .ref b] ∧ SqL K H1 a xs ∧ SqL K H1 b ys ∧ ∀ (H' : Hp) (l : Addr) (as : List Addr), (∀ c o, H1 c = some o → H' c = some o) → H1 l = none →
  as.length = min xs.length ys.length → (∀ (j : Nat) (T : Addr), as[j]? = some T → ∃ x y od, xs[j]? = some x ∧ ys[j]? = some y ∧ od.dict = none ∧ H' T = some (.frz od (.tup [x, y]))) → H' l = some (.lst (as.map V.ref)) → Q (.ref l) H'
theorem vals_refs : ∀ as : List Addr, Vals (as.map V.ref) (as.map Value.ref)
  | [] => .nil
  | a :: as => .cons rfl (vals_refs as)
theorem pe_lstZip {p p2 pz pos : Pos} (hc : X.calm = true) (hg : Gl X "list") (hm : X.mg "list" = none) (hg2 : Gl X "zip") (hm2 : X.mg "zip" = none) (ha : PA X [e, e2] ta)
    (hs : starEach [e, e2] X.env = (false, eval e X.env) :: starEach [e2] X.env := by rfl) (hpl : (backTo pz (starEach [e2] X.env)).any (·.1) = false := by rfl)
    (na : starEach [.Call (.Name "zip" p2) [e, e2] [] pz] X.env = (false, eval (.Call (.Name "zip" p2) [e, e2] [] pz) X.env) :: starEach [] X.env := by rfl) :
    PE X (.Call (.Name "list" p) [.Call (.Name "zip" p2) [e, e2] [] pz] [] pos) (tLstZip X.K ta) := by
  refine ⟨fun pins s σ H Q I h => ?_⟩
  have zp : wpAny (model X.prog X.w) X.A (eval (.Call (.Name "zip" p2) [e, e2] [] pz) X.env) (fun v s' => ∃ (z TI TO i1 i2 a b : Addr) (its its2 : List Value) (xs ys : List V) (H1 : Hp), v = .ref z ∧ Zip0 s'.heap z TI TO i1 i2 a b its.toArray its2.toArray ∧
      Vals xs its ∧ Vals ys its2 ∧ Inv X pins σ H1 s' ∧ (∀ c, c ∈ [z, TI, TO, i1, i2] → FpOk X pins H1 c) ∧ xs.length ≤ sizeLine ∧
      ∀ (H' : Hp) (l : Addr) (as : List Addr), (∀ c o, H1 c = some o → H' c = some o) → H1 l = none → as.length = min xs.length ys.length →
        (∀ (j : Nat) (T : Addr), as[j]? = some T → ∃ x y od, xs[j]? = some x ∧ ys[j]? = some y ∧ od.dict = none ∧ H' T = some (.frz od (.tup [x, y]))) → H' l = some (.lst (as.map V.ref)) → Q (.ref l) H') X.xe s := by
    refine Call_ (ld_blt I hg2 hm2 PyProof.Rows.boot_zip (PyProof.Rows.callWith_type1 (thn (ha.run pz pins s σ H _ I h) fun us s1 ⟨vs, H1, I1, r1, q1⟩ => ?_) hs hpl))
    obtain ⟨a, b, xs, ys, ex, hqx, hqy, q⟩ := q1
    subst ex
    cases r1 with
    | cons r rr =>
      cases rr with
      | cons r' rr =>
        cases rr
        cases r
        cases r'
        have fresh5 : ∀ c, c ∈ [s1.heap.objs.size + 4, s1.heap.objs.size + 2, s1.heap.objs.size + 3, s1.heap.objs.size, s1.heap.objs.size + 1] → FpOk X pins H1 c := fun c hcm => by
          have e' : c = s1.heap.objs.size + 4 ∨ c = s1.heap.objs.size + 2 ∨ c = s1.heap.objs.size + 3 ∨ c = s1.heap.objs.size ∨ c = s1.heap.objs.size + 1 := by simpa using hcm
          have hle : s1.heap.objs.size ≤ c := by
            rcases e' with z | z | z | z | z
            · rw [z]; exact Nat.le_add_right _ _
            · rw [z]; exact Nat.le_add_right _ _
            · rw [z]; exact Nat.le_add_right _ _
            · rw [z]; exact Nat.le_refl _
            · rw [z]; exact Nat.le_add_right _ _
          exact I1.fpOk hle (I1.hok.fresh hle)
        obtain ⟨its, rv, p1, hz1⟩ := I1.list hqx
        obtain ⟨its2, rv2, p2, _⟩ := I1.list hqy
        refine call_zip_2 p1.isList p2.isList fun h' hz hTI hTO h1 h2 hsz hk => ?_
        have I2 : Inv X pins σ H1 { s1 with heap := h' } := I1.kept (t' := s1.toks) hk
        exact ⟨s1.heap.objs.size + 4, s1.heap.objs.size + 2, s1.heap.objs.size + 3, s1.heap.objs.size, s1.heap.objs.size + 1, a, b, its, its2, xs, ys, H1, rfl,
          ⟨PySem.W.ktu_apart s1.heap.objs.size a b p1.lt p2.lt, hz, hTI, ⟨_, _, hTO⟩, h1, h2, p1.isList.at fun o e => hk _ o e, p2.isList.at fun o e => hk _ o e⟩, rv, rv2, I2, fresh5, hz1, q⟩
  refine Call_ (ld_blt I hg hm PyProof.Rows.boot_list (PyProof.Rows.callWith_type1 (args_cons (thn zp fun x s1 ⟨z, TI, TO, i1, i2, a, b, its, its2, xs, ys, H1, ex, g, rv, rv2, I1, fr5, hz1, q⟩ => args_nil ?_) na) na))
  subst ex
  have l1 := rv.length
  have l2 := rv2.length
  have hmin : min its.toArray.size its2.toArray.size = min xs.length ys.length := by simp only [List.size_toArray]; omega
  refine call_list_zip (I1.ok.hd hc) g (by rw [hmin]; omega) fun h' tk acc c as hk hS hl hG hacc => ?_
  rw [hmin] at hl
  have I2 : Inv X pins σ H1 { s1 with heap := h', toks := tk } := I1.turnedL (t' := tk) (ch := [z, TI, TO, i1, i2]) (fun b o hb e => hk b o (fun q' => hb (by simp [q'])) (fun q' => hb (by simp [q'])) (fun q' => hb (by simp [q'])) (fun q' => hb (by simp [q'])) e) fr5
  have nS : H1 s1.heap.objs.size = none := I1.hok.fresh (Nat.le_refl _)
  have I3 : Inv X pins σ (upd H1 s1.heap.objs.size (.lst (as.map V.ref))) { s1 with heap := h', toks := tk } :=
    I2.take (h' := h') (t' := tk) (fun b ob _ e => e) (I1.fpOk (Nat.le_refl _) nS) (show ObjOk X.prog X.w _ _ _ (.lst (as.map V.ref)) from ⟨by rw [List.length_map, hl]; omega, as.map Value.ref, c, vals_refs as, by rw [← hacc, Array.toArray_toList]; exact hS⟩)
  obtain ⟨H2, I4, g2, hT⟩ := takeF (P := fun T vs => ∃ j x y, as[j]? = some T ∧ xs[j]? = some x ∧ ys[j]? = some y ∧ vs = [x, y]) I1 as _ I3 (List.Pairwise.imp (fun h => Nat.ne_of_lt h) hG.rise) (fun T hTm => by
    have hb := hG.above T hTm
    have hb' : s1.heap.objs.size ≤ T := Nat.le_of_succ_le hb
    obtain ⟨j, hj⟩ := List.mem_iff_getElem?.mp hTm
    obtain ⟨u, u2, hu, hu2, hp⟩ := hG.pairs j T hj
    rw [List.getElem?_toArray] at hu hu2
    obtain ⟨x, hx, rx⟩ := L2.DX.pget rv hu
    obtain ⟨y, hy, ry⟩ := L2.DX.pget rv2 hu2
    exact ⟨hb', by rw [upd_ne (fun z => absurd hb (by rw [z]; exact Nat.not_succ_le_self _))]; exact I1.hok.fresh hb', [x, y], _, ⟨j, x, y, hj, hx, hy, rfl⟩, rfl, fun H2 => ⟨hp, by show 2 ≤ sizeLine; decide, [u, u2], .cons rx (.cons ry .nil), ⟨_, hp, rfl, _, rfl⟩⟩⟩)
  have nd : as.Nodup := List.Pairwise.imp (fun h => Nat.ne_of_lt h) hG.rise
  refine ⟨.ref s1.heap.objs.size, H2, I4, rfl, q H2 _ as (fun b o e => g2 b o (by rw [upd_ne (L2.ne_of_none e nS)]; exact e)) nS hl (fun j T hj => ?_) (g2 _ _ upd_same)⟩
  obtain ⟨vs, od, ⟨j', x, y, hj', hx, hy, rfl⟩, hod, e⟩ := hT T (List.mem_of_getElem? hj)
  have ej : j' = j := by
    have b1 : j' < as.length := by
      rcases Nat.lt_or_ge j' as.length with q | q
      · exact q
      · rw [List.getElem?_eq_none q] at hj'; cases hj'
    exact (List.getElem?_inj b1 nd).mp (hj'.trans hj.symm)
  subst ej
  exact ⟨x, y, od, hx, hy, hod, e⟩
end
def mLstZip (a b : MTE) : MTE := fun env h Q => a env h fun x h1 => b env h1 fun y h2 => match x, y with
  | .ref a, .ref b => ∃ ds es, h2 a = some (.lst ds) ∧ h2 b = some (.lst es) ∧ ∀ p, h2 p = none → Q (.ref p) (up h2 p (.lst (List.zipWith (fun d e => .tup [d, e]) ds es)))
  | _, _ => False
theorem rvs_zip {K : PySem.W.Frag} {H : Hp} : ∀ {ds es : List D} {xs ys : List V} {as : List Addr}, RVs K H ds xs → RVs K H es ys → as.length = min xs.length ys.length → (∀ (j : Nat) (T : Addr), as[j]? = some T → ∃ x y od, xs[j]? = some x ∧ ys[j]? = some y ∧ od.dict = none ∧ H T = some (.frz od (.tup [x, y]))) →
    RVs K H (List.zipWith (fun d e => .tup [d, e]) ds es) (as.map V.ref)
  | [], es, xs, ys, as, r, _, hl, _ => by
    rw [r.inv0] at hl
    have : as = [] := List.length_eq_zero_iff.mp (by simpa using hl)
    subst this
    exact .nil
  | d :: ds, [], xs, ys, as, _, r, hl, _ => by
    rw [r.inv0] at hl
    have : as = [] := List.length_eq_zero_iff.mp (by simpa using hl)
    subst this
    exact .nil
  | d :: ds, e :: es, xs, ys, as, r, r2, hl, h => by
    obtain ⟨v, vs, rfl, q, t⟩ := r.inv
    obtain ⟨u, us, rfl, q2, t2⟩ := r2.inv
    cases as with
    | nil => simp at hl
    | cons a as =>
      obtain ⟨x, y, od, hx, hy, hod, e1⟩ := h 0 a rfl
      cases hx
      cases hy
      exact .cons (rv_tup (.of e1 hod) (.cons q (.cons q2 .nil))) (rvs_zip t t2 (by simpa using hl) fun j T hj => h (j + 1) T hj)
section
variable {X : Cx} {Hb : Hp} {a b : Expr} {ma mb : MTE} {p p2 pz pos : Pos}
theorem ie_lstZip (hm : X.mg "list" = none) (hm2 : X.mg "zip" = none) (ha : IE X Hb a ma) (hb : IE X Hb b mb) (hc : X.calm = true := by rfl) (hg : Gl X "list" := by rfl) (hg2 : Gl X "zip" := by rfl)
    (hs : starEach [a, b] X.env = (false, eval a X.env) :: starEach [b] X.env := by rfl) (hs2 : starEach [b] X.env = (false, eval b X.env) :: starEach [] X.env := by rfl) (hpl : (backTo pz (starEach [b] X.env)).any (·.1) = false := by rfl)
    (na : starEach [.Call (.Name "zip" p2) [a, b] [] pz] X.env = (false, eval (.Call (.Name "zip" p2) [a, b] [] pz) X.env) :: starEach [] X.env := by rfl) :
    IE X Hb (.Call (.Name "list" p) [.Call (.Name "zip" p2) [a, b] [] pz] [] pos) (mLstZip ma mb) := by
  refine pe_w (pe_lstZip hc hg hm hg2 hm2 (pa_cons ha (pa_cons hb pa_nil hs2) hs) hs hpl na) fun σ H Q ⟨env, h, Q0, re, rh, m, f⟩ => ?_
  refine ⟨env, h, _, re, rh, m, fun x h1 q1 v H1 t1 r1 rx => ?_⟩
  refine ⟨env, h1, _, re.mono t1, r1, q1, fun y h2 q w H2 t2 r2 ry => ?_⟩
  have t12 := t1.trans t2
  have rx2 := rx.mono t2
  cases x <;> cases y <;> first | exact q.elim | skip
  obtain ⟨ds, es, e, e2, q⟩ := q
  rw [rx2.ref, ry.ref]
  obtain ⟨vs, E, rs⟩ := r2.lst e
  obtain ⟨ws, E2, rt⟩ := r2.lst e2
  refine ⟨_, _, vs, ws, rfl, .of E, .of E2, fun H' l as ext nl hl hT hL => ?_⟩
  have t3 : TL H2 H' := ⟨fun c xs h => ext c _ h, fun c o u h _ => ext c _ h⟩
  refine f _ _ (q l (r2.free nl)) _ _ (t12.trans t3) (fun c m em => ?_) rv_ref
  by_cases cl : c = l
  · subst cl
    rw [up_same] at em
    cases em
    exact ⟨_, hL, _, rfl, rvs_zip (rs.mono t3) (rt.mono t3) hl hT⟩
  · rw [up_ne cl] at em
    obtain ⟨u, e1, q1⟩ := r2 c m em
    exact ⟨u, ext _ _ e1, q1.mono t3⟩
end
end M

namespace M
open PySem L2
section
variable {env : ME} {e : MTE} {t : Tg}
/-- a comprehension over things, that changes nothing -/
theorem lcD (xs : List D) (g : D → Option D) {okk : MH → Prop} {h1 : MH} {Q : MQ} {tt : MTT} {vs : List Nat} (ok : ∀ h', Fr [] h1 h' → okk h') (hz : xs.length ≤ 100000)
    (turn : ∀ x h', x ∈ xs → Fr [] h1 h' → ∃ env2, asg t x (mwipe env vs) = some env2 ∧ ∀ R : Option D → MH → Prop,
      (∀ h3, Fr [] h' h3 → R (g x) h3) → tt env2 h' fun b h3 => if b = true then e env2 h3 fun y h4 => R (some y) h4 else R none h3)
    (fin : ∀ p h', Fr [] h1 h' → h1 p = none → h' p = some (.lst (xs.filterMap g)) → Q (.ref p) h') : LcW (srcD xs okk) t tt e vs env h1 Q := by
  have := lcL (env := env) (e := e) (t := t) xs id g (okk := okk) (h1 := h1) (Q := Q) (tt := tt) (vs := vs) ok hz turn fin
  rw [List.map_id] at this
  exact this
theorem getD_map' {α : Type} {f : α → D} {xs : List α} {k : Nat} (h : k < xs.length) : (xs.map f).getD k .non = f xs[k] := getD_map h
/-- a comprehension over a zip -/
theorem lcZ {α β : Type} (xs : List α) (ys : List β) (f : α → D) (g : β → D) (r : α × β → Option D) {okk : MH → Prop} {h1 : MH} {Q : MQ} {tt : MTT} {vs : List Nat} (ok : ∀ h', Fr [] h1 h' → okk h') (hz : (xs.zip ys).length ≤ 100000)
    (turn : ∀ x h', x ∈ xs.zip ys → Fr [] h1 h' → ∃ env2, asg t (.tw [f x.1, g x.2]) (mwipe env vs) = some env2 ∧ ∀ R : Option D → MH → Prop,
      (∀ h3, Fr [] h' h3 → R (r x) h3) → tt env2 h' fun b h3 => if b = true then e env2 h3 fun y h4 => R (some y) h4 else R none h3)
    (fin : ∀ p h', Fr [] h1 h' → h1 p = none → h' p = some (.lst ((xs.zip ys).filterMap r)) → Q (.ref p) h') : LcW (srcZ (xs.map f) (ys.map g) okk) t tt e vs env h1 Q := by
  have hn : (srcZ (xs.map f) (ys.map g) okk).n = (xs.zip ys).length := by rw [srcZ_n, List.length_map, List.length_map, List.length_zip]
  refine lcP (fun k => ((xs.zip ys)[k]?).bind r) ok (by rw [hn]; exact hz) (fun k h' hk fr => ?_) (fun p h' fr np ep => fin p h' fr np ?_)
  · rw [hn] at hk
    have hk' := hk
    rw [List.length_zip] at hk'
    have e1 : (srcZ (xs.map f) (ys.map g) okk).item k = .tw [f (xs.zip ys)[k].1, g (xs.zip ys)[k].2] := by
      rw [srcZ_item, getD_map (by omega), getD_map (by omega), List.getElem_zip]
    rw [e1, List.getElem?_eq_getElem hk]
    exact turn (xs.zip ys)[k] h' (List.getElem_mem hk) fr
  · rw [hn, range_fm] at ep
    exact ep
end
theorem q_strI {h : MH} {Q : MQ} {i : Int} : rStrI [.int i] h Q = (i.natAbs.log2 < 1920 ∧ Q (.str (toString i)) h) := rfl
theorem fr_free {h h' : MH} {a p : Addr} (f : Fr [a] h h') (n : h' p = none) (ne : p ≠ a) : h p = none := by
  cases e : h p with
  | none => rfl
  | some o =>
    have := f p o (by simpa using ne) e
    rw [n] at this; cases this
theorem new_facts {h h' : MH} {p : Addr} {o : MO} (e : up h p o = h') (n : h p = none) : h' p = some o ∧ Fr [] h h' := by
  subst e; exact ⟨up_same, .new n⟩
theorem atI_last {xs : List D} {x : D} : atI (xs ++ [x]) (-1) = some x := by
  unfold atI ixN
  rw [List.length_append, List.length_singleton, if_neg (by omega), if_pos (by omega)]
  show (xs ++ [x])[((-1 : Int) + ((xs.length + 1 : Nat) : Int)).toNat]? = _
  rw [show ((-1 : Int) + ((xs.length + 1 : Nat) : Int)).toNat = xs.length by omega, List.getElem?_append_right (Nat.le_refl _), Nat.sub_self]; rfl
section
variable {h : MH} {Q : MQ} {p : Addr}
theorem all_fin {α : Type} {xs : List α} {g : α → Bool} (e : h p = some (.lst (xs.filterMap fun x => some (.bl (g x))))) (q : Q (.bl (xs.all g)) h) : rAll [.ref p] h Q := by
  rw [fm_some] at e
  refine ⟨xs.map g, by rw [List.map_map]; exact e, ?_⟩
  rw [List.all_map]
  exact q
theorem any_fin {α : Type} {xs : List α} {g : α → Bool} (e : h p = some (.lst (xs.filterMap fun x => some (.bl (g x))))) (q : Q (.bl (xs.any g)) h) : rAny [.ref p] h Q := by
  rw [fm_some] at e
  refine ⟨xs.map g, by rw [List.map_map]; exact e, ?_⟩
  rw [List.any_map]
  exact q
theorem sum_fin {α : Type} {xs : List α} {g : α → Int} (e : h p = some (.lst (xs.filterMap fun x => some (.int (g x))))) (q : Q (.int (xs.map g).sum) h) : rSum [.ref p] h Q := by
  rw [fm_some] at e
  exact ⟨xs.map g, by rw [List.map_map]; exact e, q⟩
theorem tup_fin {α : Type} {xs : List α} {g : α → D} (e : h p = some (.lst (xs.filterMap fun x => some (g x)))) (q : Q (.tup (xs.map g)) h) : rTuple [.ref p] h Q := by
  rw [fm_some] at e
  exact ⟨_, e, q⟩
end
end M

namespace M
open PySem PySem.Spec PyProof PyProof.Rows L2
/-! ### dicts with nested keys -/
abbrev vw (xs : List (NestedKey × Addr × V)) : List (NestedKey × V) := xs.map fun x => (x.1, x.2.2)
theorem np_val {xs : List (NestedKey × Addr × V)} {ys : List (NestedKey × Addr × Value)} (r : Paired NPair xs ys) (k : NestedKey) : RelO (valV (vw xs) k) ((atKey ys k).map (·.2)) := by
  induction r with
  | nil => exact True.intro
  | @cons p q ps qs h t ih =>
    obtain ⟨h1, _, h2⟩ := h
    rw [vw, List.map_cons]
    by_cases e : p.1 = k
    · have e' : q.1 = k := h1.symm.trans e
      have b : atKey (q :: qs) k = some q.2 := by simp [atKey, List.find?_cons, e']
      rw [valV_pos (p := (p.1, p.2.2)) e, b]; exact h2
    · have e' : ¬ q.1 = k := fun z => e (h1.trans z)
      have b : atKey (q :: qs) k = atKey qs k := by simp [atKey, List.find?_cons, e']
      rw [valV_neg (p := (p.1, p.2.2)) e, b]; exact ih
theorem np_mem {xs : List (NestedKey × Addr × V)} {ys : List (NestedKey × Addr × Value)} (pr : Paired NPair xs ys) {y : NestedKey × Addr × Value} (hy : y ∈ ys) : ∃ x ∈ xs, NPair x y := by
  induction pr with
  | nil => cases hy
  | @cons p q ps qs h t ih =>
    rcases List.mem_cons.mp hy with e | e
    · exact ⟨p, List.mem_cons_self .., e ▸ h⟩
    · obtain ⟨x, hx, hh⟩ := ih e
      exact ⟨x, List.mem_cons_of_mem _ hx, hh⟩
def repN (xs : List (NestedKey × Addr × V)) (k : NestedKey) (v : V) : List (NestedKey × Addr × V) := xs.map fun x => if x.1 = k then (x.1, x.2.1, v) else x
def putN (xs : List (NestedKey × Addr × V)) (k : NestedKey) (b : Addr) (v : V) : List (NestedKey × Addr × V) :=
  if (vw xs).any (fun x => decide (x.1 = k)) then repN xs k v else xs ++ [(k, b, v)]
theorem np_repl {xs : List (NestedKey × Addr × V)} {ys : List (NestedKey × Addr × Value)} (r : Paired NPair xs ys) (k : NestedKey) {y : V} {u : Value} (ry : RelV y u) : Paired NPair (repN xs k y) (ys.map (putAt k u)) := by
  unfold repN
  induction r with
  | nil => exact .nil
  | @cons p q ps qs h t ih =>
    rw [List.map_cons, List.map_cons]
    refine .cons ?_ ih
    obtain ⟨h1, h2, h3⟩ := h
    unfold putAt
    by_cases e : p.1 = k
    · rw [if_pos e, if_pos (h1.symm.trans e)]; exact ⟨h1, h2, ry⟩
    · rw [if_neg e, if_neg (fun z => e (h1.trans z))]; exact ⟨h1, h2, h3⟩
theorem np_put {xs : List (NestedKey × Addr × V)} {ys : List (NestedKey × Addr × Value)} (r : Paired NPair xs ys) (k : NestedKey) (b : Addr) {y : V} {u : Value} (ry : RelV y u) : Paired NPair (putN xs k b y) (storedH ys k b u) := by
  have e : ((vw xs).any fun x => decide (x.1 = k)) = (atKey ys k).isSome := by
    rw [valV_any, (np_val r k).isSome_eq, Option.isSome_map]
  unfold putN storedH
  rw [e]
  by_cases q : (atKey ys k).isSome = true
  · rw [if_pos q, if_pos q]; exact np_repl r k ry
  · rw [if_neg q, if_neg q]; exact Paired.snoc r ⟨rfl, rfl, ry⟩
theorem putN_len {xs : List (NestedKey × Addr × V)} {k : NestedKey} {b : Addr} {v : V} : (putN xs k b v).length ≤ xs.length + 1 := by
  unfold putN repN
  split
  · rw [List.length_map]; omega
  · rw [List.length_append]; exact Nat.le_refl _
theorem mem_putN {xs : List (NestedKey × Addr × V)} {k : NestedKey} {b : Addr} {v : V} {x : NestedKey × Addr × V} (h : x ∈ putN xs k b v) : (∃ y ∈ xs, y.1 = x.1 ∧ y.2.1 = x.2.1) ∨ (x.1 = k ∧ x.2.1 = b) := by
  unfold putN repN at h
  split at h
  · obtain ⟨y, hy, rfl⟩ := List.mem_map.mp h
    exact .inl ⟨y, hy, by split <;> exact ⟨rfl, rfl⟩⟩
  · rcases List.mem_append.mp h with h | h
    · exact .inl ⟨x, h, rfl, rfl⟩
    · rw [List.mem_singleton.mp h]; exact .inr ⟨rfl, rfl⟩
theorem vw_put {xs : List (NestedKey × Addr × V)} {k : NestedKey} {b : Addr} {v : V} : vw (putN xs k b v) = putK (vw xs) k v := by
  unfold putN putK
  split
  · unfold repN vw
    rw [List.map_map, List.map_map]
    refine List.map_congr_left fun x _ => ?_
    show (_, _) = if x.1 = k then _ else _
    by_cases e : x.1 = k <;> simp [e]
  · rw [vw, List.map_append]; rfl
section
variable {X : Cx} {pins : List (Addr × Obj)} {σ : L2.St} {H : Hp} {s : Shared} {a : Addr}
mutual
theorem nested_is (I : Inv X pins σ H s) : ∀ {k : NestedKey} {v : V} {u : Value}, RV X.K H (kD k) v → RelV v u → NestedIs s.heap k u
  | .none, v, u, h, r => by
    rw [kD] at h
    rw [h.non] at r
    obtain rfl : u = Value.none := r
    exact .none
  | .num i, v, u, h, r => by
    rw [kD] at h
    rw [h.int] at r
    obtain ⟨t, rfl⟩ := r
    exact .int i t
  | .text x, v, u, h, r => by
    rw [kD] at h
    rw [h.str] at r
    obtain ⟨t, rfl⟩ := r
    exact .text x t
  | .tup ks, v, u, h, r => by
    rw [kD] at h
    obtain ⟨b, vs, rfl, ta, rs⟩ := h.tup
    obtain rfl : u = Value.ref b := r
    obtain ⟨its, rv, ⟨o, ho, hc, n, hd⟩, _⟩ := I.tuple ta
    exact .tup ho hc hd (by simpa using nested_all I rs rv)
theorem nested_all (I : Inv X pins σ H s) : ∀ {ks : List NestedKey} {vs : List V} {us : List Value}, RVs X.K H (kDs ks) vs → Vals vs us → NestedAll s.heap ks us
  | [], vs, us, h, r => by
    rw [kDs] at h
    rw [h.inv0] at r
    cases r
    exact .nil
  | k :: ks, vs, us, h, r => by
    rw [kDs] at h
    obtain ⟨v, ws, rfl, q, t⟩ := h.inv
    cases r with
    | cons r1 r2 => exact .cons (nested_is I q r1) (nested_all I t r2)
end
def RdN (H : Hp) (a : Addr) (xs : List (NestedKey × Addr × V)) : Prop := H a = some (nob a xs) ∨ ∃ od, H a = some (.frz od (nob a xs))
theorem nob_desc (I : Inv X pins σ H s) {xs : List (NestedKey × Addr × V)} (e : RdN H a xs) : NDesc a xs s.heap := by
  rcases e with e | ⟨od, e⟩
  · have := I.hok a _ e
    exact this.1
  · have := I.hok a _ e
    exact this.2.1
theorem nob_keyed (I : Inv X pins σ H s) {xs : List (NestedKey × Addr × V)} (e : RdN H a xs) (hk : ∀ x ∈ xs, RV X.K H (kD x.1) (.ref x.2.1)) :
    ∃ ys, Paired NPair xs ys ∧ s.heap.DictOfH (nestedKind X.prog X.w) a ys ∧ xs.length ≤ sizeLine ∧ (a == sysModules) = false ∧ ∀ x ∈ xs, plainK x.1 = true ∧ x.1.depth ≤ 8 := by
  obtain ⟨z, hs, pk, ys, pr, o, es, ep, ho, hc, hd, he, hn⟩ := nob_desc I e
  refine ⟨ys, pr, ⟨o, es, ep, ho, hc, hd, he _ _, fun y hy => ?_, hn⟩, z, hs, pk⟩
  have : ∃ x ∈ xs, NPair x y := np_mem pr hy
  obtain ⟨x, hx, e1, e2, _⟩ := this
  refine ⟨?_, by rw [← e1]; exact (pk x hx).2⟩
  rw [← e1, ← e2]
  exact nested_is I (hk x hx) rfl
theorem roomN {A : Around} (hu : A.units + 64 < cLine) : (nestedKind X.prog X.w).room A.in1 := by
  show A.units + 1 + 8 < cLine
  omega
/-- d[k], there -/
theorem n_getItem {A : Around} {E : Value → Shared → Prop} {xs : List (NestedKey × Addr × V)} {k : NestedKey} {b : Addr} {v : V} {Q : Value → Shared → Prop} (hu : A.units + 64 < cLine) (I : Inv X pins σ H s) (e : RdN H a xs) (hk : ∀ x ∈ xs, RV X.K H (kD x.1) (.ref x.2.1))
    (rk : RV X.K H (kD k) (.ref b)) (dk : k.depth ≤ 8) (l : valV (vw xs) k = some v) (h : ∀ w' s', Inv X pins σ H s' → RelV v w' → Q w' s') : wpAny (model X.prog X.w) A (getItem (.ref a) (.ref b)) Q E s := by
  obtain ⟨ys, pr, dd, z, hs, pk⟩ := nob_keyed I e hk
  obtain ⟨w', hw, rw'⟩ := RelO.some_of (v := v) (o := (atKey ys k).map (·.2)) (by rw [← l]; exact np_val pr k)
  obtain ⟨p, hp, hp2⟩ := Option.map_eq_some_iff.mp hw
  refine wpAny_getItem_heap (knd := nestedKind X.prog X.w) (roomN hu) ⟨nested_is I rk rfl, dk⟩ dd hp ?_
  rw [hp2]
  exact h w' _ (I.tok _) rw'
/-- d.get(k, x) -/
theorem n_get2 {A : Around} {E : Value → Shared → Prop} {xs : List (NestedKey × Addr × V)} {k : NestedKey} {b : Addr} {d : V} {r : Value} {Q : Value → Shared → Prop} (hu : A.units + 64 < cLine) (I : Inv X pins σ H s) (e : RdN H a xs) (hk : ∀ x ∈ xs, RV X.K H (kD x.1) (.ref x.2.1))
    (rk : RV X.K H (kD k) (.ref b)) (dk : k.depth ≤ 8) (rd : RelV d r) (h : ∀ w' s', Inv X pins σ H s' → RelV ((valV (vw xs) k).getD d) w' → Q w' s') : wpAny (model X.prog X.w) A (call (.builtin "dict.get") [.ref a, .ref b, r]) Q E s := by
  obtain ⟨ys, pr, dd, z, hs, pk⟩ := nob_keyed I e hk
  exact call_meetsIn PySem.F.slot_dict_get dd.typeIs PySem.F.entry_dict_get (PySem.F.args_dict_get_3 _ _ _) (meetsH_dict_get_default (nestedKind X.prog X.w) a b hs r) ⟨roomN hu, k, ys, ⟨nested_is I rk rfl, dk⟩, dd, h _ _ (I.tok _) ((np_val pr k).getD rd)⟩
theorem hashN {P P' : Program} {w w' : World} {ys : List (NestedKey × Addr × Value)} (h : ∀ y ∈ ys, plainK y.1 = true) : ys.map (entryOfKey (nestedKind P w)) = ys.map (entryOfKey (nestedKind P' w')) := by
  refine List.map_congr_left fun y hy => ?_
  show (⟨y.1.hash w, .ref y.2.1, y.2.2⟩ : DictEntry) = ⟨y.1.hash w', .ref y.2.1, y.2.2⟩
  rw [hash_plain w w' y.1 (h y hy)]
theorem desc_of {h' : Heap} {xs : List (NestedKey × Addr × V)} {ys : List (NestedKey × Addr × Value)} {P : Program} {w : World} (z : xs.length ≤ sizeLine) (hs : (a == sysModules) = false) (pk : ∀ x ∈ xs, plainK x.1 = true ∧ x.1.depth ≤ 8) (pr : Paired NPair xs ys)
    (dd : h'.DictOfH (nestedKind P w) a ys) : NDesc a xs h' := by
  obtain ⟨o, es, ep, ho, hc, hd, he, _, hn⟩ := dd
  refine ⟨z, hs, pk, ys, pr, o, es, ep, ho, hc, hd, fun P' w' => ?_, hn⟩
  rw [he]
  refine hashN fun y hy => ?_
  have : ∃ x ∈ xs, NPair x y := np_mem pr hy
  obtain ⟨x, hx, e1, _⟩ := this
  rw [← e1]
  exact (pk x hx).1
theorem nob_ok {h' : Heap} {P : Program} {w : World} {H' : Hp} {xs : List (NestedKey × Addr × V)} (d : NDesc a xs h') : ObjOk P w H' h' a (nob a xs) := by
  refine ⟨d, ?_, fun h1 h2 q k => ?_⟩
  · obtain ⟨_, _, _, _, _, o, _, _, ho, _⟩ := d
    exact ⟨o, ho⟩
  · obtain ⟨z, hs, pk, ys, pr, o, es, ep, ho, r⟩ := q
    exact ⟨z, hs, pk, ys, pr, o, es, ep, k o ho, r⟩
/-- d[k] = v -/
theorem n_setItem {A : Around} {E : Value → Shared → Prop} {xs : List (NestedKey × Addr × V)} {k : NestedKey} {b : Addr} {v : V} {r : Value} {Q : Unit → Shared → Prop} (hu : A.units + 64 < cLine) (I : Inv X pins σ H s) (e : H a = some (nob a xs)) (hk : ∀ x ∈ xs, RV X.K H (kD x.1) (.ref x.2.1))
    (rk : RV X.K H (kD k) (.ref b)) (pk : plainK k = true) (dk : k.depth ≤ 8) (rv : RelV v r) (z : xs.length < sizeLine) (h : ∀ s', Inv X pins σ (upd H a (nob a (putN xs k b v))) s' → Q () s') : wpAny (model X.prog X.w) A (setItem (.ref a) (.ref b) r) Q E s := by
  obtain ⟨ys, pr, dd, z', hs, pks⟩ := nob_keyed I (.inl e) hk
  have hl : ys.length = xs.length := (Paired.length pr).symm
  refine wpAny_setItem_heap (knd := nestedKind X.prog X.w) (hsz := by rw [hl]; exact z') (roomN hu) ⟨nested_is I rk rfl, dk⟩ dd fun h' dd' hs' => h _ ?_
  obtain ⟨q, _, _, hq, _⟩ := id dd'
  refine d_write I (by rw [e]; exact True.intro) hs' ⟨q, hq⟩ (nob_ok (desc_of (Nat.le_trans putN_len z) hs (fun x hx => ?_) (np_put pr k b rv) dd'))
  rcases mem_putN hx with ⟨y, hy, e1, _⟩ | ⟨e1, _⟩
  · rw [← e1]; exact pks y hy
  · rw [e1]; exact ⟨pk, dk⟩
end
def tGetN (K : PySem.W.Frag) (td ty : TE) : TE := fun σ H Q => td σ H fun x H1 => ty σ H1 fun y H2 => ∃ a b xs k v, x = .ref a ∧ y = .ref b ∧ RdN H2 a xs ∧ (∀ x ∈ xs, RV K H2 (kD x.1) (.ref x.2.1)) ∧ RV K H2 (kD k) (.ref b) ∧ k.depth ≤ 8 ∧ valV (vw xs) k = some v ∧ Q v H2
def tGet2N (K : PySem.W.Frag) (td ty tx : TE) : TE := fun σ H Q => td σ H fun x H1 => ∃ a, x = .ref a ∧ (∃ xs, RdN H1 a xs) ∧ ty σ H1 fun y H2 => tx σ H2 fun z H3 => ∃ b xs k, y = .ref b ∧ RdN H3 a xs ∧ (∀ x ∈ xs, RV K H3 (kD x.1) (.ref x.2.1)) ∧ RV K H3 (kD k) (.ref b) ∧ k.depth ≤ 8 ∧ Q ((valV (vw xs) k).getD z) H3
def sPutN (K : PySem.W.Frag) (td ty tv : TE) : TS := fun D σ H => tv σ H fun v H1 => td σ H1 fun x H2 => ty σ H2 fun y H3 => ∃ a b xs k, x = .ref a ∧ y = .ref b ∧ H3 a = some (nob a xs) ∧ (∀ x ∈ xs, RV K H3 (kD x.1) (.ref x.2.1)) ∧ RV K H3 (kD k) (.ref b) ∧ plainK k = true ∧ k.depth ≤ 8 ∧ xs.length < sizeLine ∧ D.nx σ (upd H3 a (nob a (putN xs k b v)))
section
variable {X : Cx} {o i e f value : Expr} {pos pos' apos cpos : Pos} {td ty tv tx : TE}
theorem nob_type {pins : List (Addr × Obj)} {σ : L2.St} {H : Hp} {s : Shared} {a : Addr} {xs : List (NestedKey × Addr × V)} (I : Inv X pins σ H s) (e : RdN H a xs) : s.TypeIs (.ref a) "dict" ∧ ∀ b, Value.ref a = .ref b → ∃ ob, s.heap.get? b = some ob ∧ ob.dict = none := by
  obtain ⟨_, _, _, _, _, o, es, ep, ho, hc, hd, _⟩ := nob_desc I e
  refine ⟨⟨o, ho, hc.1⟩, fun b q => ?_⟩
  cases q
  exact ⟨o, ho, hc.2.1⟩
theorem pe_getN (hu : X.A.units + 64 < cLine) (ho : PE X o td) (hi : PE X i ty) (hs : NoSl i) : PE X (.Subscript o i pos) (tGetN X.K td ty) := by
  refine ⟨fun pins s σ H Q I h => ?_⟩
  refine subD_of PySem.F.slot_dict_getitem.lookup hs (thn (ho.run pins s σ H _ I h) fun u s1 ⟨x, H1, I1, rx, q1⟩ => thn (hi.run pins s1 σ H1 _ I1 q1) fun iv s2 ⟨y, H2, I2, ry, a, b, xs, k, v, ex, ey, g, hk, rk, dk, l, q2⟩ => ?_)
  subst ex ey
  obtain rfl : u = Value.ref a := rx
  obtain rfl : iv = Value.ref b := ry
  exact ⟨(nob_type I2 g).1, n_getItem hu I2 g hk rk dk l fun w' s3 I3 rw' => ⟨v, H2, I3, rw', q2⟩⟩
theorem ps_putN (hu : X.A.units + 64 < cLine) (ho : PE X o td) (hi : PE X i ty) (hv : PE X value tv) (hs : swapsWith value (some (.Subscript o i pos')) pos.line X.env = pure false) :
    PS X (.Assign [.Subscript o i pos'] value pos) (sPutN X.K td ty tv) := by
  refine ⟨fun pins s σ H D I h => ?_⟩
  refine wpAny_Assign_Subscript (thn (hv.run pins s σ H _ I h) fun r s1 ⟨v, H1, I1, rv, q1⟩ => thn (ho.run pins s1 σ H1 _ I1 q1) fun u s2 ⟨x, H2, I2, rx, q2⟩ => thn (hi.run pins s2 σ H2 _ I2 q2) fun iv s3 ⟨y, H3, I3, ry, a, b, xs, k, ex, ey, g, hk, rk, pk, dk, z, q3⟩ => ?_) hs
  subst ex ey
  obtain rfl : u = Value.ref a := rx
  obtain rfl : iv = Value.ref b := ry
  exact n_setItem hu I3 g hk rk pk dk rv z fun s4 I4 => ⟨σ, _, I4, q3⟩
theorem pe_get2N (hu : X.A.units + 64 < cLine) (ho : PE X o td) (he : PE X e ty) (hf : PE X f tx) (m : M2 X o "get" apos e f cpos) : PE X (.Call (.Attribute o "get" apos) [e, f] [] cpos) (tGet2N X.K td ty tx) := by
  refine ⟨fun pins s σ H Q I h => ?_⟩
  refine wpAny_Call_method m.base m.few m.line PySem.F.plainAttrs_dict PySem.F.slot_dict_get PySem.F.type_dict_get (thn (ho.run pins s σ H _ I h) fun u s1 ⟨x, H1, I1, rx, a, ex, ⟨xs0, d⟩, q1⟩ => ?_)
  subst ex
  obtain rfl : u = Value.ref a := rx
  obtain ⟨t1, t2⟩ := nob_type I1 d
  refine ⟨t1, t2, ?_⟩
  rw [m.trees]
  refine Calls.callWith_builtin rfl (Calls.evalArgs_plain (Calls.spliced_cons (thn (he.run pins s1 σ H1 _ I1 q1) fun iv s2 ⟨y, H2, I2, ry, q2⟩ =>
    Calls.spliced_cons (thn (hf.run pins s2 σ H2 _ I2 q2) fun fv s3 ⟨z, H3, I3, rz, b, xs, k, ey, g, hk, rk, dk, q3⟩ => Calls.spliced_nil ?_))))
  subst ey
  obtain rfl : iv = Value.ref b := ry
  exact n_get2 hu I3 g hk rk dk rz fun w' s4 I4 rw' => ⟨_, H3, I4, rw', q3⟩
theorem nob_empty {P : Program} {w : World} {H : Hp} (h : Heap) (hb : sysModules < h.objs.size) : ObjOk P w H (h.push { cls := .type "dict", data := .dict #[] }) h.objs.size (nob h.objs.size []) :=
  nob_ok (desc_of (P := P) (w := w) (ys := []) (Nat.zero_le _) (beq_eq_false_iff_ne.mpr (Ne.symm (Nat.ne_of_lt hb))) (fun x hx => nomatch hx) .nil ⟨_, #[], 0, Heap.get?_push_size _ rfl, ⟨rfl, rfl, rfl⟩, rfl, rfl, (fun x hx => nomatch hx), List.nodup_nil⟩)
def tNewN : TE := fun _ H Q => ∀ p, H p = none → Q (.ref p) (upd H p (nob p []))
theorem pe_newN : PE X (.Dict [] [] pos) tNewN := ⟨fun pins s σ H Q I h =>
  wpAny_Dict_empty ⟨.ref s.heap.objs.size, _, I.laid (a := s.heap.objs.size) (t' := s.toks) (fun _ _ q => Heap.get?_push_of_some _ q) (Nat.le_refl _) (nob_empty s.heap I.big), rfl, h _ (I.hok.fresh (Nat.le_refl _))⟩⟩
end
/-! ### over the mirror -/
def isDN (h : MH) (a : Addr) (kvs : List (NestedKey × D)) : Prop := h a = some (.dN kvs) ∨ ∃ xs od, h a = some (.fN kvs xs od)
theorem HR.rdN {K : PySem.W.Frag} {h : MH} {H : Hp} (r : HR K h H) {a : Addr} {kvs : List (NestedKey × D)} (e : isDN h a kvs) : ∃ xs, RdN H a xs ∧ RN K H kvs xs := by
  rcases e with e | ⟨xs, od, e⟩
  · obtain ⟨xs, e1, q⟩ := r.dN e
    exact ⟨xs, .inl e1, q⟩
  · obtain ⟨e1, q⟩ := r.fN e
    exact ⟨xs, .inr ⟨od, e1⟩, q⟩
theorem RN.kv {K : PySem.W.Frag} {H : Hp} {kvs : List (NestedKey × D)} {xs : List (NestedKey × Addr × V)} (r : RN K H kvs xs) : RKV K H kvs (vw xs) :=
  ⟨by rw [r.1, vw, List.map_map]; rfl, by have := r.2.1; rw [vw, List.map_map]; exact this⟩
/-- the key that data is -/
def tupK (d : D) (k : NestedKey) : Prop := d = kD k ∧ k.depth ≤ 8 ∧ ∃ ks, k = .tup ks
def mGetN (o i : MTE) : MTE := fun env h Q => o env h fun x h1 => i env h1 fun y h2 => ∃ a kvs k d, x = .ref a ∧ isDN h2 a kvs ∧ tupK y k ∧ dG kvs k = some d ∧ Q d h2
def mGet2N (o i f : MTE) : MTE := fun env h Q => o env h fun x h1 => ∃ a, x = .ref a ∧ (∃ kvs, isDN h1 a kvs) ∧ i env h1 fun y h2 => f env h2 fun z h3 => ∃ kvs k, isDN h3 a kvs ∧ tupK y k ∧ Q ((dG kvs k).getD z) h3
def mPutN (e o i : MTE) : MTS := fun D' env h => e env h fun d h1 => o env h1 fun x h2 => i env h2 fun y h3 => ∃ a kvs k, x = .ref a ∧ h3 a = some (.dN kvs) ∧ tupK y k ∧ plainK k = true ∧ kvs.length < sizeLine ∧ D'.nx env (up h3 a (.dN (dPutG kvs k d)))
def mDisp0N : MTE := fun _ h Q => ∀ p, h p = none → Q (.ref p) (up h p (.dN []))
section
variable {X : Cx} {Hb : Hp} {o i e f : Expr} {mo mi me mf : MTE} {pos pos' apos cpos : Pos}
theorem tup_ref {K : PySem.W.Frag} {H : Hp} {d : D} {k : NestedKey} {v : V} (t : tupK d k) (r : RV K H d v) : ∃ b, v = .ref b ∧ RV K H (kD k) (.ref b) := by
  obtain ⟨rfl, _, ks, rfl⟩ := t
  have r' := r
  rw [kD] at r'
  obtain ⟨b, vs, rfl, _, _⟩ := r'.tup
  exact ⟨b, rfl, r⟩
theorem ie_getN (hu : X.A.units + 64 < cLine) (ho : IE X Hb o mo) (hi : IE X Hb i mi) (hs : NoSl i) : IE X Hb (.Subscript o i pos) (mGetN mo mi) := by
  refine pe_w (pe_getN hu ho hi hs) fun σ H Q ⟨env, h, Q0, re, rh, m, f⟩ => ?_
  refine ⟨env, h, _, re, rh, m, fun x h1 q1 vx H1 t1 r1 rx => ?_⟩
  refine ⟨env, h1, _, re.mono t1, r1, q1, ?_⟩
  rintro y h2 ⟨a, kvs, k, d, rfl, en, tk, l, q⟩ vy H2 t2 r2 ry
  obtain ⟨xs, E, rn⟩ := r2.rdN en
  obtain ⟨b, rfl, rk⟩ := tup_ref tk ry
  rcases rkvG_get rn.kv (k := k) with ⟨e1, _⟩ | ⟨d', v, e1, e2, rv⟩
  · rw [l] at e1; cases e1
  · rw [l] at e1; cases e1
    exact ⟨a, b, xs, k, v, rx.ref, rfl, E, rn.2.2, rk, tk.2.1, e2, f d h2 q v H2 (t1.trans t2) r2 rv⟩
theorem ie_get2N (hu : X.A.units + 64 < cLine) (ho : IE X Hb o mo) (hi : IE X Hb e me) (hf : IE X Hb f mf) (m2 : M2 X o "get" apos e f cpos) : IE X Hb (.Call (.Attribute o "get" apos) [e, f] [] cpos) (mGet2N mo me mf) := by
  refine pe_w (pe_get2N hu ho hi hf m2) fun σ H Q ⟨env, h, Q0, re, rh, m, fi⟩ => ?_
  refine ⟨env, h, _, re, rh, m, ?_⟩
  rintro x h1 ⟨a, rfl, ⟨kvs0, en0⟩, q1⟩ vx H1 t1 r1 rx
  obtain ⟨xs0, E0, _⟩ := r1.rdN en0
  refine ⟨a, rx.ref, ⟨xs0, E0⟩, env, h1, _, re.mono t1, r1, q1, fun y h2 q2 vy H2 t2 r2 ry => ?_⟩
  refine ⟨env, h2, _, (re.mono t1).mono t2, r2, q2, ?_⟩
  rintro z h3 ⟨kvs, k, en, tk, q⟩ vz H3 t3 r3 rz
  obtain ⟨xs, E, rn⟩ := r3.rdN en
  obtain ⟨b, rfl, rk⟩ := tup_ref tk (ry.mono t3)
  refine ⟨b, xs, k, rfl, E, rn.2.2, rk, tk.2.1, ?_⟩
  have tt := t1.trans (t2.trans t3)
  rcases rkvG_get rn.kv (k := k) with ⟨e1, e2⟩ | ⟨d', v, e1, e2, rv⟩
  · rw [e1] at q
    rw [e2]
    exact fi z h3 q vz H3 tt r3 rz
  · rw [e1] at q
    rw [e2]
    exact fi d' h3 q v H3 tt r3 rv
theorem ie_disp0N : IE X Hb (.Dict [] [] pos) mDisp0N := by
  refine pe_w pe_newN fun σ H Q ⟨env, h, Q0, re, rh, m, f⟩ p np => ?_
  exact f _ _ (m p (rh.free np)) _ _ (.new np) (rh.new np ⟨[], rfl, rfl, .nil, fun x hx => nomatch hx⟩) rv_ref
theorem is_putN (hu : X.A.units + 64 < cLine) (he : IE X Hb e me) (ho : IE X Hb o mo) (hi : IE X Hb i mi) (hs : swapsWith e (some (.Subscript o i pos')) pos.line X.env = pure false := by rfl) : IS X Hb (.Assign [.Subscript o i pos'] e pos) (mPutN me mo mi) := by
  refine is_of (ps_putN hu ho hi he hs) fun D' σ H env h D0 re rh m f => ?_
  refine ⟨env, h, _, re, rh, m, fun d h1 q1 v H1 t1 r1 rv => ?_⟩
  refine ⟨env, h1, _, re.mono t1, r1, q1, fun x h2 q2 vx H2 t2 r2 rx => ?_⟩
  refine ⟨env, h2, _, (re.mono t1).mono t2, r2, q2, ?_⟩
  rintro y h3 ⟨a, kvs, k, rfl, ea, tk, pk, z, q⟩ vy H3 t3 r3 ry
  obtain ⟨xs, E, rn⟩ := r3.dN ea
  obtain ⟨b, rfl, rk⟩ := tup_ref tk ry
  have hl := rkvG_len rn.kv
  rw [vw, List.length_map] at hl
  have t4 : TL H3 (upd H3 a (nob a (putN xs k b v))) := .put E (fun _ z => by cases z) (fun _ _ z => by cases z)
  have tt := t1.trans (t2.trans (t3.trans t4))
  refine ⟨a, b, xs, k, rx.mono t3 |>.ref, rfl, E, rn.2.2, rk, pk, tk.2.1, by rw [← hl]; exact z, f.nx _ _ q σ _ tt (re.mono tt) (r3.put t4 ⟨putN xs k b v, rfl, ?_⟩)⟩
  have kv := (rkvG_put (k := k) rn.kv (rv.mono (t2.trans t3))).mono t4
  rw [← vw_put (b := b)] at kv
  refine ⟨by rw [kv.1, vw, List.map_map]; rfl, by have := kv.2; rw [vw, List.map_map] at this; exact this, fun w hw => ?_⟩
  rcases mem_putN hw with ⟨y, hy, e1, e2⟩ | ⟨e1, e2⟩
  · rw [← e1, ← e2]; exact (rn.2.2 y hy).mono t4
  · rw [e1, e2]; exact rk.mono t4
end
theorem putN_ {e o i : MTE} {D' : MEnds} {env : ME} {h : MH} (q : e env h fun d h1 => o env h1 fun x h2 => i env h2 fun y h3 => ∃ a kvs k, x = .ref a ∧ h3 a = some (.dN kvs) ∧ tupK y k ∧ plainK k = true ∧ kvs.length < sizeLine ∧ D'.nx env (up h3 a (.dN (dPutG kvs k d)))) : mPutN e o i D' env h := q
end M

namespace M
open PySem PySem.Spec PyProof PyProof.Rows L2
/-! ### dict(pairs), len, keys -/
def allN (kvs : List (NestedKey × Addr × V)) (acc : List (NestedKey × Addr × V)) : List (NestedKey × Addr × V) := kvs.foldl (fun acc kv => putN acc kv.1 kv.2.1 kv.2.2) acc
theorem np_all : ∀ {kvs : List (NestedKey × Addr × V)} {ys : List (NestedKey × Addr × Value)}, Paired NPair kvs ys → ∀ {acc : List (NestedKey × Addr × V)} {zs : List (NestedKey × Addr × Value)}, Paired NPair acc zs → Paired NPair (allN kvs acc) (storedAllH zs ys)
  | _, _, .nil, _, _, r => r
  | _, _, .cons (a := p) (b := q) h t, acc, zs, r => by
    obtain ⟨e1, e2, e3⟩ := h
    have := np_put r p.1 p.2.1 e3
    show Paired NPair (allN _ (putN acc p.1 p.2.1 p.2.2)) (storedAllH (storedH zs q.1 q.2.1 q.2.2) _)
    rw [← e1, ← e2]
    exact np_all t this
theorem allN_len : ∀ (kvs acc : List (NestedKey × Addr × V)), (allN kvs acc).length ≤ acc.length + kvs.length
  | [], acc => Nat.le_refl _
  | p :: kvs, acc => by
    have a := allN_len kvs (putN acc p.1 p.2.1 p.2.2)
    have b := putN_len (xs := acc) (k := p.1) (b := p.2.1) (v := p.2.2)
    show (allN kvs (putN acc p.1 p.2.1 p.2.2)).length ≤ _
    rw [List.length_cons]
    omega
theorem mem_allN : ∀ (kvs acc : List (NestedKey × Addr × V)) {x : NestedKey × Addr × V}, x ∈ allN kvs acc → (∃ y ∈ acc, y.1 = x.1 ∧ y.2.1 = x.2.1) ∨ ∃ y ∈ kvs, y.1 = x.1 ∧ y.2.1 = x.2.1
  | [], acc, x, h => .inl ⟨x, h, rfl, rfl⟩
  | p :: kvs, acc, x, h => by
    rcases mem_allN kvs (putN acc p.1 p.2.1 p.2.2) h with ⟨y, hy, e1, e2⟩ | ⟨y, hy, e⟩
    · rcases mem_putN hy with ⟨z, hz, f1, f2⟩ | ⟨f1, f2⟩
      · exact .inl ⟨z, hz, f1.trans e1, f2.trans e2⟩
      · exact .inr ⟨p, List.mem_cons_self .., f1.symm.trans e1, f2.symm.trans e2⟩
    · exact .inr ⟨y, List.mem_cons_of_mem _ hy, e⟩
section
variable {X : Cx}
def PrN (X : Cx) (H : Hp) (p : Addr) (kv : NestedKey × Addr × V) : Prop := SqT X.K H p [.ref kv.2.1, kv.2.2] ∧ RV X.K H (kD kv.1) (.ref kv.2.1) ∧ plainK kv.1 = true ∧ kv.1.depth ≤ 8
theorem pairs_ofN {pins : List (Addr × Obj)} {σ : L2.St} {H : Hp} {s : Shared} (I : Inv X pins σ H s) : ∀ {ps : List Addr} {kvs : List (NestedKey × Addr × V)}, Paired (PrN X H) ps kvs →
    ∃ ys : List (NestedKey × Addr × Value), Paired NPair kvs ys ∧ ys.length = ps.length ∧ (∀ y ∈ ys, (nestedKind X.prog X.w).is s.heap y.1 y.2.1) ∧ ∀ (j : Nat) (y : NestedKey × Addr × Value), ys[j]? = some y → ∃ b : Addr, ps[j]? = some b ∧ IsTup s.heap b #[.ref y.2.1, y.2.2]
  | _, _, .nil => ⟨[], .nil, rfl, (by intro y hy; cases hy), (by intro j q e; simp at e)⟩
  | _, _, .cons (a := p) (b := kv) h t => by
    obtain ⟨ys, r, hl, hi, hp⟩ := pairs_ofN I t
    obtain ⟨h1, h2, h3, h4⟩ := h
    obtain ⟨its, rv, ht, _⟩ := I.tuple h1
    obtain ⟨u, y, ei, ru, ry⟩ := vals2 rv
    subst ei
    obtain rfl : u = Value.ref kv.2.1 := ru
    refine ⟨(kv.1, kv.2.1, y) :: ys, .cons ⟨rfl, rfl, ry⟩ r, by rw [List.length_cons, List.length_cons, hl], fun q hq => ?_, fun j q e => ?_⟩
    · rcases List.mem_cons.mp hq with e | e
      · rw [e]; exact ⟨nested_is I h2 rfl, h4⟩
      · exact hi q e
    · cases j with
      | zero =>
        have e' : (kv.1, kv.2.1, y) = q := Option.some.inj e
        subst e'
        exact ⟨p, rfl, ht⟩
      | succ j =>
        obtain ⟨b, e1, e2⟩ := hp j q (by simpa using e)
        exact ⟨b, by simpa using e1, e2⟩
theorem call_dictN (hu : X.A.units + 64 < cLine) (hcalm : X.calm = true) : CallR X (.type "dict") (fun xs H Q => ∃ (a : Addr) (ps : List Addr) (kvs : List (NestedKey × Addr × V)), xs = [.ref a] ∧ SqL X.K H a (ps.map V.ref) ∧ Paired (PrN X H) ps kvs ∧
    ∀ p, H p = none → Q (.ref p) (upd H p (nob p (allN kvs [])))) := by
  intro pins s σ H xs us Q I r q
  obtain ⟨a, ps, kvs, ex, hq, hp, q⟩ := q
  subst ex
  obtain ⟨u, eu, rx⟩ := vals1 r
  subst eu
  cases rx
  obtain ⟨its, rv, pl, hz⟩ := I.list hq
  have ei := refs_at rv
  subst ei
  rw [List.length_map] at hz
  obtain ⟨ys, rel, hl, his, hpr⟩ := pairs_ofN I hp
  obtain ⟨o, n, ho, hc, hd, hdat⟩ := pl
  have prl : (ys.map fun y => ((Value.ref y.2.1, y.2.2) : Value × Value)).length = ys.length := List.length_map ..
  refine PySem.call_dict_pairsH (knd := nestedKind X.prog X.w) (ps := ys) (PairArg.list a (ps.map Value.ref).toArray (fun j => ps.getD j 0) (ys.map fun y => ((Value.ref y.2.1, y.2.2) : Value × Value))) (I.ok.hd hcalm) ?_ ⟨⟨o, n, ho, hc, hd, hdat⟩, ?_, fun j k v e => ?_⟩ ⟨prl.symm, fun i key v e => ?_⟩ ?_ (by rw [prl, hl]; exact hz) fun h' tk hd' k => ?_
  · show X.A.units + 1 + 1 + 8 < cLine
    omega
  · rw [prl, hl]; simp
  · rw [List.getElem?_map] at e
    obtain ⟨y, e1, e2⟩ := Option.map_eq_some_iff.mp e
    cases e2
    obtain ⟨b, f1, f2⟩ := hpr j y e1
    have : ps.getD j 0 = b := by rw [List.getD_eq_getElem?_getD, f1]; rfl
    exact ⟨show (ps.map Value.ref).toArray[j]? = some (.ref (ps.getD j 0)) from by rw [this]; simp [f1], show PairAt s.heap (ps.getD j 0) _ _ from by rw [this]; exact .inl f2⟩
  · have e : (ys.map fun y => ((Value.ref y.2.1, y.2.2) : Value × Value))[i]? = some (key, v) := e
    rw [List.getElem?_map] at e
    obtain ⟨y, e1, e2⟩ := Option.map_eq_some_iff.mp e
    cases e2
    exact ⟨y.1, y.2.1, e1, rfl⟩
  · intro h' hk y hy
    refine nestedKind_stays.stays (fun b ob vs m e _ => hk b ob (Nat.ne_of_lt (Heap.lt_size e)) (fun z => nomatch z) e) (his y hy)
  · have hm : (s.heap.objs.size == sysModules) = false := beq_eq_false_iff_ne.mpr (Nat.ne_of_gt I.big)
    have hlen : (allN kvs []).length ≤ sizeLine := by
      refine Nat.le_trans (allN_len kvs []) ?_
      rw [List.length_nil, Nat.zero_add, Paired.length rel, hl]
      exact hz
    have pk : ∀ x ∈ allN kvs [], plainK x.1 = true ∧ x.1.depth ≤ 8 := fun x hx => by
      rcases mem_allN kvs [] hx with ⟨y, hy, _⟩ | ⟨y, hy, e, _⟩
      · cases hy
      · rw [← e]
        have : ∀ {ps : List Addr} {kvs : List (NestedKey × Addr × V)}, Paired (PrN X H) ps kvs → ∀ y ∈ kvs, plainK y.1 = true ∧ y.1.depth ≤ 8 := by
          intro ps kvs pr
          induction pr with
          | nil => intro y hy; cases hy
          | cons h t ih =>
            intro y hy
            rcases List.mem_cons.mp hy with e | e
            · rw [e]; exact h.2.2
            · exact ih y e
        exact this hp y hy
    exact ⟨.ref s.heap.objs.size, _, I.laid (t' := tk) (fun b o e => k b o (fun z => nomatch z) e) (Nat.le_refl _) (nob_ok (desc_of hlen hm pk (np_all rel .nil) hd')), rfl, q _ (I.hok.fresh (Nat.le_refl _))⟩
theorem keys_of {h : Heap} : ∀ (ps : List Addr) (prs : List (Key × Value)), prs.length = ps.length → (∀ (j : Nat) (q : Key × Value), prs[j]? = some q → ∃ (b : Addr) (u : Value), ps[j]? = some b ∧ IsTup h b #[u, q.2] ∧ keyIs q.1 u = true) →
    ∃ ks : List Value, ks.length = ps.length ∧ ∀ (j : Nat) (q : Key × Value), prs[j]? = some q → ∃ (b : Addr) (u : Value), ps[j]? = some b ∧ ks[j]? = some u ∧ IsTup h b #[u, q.2] ∧ keyIs q.1 u = true
  | [], [], _, _ => ⟨[], rfl, by intro j q e; simp at e⟩
  | [], _ :: _, hl, _ => by simp at hl
  | _ :: _, [], hl, _ => by simp at hl
  | p :: ps, y :: prs, hl, hpr => by
    obtain ⟨ks, h1, h2⟩ := keys_of ps prs (by simpa using hl) (by
      intro j q e
      obtain ⟨b, u, e1, e2⟩ := hpr (j + 1) q (by simpa using e)
      exact ⟨b, u, by simpa using e1, e2⟩)
    obtain ⟨b, u, e1, e2, e3⟩ := hpr 0 y rfl
    refine ⟨u :: ks, by simp [h1], ?_⟩
    intro j q e
    cases j with
    | zero =>
      have : y = q := Option.some.inj e
      subst this
      exact ⟨b, u, e1, rfl, e2, e3⟩
    | succ j =>
      obtain ⟨b', u', f1, f2, f3⟩ := h2 j q (by simpa using e)
      exact ⟨b', u', by simpa using f1, by simpa using f2, f3⟩
/-- dict(t) of a tuple of pairs (key, value), keys ints or texts -/
theorem call_dictKT (hcalm : X.calm = true) : CallR X (.type "dict") (fun xs H Q => ∃ (a : Addr) (ps : List Addr) (kvs : List (Key × V)), xs = [.ref a] ∧ SqN X.K H a (ps.map V.ref) ∧ Paired (fun p kv => SqT X.K H p [kV kv.1, kv.2]) ps kvs ∧
    ∀ p, H p = none → Q (.ref p) (upd H p (.dK (mergeK [] kvs)))) := by
  intro pins s σ H xs us Q I r q
  obtain ⟨a, ps, kvs, ex, hq, hp, q⟩ := q
  subst ex
  obtain ⟨u, eu, rx⟩ := vals1 r
  subst eu
  cases rx
  have hN : ∃ its : List Value, Vals (ps.map V.ref) its ∧ PlainSeq "tuple" s.heap a its.toArray ∧ (ps.map V.ref).length ≤ sizeLine := by
    rcases hq with ⟨o, ho, hd⟩ | ⟨o, its, n, hk, hc, hd, hs, hz, rv⟩
    · obtain ⟨h1, hz, its, rv, o', h2, hc, n, hdat⟩ := I.hok a _ ho
      rw [h1] at h2
      cases h2
      exact ⟨its, rv, ⟨o, n, h1, hc, hd, hdat⟩, hz⟩
    · refine ⟨its.toList, rv, ⟨o, n, I.kIn a o hk, hc, hd, by simpa using hs⟩, ?_⟩
      have e := rv.length
      simp only [Array.length_toList] at e
      omega
  obtain ⟨its, rv, pl, hz⟩ := hN
  have ei := refs_at rv
  subst ei
  rw [List.length_map] at hz
  obtain ⟨prs, rel, hl, hpr⟩ := pairs_of I hp
  have hks := keys_of ps prs hl hpr
  obtain ⟨ks, k1, k2⟩ := hks
  have zl : (List.zip ks (prs.map (·.2))).length = ps.length := by rw [List.length_zip, List.length_map, k1, hl, Nat.min_self]
  have zat : ∀ (j : Nat) (k v : Value), (List.zip ks (prs.map (·.2)))[j]? = some (k, v) → ∃ q' : Key × Value, prs[j]? = some q' ∧ q'.2 = v ∧ ks[j]? = some k := fun j k v e => by
    rw [List.getElem?_zip_eq_some] at e
    obtain ⟨e1, e2⟩ := e
    rw [List.getElem?_map] at e2
    obtain ⟨q', e3, e4⟩ := Option.map_eq_some_iff.mp e2
    exact ⟨q', e3, e4, e1⟩
  refine PySem.call_dict_pairs (knd := mixKind X.prog X.w) (kvs := prs) (PairArg.tuple a (ps.map Value.ref).toArray (fun j => ps.getD j 0) (List.zip ks (prs.map (·.2)))) (I.ok.hd hcalm) ⟨pl, ?_, fun j k v e => ?_⟩ ⟨by rw [zl, hl], fun i key v e => ?_⟩ (by rw [zl]; exact hz) fun h' tk hd' k => ?_
  · rw [zl]; simp
  · obtain ⟨q', e1, rfl, e2⟩ := zat j k v e
    obtain ⟨b, u, f1, f2, f3, _⟩ := k2 j q' e1
    rw [e2] at f2
    cases f2
    have : ps.getD j 0 = b := by rw [List.getD_eq_getElem?_getD, f1]; rfl
    exact ⟨show (ps.map Value.ref).toArray[j]? = some (.ref (ps.getD j 0)) from by rw [this]; simp [f1], show PairAt s.heap (ps.getD j 0) _ _ from by rw [this]; exact .inl f3⟩
  · obtain ⟨q', e1, rfl, e2⟩ := zat i key v e
    obtain ⟨b, u, f1, f2, f3, f4⟩ := k2 i q' e1
    rw [e2] at f2
    cases f2
    exact ⟨q'.1, e1, f4⟩
  · have hm : (s.heap.objs.size == sysModules) = false := beq_eq_false_iff_ne.mpr (Nat.ne_of_gt I.big)
    have hlen : (mergeK [] kvs).length ≤ sizeLine := by
      refine Nat.le_trans (length_mergeK kvs []) ?_
      rw [List.length_nil, Nat.zero_add, rel.length, hl]
      exact hz
    exact ⟨.ref s.heap.objs.size, upd H s.heap.objs.size (.dK (mergeK [] kvs)), I.laid (t' := tk) (fun b o e => k b o (fun z => nomatch z) e) (Nat.le_refl _) (show ObjOk X.prog X.w _ _ _ (.dK (mergeK [] kvs)) from ⟨hlen, hm, merged [] prs, KV.merge rel .nil, hd'⟩), rfl, q _ (I.hok.fresh (Nat.le_refl _))⟩
theorem call_lenN : CallR X (.builtin "len") (fun xs H Q => ∃ (a : Addr) (ws : List (NestedKey × Addr × V)), xs = [.ref a] ∧ RdN H a ws ∧ (∀ x ∈ ws, RV X.K H (kD x.1) (.ref x.2.1)) ∧ Q (.int (ws.length : Nat)) H) := by
  intro pins s σ H xs us Q I r h
  obtain ⟨p, ws, rfl, hp, hk, q⟩ := h
  obtain ⟨u, rfl, rx⟩ := vals1 r
  obtain rfl : u = .ref p := rx
  obtain ⟨ys, pr, dd, z, hs, _⟩ := nob_keyed I hp hk
  have hl : ws.length = ys.length := Paired.length pr
  refine call_len_dictH hs dd (by rw [sizeLine_eq] at z; omega) ?_
  rw [← hl]
  exact ⟨.int ((ws.length : Nat) : Int), H, I.tok _, ⟨_, rfl⟩, q⟩
end
end M

namespace M
open PySem PySem.Spec PyProof PyProof.Rows L2
/-! ### the keys of a dict with nested keys, walked while it is locked -/
def Itkn (d : Addr) (o : Obj) (xs : List (NestedKey × Addr × V)) : It :=
  ⟨fun i H => H d = some (.frz o (nob d xs)) ∧ i < xs.length, fun i H x H' => H' = H ∧ ∃ p, xs[i]? = some p ∧ x = .ref p.2.1, fun i H => H d = some (.frz o (nob d xs)) ∧ xs.length ≤ i⟩
section
variable {X : Cx} {pins : List (Addr × Obj)} {σ : L2.St} {H : Hp} {s : Shared} {d : Addr} {o : Obj}
theorem frzN {xs : List (NestedKey × Addr × V)} (I : Inv X pins σ H s) (h : H d = some (.frz o (nob d xs))) :
    (d == sysModules) = false ∧ s.heap.get? d = some o ∧ o.ExactDict ∧ ∃ (es : Array DictEntry) (ep : Nat), o.data = .dict es ep ∧ es.size = xs.length ∧
      ∀ (i : Nat) (p : NestedKey × Addr × V), xs[i]? = some p → ∃ en : DictEntry, es[i]? = some en ∧ en.key = .ref p.2.1 := by
  obtain ⟨hd, ⟨z, hs, pk, ys, pr, o', es, ep, ho, hx, hdt, he, _⟩, _⟩ := I.hok d _ h
  rw [hd] at ho
  cases ho
  have he := he X.prog X.w
  refine ⟨hs, hd, hx, es, ep, hdt, ?_, fun i p e => ?_⟩
  · have l1 : es.size = ys.length := size_of_entries he
    have l2 : xs.length = ys.length := Paired.length pr
    omega
  · obtain ⟨b, hb, e1, e2, _⟩ := paired_get pr e
    have q := entry_at he i
    rw [hb] at q
    exact ⟨_, q, by rw [e2]; rfl⟩
end
section
variable {P : Program} {w : World} {K : PySem.W.Frag} {tg : Expr} {d : Addr} {o : Obj} {es : Array DictEntry} {ep : Nat}
theorem turn_keysN {xs : List (NestedKey × Addr × V)} (it : Addr) (hod : o.data = .dict es ep) : Turn P w K tg (Itkn d o xs) [it] it (fun i h => h.IsKeyIter it d i xs.length ep) where
  mem := by simp
  obj := fun i h st b hb => by
    have e : b = it := by simpa using hb
    subst e
    obtain ⟨oi, e, c, dd⟩ := st
    exact ⟨oi, e, fun v z => by rw [dd] at z; cases z⟩
  keep := fun i h h' st k => st.at fun oi e => k it (by simp) oi e
  item := by
    intro X hP hw hK hc i pins s σ H E I hf st hg
    subst hP hw hK
    obtain ⟨hd, hi⟩ := hg
    obtain ⟨f0, f1, f2, f3, f4, f5⟩ := hf it (by simp)
    obtain ⟨hs, hgd, hx, es', ep', hdt, hsz, ent⟩ := frzN I hd
    obtain ⟨rfl, rfl⟩ := dict_ep hod hdt
    obtain ⟨p, hkv⟩ : ∃ p, xs[i]? = some p := ⟨xs[i], List.getElem?_eq_getElem hi⟩
    obtain ⟨en, hen, hkey⟩ := ent i p hkv
    refine next_key_item st hgd hdt hsz hen fun h' st' sb => ?_
    have I1 : Inv X pins σ H { s with heap := h' } := I.turned (t' := s.toks) (fun b ob hb e => (sb.2 b hb).trans e) f0 f1 f3 f4 f5
    obtain ⟨oi, e, c, dd⟩ := id st'
    exact ⟨en.key, rfl, go_of (s := { s with heap := h' }) e c dd (by decide) ⟨.ref p.2.1, H, I1, hkey, ⟨rfl, p, hkv, rfl⟩, st', fun b hb => (hf b hb).1⟩⟩
  done := by
    intro X hP hw hK hc i pins s σ H E I hf st hg
    subst hP hw hK
    obtain ⟨hd, hi⟩ := hg
    obtain ⟨f0, f1, f2, f3, f4, f5⟩ := hf it (by simp)
    obtain ⟨hs, hgd, hx, es', ep', hdt, hsz, ent⟩ := frzN I hd
    obtain ⟨rfl, rfl⟩ := dict_ep hod hdt
    exact next_key_end (I.ok.hd hc) st hgd hdt hsz hi fun h' eb => ⟨rfl, I.turned (t' := s.toks) (fun b ob hb e => eb b ob hb e) f0 f1 f3 f4 f5⟩
  self := fun A i s Q E st h => by
    refine wpAny_pyIter_slot st.typeIs PySem.F.slot_dict_keyiterator_iter (wpAny_call_entry PySem.F.slot_dict_keyiterator_iter st.typeIs PySem.F.entry_dict_keyiterator_iter ?_ (PySem.F.args_dict_keyiterator_iter_1 _))
    show wpAny _ _ (ret (.ref it)) _ _ s
    exact wpAny_pure ⟨_, rfl, "dict_keyiterator", _, st.typeIs, PySem.F.slot_dict_keyiterator_next.lookup, h⟩
end
def iKeysN (td : TE) : TI := fun σ H R => td σ H fun x H1 => ∃ d o xs, x = .ref d ∧ H1 d = some (.frz o (nob d xs)) ∧ R (Itkn d o xs) H1
theorem pi_keysN {X : Cx} {tg e : Expr} {td : TE} (he : PE X e td) : PI X tg e (iKeysN td) := by
  refine ⟨fun pins s σ H R I h => ?_⟩
  refine thn (he.run pins s σ H _ I h) fun u s1 ⟨x, H1, I1, rx, d, o, xs, ex, hd, q⟩ => ?_
  subst ex
  obtain rfl : u = Value.ref d := rx
  obtain ⟨hs, hgd, hx, es, ep, hdt, hsz, ent⟩ := frzN I1 hd
  refine iter_keys hs hgd hx hdt (pi_one (tk := s1.toks) I1 _ (turn_keysN _ hdt) ⟨_, Heap.get?_push_size _ rfl, rfl, ?_⟩ q)
  rw [hsz] <;> rfl
/-! ### over the mirror -/
def srcN (d : Addr) (kvs : List (NestedKey × D)) (xs : List (NestedKey × Addr × V)) (od : Obj) : MSrc := ⟨kvs.length, fun i => match kvs[i]? with
  | some kv => kD kv.1
  | none => .non, fun h' => h' d = some (.fN kvs xs od)⟩
def mKeysN (n : Nat) : MTI := fun env h R => ∃ d kvs xs od, env[n]? = some (some (.ref d)) ∧ h d = some (.fN kvs xs od) ∧ R (srcN d kvs xs od) h
/-- an expression, while the dict that the name holds is locked -/
def mLockE (n : Nat) (m : MTE) : MTE := fun env h Q => ∃ d kvs, env[n]? = some (some (.ref d)) ∧ h d = some (.dN kvs) ∧ ∀ xs od, m env (up h d (.fN kvs xs od)) fun v h' => h' d = some (.fN kvs xs od) ∧ Q v (up h' d (.dN kvs))
section
variable {X : Cx} {Hb : Hp} {tg e : Expr} {n : Nat} {m : MTE}
theorem RN.len {K : PySem.W.Frag} {H : Hp} {kvs : List (NestedKey × D)} {xs : List (NestedKey × Addr × V)} (r : RN K H kvs xs) : kvs.length = xs.length := by
  have := congrArg List.length r.1
  rwa [List.length_map, List.length_map] at this
theorem so_N {K : PySem.W.Frag} {H : Hp} {d : Addr} {kvs : List (NestedKey × D)} {xs : List (NestedKey × Addr × V)} {od : Obj} (rk : RN K H kvs xs) : SrcOk K H (srcN d kvs xs od) (Itkn d od xs) where
  go := fun i h H' t r ok hi => ⟨(r.fN ok).1, by rw [← (r.fN ok).2.len]; exact hi⟩
  stop := fun h H' t r ok => ⟨(r.fN ok).1, by rw [← (r.fN ok).2.len]; exact Nat.le_refl _⟩
  yld := fun i h H' t r ok hi x H2 y => by
    obtain ⟨rfl, p, e1, rfl⟩ := y
    refine ⟨.refl _, r, ?_⟩
    have hk : (kvs.map (·.1))[i]? = some p.1 := by rw [rk.1, List.getElem?_map, e1]; rfl
    rw [List.getElem?_map] at hk
    obtain ⟨kv, e3, e4⟩ := Option.map_eq_some_iff.mp hk
    show RV K _ (match kvs[i]? with
      | some kv => kD kv.1
      | none => .non) _
    rw [e3]
    show RV K _ (kD kv.1) _
    rw [e4]
    exact ((rk.2.2 p (List.mem_of_getElem? e1)).mono t)
theorem ii_keysN (he : IE X Hb e (mVar n)) : II X Hb tg e (mKeysN n) := by
  refine pi_w (pi_keysN he) fun σ H R ⟨env, h, Q0, re, rh, ⟨d, kvs, xs, od, en, ed, m⟩, f⟩ => ?_
  refine ⟨env, h, fun x h' => x = .ref d ∧ h' = h, re, rh, ⟨_, en, rfl, rfl⟩, ?_⟩
  rintro _ _ ⟨rfl, rfl⟩ v H1 t1 r1 rx
  obtain ⟨E, rk⟩ := r1.fN ed
  exact ⟨d, od, xs, rx.ref, E, f _ _ m _ H1 t1 r1 (so_N rk)⟩
theorem ie_lockE (he : IE X Hb e m) : IE X Hb e (mLockE n m) := by
  refine pe_w (pe_lock he) fun σ H Q ⟨env, h, Q0, re, rh, ⟨d, kvs, en, ed, mm⟩, f⟩ => ?_
  obtain ⟨xs, E, rk⟩ := rh.dN ed
  refine ⟨d, nob d xs, E, True.intro, fun od => ?_⟩
  have t1 : TL H (upd H d (.frz od (nob d xs))) := .lockN E
  refine ⟨env, _, _, re.mono t1, rh.put (m := .fN kvs xs od) t1 ⟨rfl, rk.mono t1⟩, mm xs od, ?_⟩
  rintro v h' ⟨e', q⟩ v' H' t rh' rv'
  obtain ⟨E', rk'⟩ := rh'.fN e'
  have t2 : TL H' (upd H' d (nob d xs)) := .unlockN E'
  exact ⟨E', f v _ q v' _ (t1.trans (t.trans t2)) (rh'.put t2 ⟨xs, rfl, rk'.mono t2⟩) (rv'.mono t2)⟩
end
section
variable {X : Cx} {Hb : Hp} {n i : Nat} {st : Stmt} {m : MTE}
/-- x = e, the dict that the name holds locked meanwhile -/
theorem is_lockSet (hs : IS X Hb st (mSet i m)) : IS X Hb st (mSet i (mLockE n m)) := by
  refine is_of (ps_lock hs) fun D' σ H env h D0 re rh q f => ?_
  obtain ⟨d, kvs, en, ed, mm⟩ := q
  obtain ⟨xs, E, rk⟩ := rh.dN ed
  refine ⟨d, nob d xs, E, True.intro, fun od => ?_⟩
  have t1 : TL H (upd H d (.frz od (nob d xs))) := .lockN E
  refine liftS_iff.mpr ⟨env, _, ⟨fun env' h' => h' d = some (.fN kvs xs od) ∧ D0.nx env' (up h' d (.dN kvs)), fun _ _ => False, fun _ _ => False, fun _ _ => False⟩, re.mono t1, rh.put (m := .fN kvs xs od) t1 ⟨rfl, rk.mono t1⟩, mm xs od, ?_, ?_, ?_, ?_⟩
  · rintro env' h' ⟨e', q⟩ σ' H' t re' rh'
    obtain ⟨E', rk'⟩ := rh'.fN e'
    have t2 : TL H' (upd H' d (nob d xs)) := .unlockN E'
    exact ⟨E', f.nx env' _ q σ' _ (t1.trans (t.trans t2)) (re'.mono t2) (rh'.put t2 ⟨xs, rfl, rk'.mono t2⟩)⟩
  · rintro v h' q; exact q.elim
  · rintro v h' q; exact q.elim
  · rintro v h' q; exact q.elim
end
/-! ### calls -/
abbrev prN (kv : NestedKey × D) : D := .tup [kD kv.1, kv.2]
abbrev prK (kv : Key × D) : D := .tup [keyD kv.1, kv.2]
def mrgN (kvs acc : List (NestedKey × D)) : List (NestedKey × D) := kvs.foldl (fun acc kv => dPutG acc kv.1 kv.2) acc
def mrgK (kvs acc : List (Key × D)) : List (Key × D) := kvs.foldl (fun acc kv => dPutK acc kv.1 kv.2) acc
theorem mrg_rel {K : PySem.W.Frag} {H : Hp} : ∀ {kvs : List (NestedKey × D)} {ws : List (NestedKey × Addr × V)}, RKV K H kvs (vw ws) → ∀ {acc : List (NestedKey × D)} {zs : List (NestedKey × Addr × V)}, RKV K H acc (vw zs) → RKV K H (mrgN kvs acc) (vw (allN ws zs))
  | [], ws, r, acc, zs, r2 => by
    have : ws = [] := by
      have := r.1
      rw [List.map_nil] at this
      have := congrArg List.length this
      rw [List.length_map, List.length_map] at this
      exact List.length_eq_zero_iff.mp this.symm
    subst this
    exact r2
  | kv :: kvs, [], r, acc, zs, r2 => by have := r.1; cases this
  | kv :: kvs, w :: ws, r, acc, zs, r2 => by
    obtain ⟨v, rs, e, q, t⟩ := rkvG_inv r
    have e : vw (w :: ws) = (kv.1, v) :: rs := e
    rw [vw, List.map_cons] at e
    injection e with e1 e2
    injection e1 with e1 e3
    have a := rkvG_put (k := kv.1) r2 q
    show RKV K H (mrgN kvs (dPutG acc kv.1 kv.2)) (vw (allN ws (putN zs w.1 w.2.1 w.2.2)))
    refine mrg_rel (by rw [vw, e2]; exact t) ?_
    rw [vw_put, e1, e3]
    exact a
theorem mrgK_rel {K : PySem.W.Frag} {H : Hp} : ∀ {kvs : List (Key × D)} {ws : List (Key × V)}, RKV K H kvs ws → ∀ {acc : List (Key × D)} {zs : List (Key × V)}, RKV K H acc zs → RKV K H (mrgK kvs acc) (mergeK zs ws)
  | [], ws, r, acc, zs, r2 => by
    have := rkvG_nil r
    subst this
    exact r2
  | kv :: kvs, ws, r, acc, zs, r2 => by
    obtain ⟨v, rs, rfl, q, t⟩ := rkv_inv r
    exact mrgK_rel t (rkv_put (k := kv.1) r2 q)
def rDictN : MRA := fun xs h Q => match xs with
  | [.ref a] => ∃ kvs : List (NestedKey × D), h a = some (.lst (kvs.map prN)) ∧ (∀ kv ∈ kvs, plainK kv.1 = true ∧ kv.1.depth ≤ 8 ∧ ∃ ks, kv.1 = .tup ks) ∧ ∀ p, h p = none → Q (.ref p) (up h p (.dN (mrgN kvs [])))
  | _ => False
def rDictKT : MRA := fun xs h Q => match xs with
  | [.tup ds] => ∃ kvs : List (Key × D), ds = kvs.map prK ∧ ∀ p, h p = none → Q (.ref p) (up h p (.dK (mrgK kvs [])))
  | _ => False
def rDictKL : MRA := fun xs h Q => match xs with
  | [.ref a] => ∃ kvs : List (Key × D), h a = some (.lst (kvs.map prK)) ∧ ∀ p, h p = none → Q (.ref p) (up h p (.dK (mrgK kvs [])))
  | _ => False
def rLenN : MRA := fun xs h Q => match xs with
  | [.ref a] => ∃ kvs, isDN h a kvs ∧ Q (.int kvs.length) h
  | _ => False
def rSortedDI : MRA := fun xs h Q => match xs with
  | [.ref a] => ∃ (kvs : List (Key × D)) (ks : List Int), h a = some (.dK kvs) ∧ kvs.map (·.1) = ks.map Sum.inl ∧ ks.length < 64 ∧ ∀ (ys : List Int) p, ys.Perm ks → ys.Pairwise (· ≤ ·) → h p = none → Q (.ref p) (up h p (.lst (ys.map .int)))
  | _ => False
section
variable {X : Cx}
theorem prs_N {H : Hp} : ∀ {kvs : List (NestedKey × D)} {vs : List V}, RVs X.K H (kvs.map prN) vs → (∀ kv ∈ kvs, plainK kv.1 = true ∧ kv.1.depth ≤ 8 ∧ ∃ ks, kv.1 = .tup ks) →
    ∃ (ps : List Addr) (ws : List (NestedKey × Addr × V)), vs = ps.map V.ref ∧ Paired (PrN X H) ps ws ∧ RKV X.K H kvs (vw ws) ∧ ∀ w ∈ ws, RV X.K H (kD w.1) (.ref w.2.1)
  | [], vs, r, _ => ⟨[], [], r.inv0, .nil, ⟨rfl, .nil⟩, by intro w hw; cases hw⟩
  | kv :: kvs, vs, r, h => by
    obtain ⟨v, us, rfl, q, t⟩ := r.inv
    obtain ⟨ps, ws, rfl, pr, rk, hw⟩ := prs_N t fun x hx => h x (List.mem_cons_of_mem _ hx)
    obtain ⟨h1, h2, ks, h3⟩ := h kv (List.mem_cons_self ..)
    obtain ⟨a, xs, rfl, ta, rs⟩ := q.tup
    obtain ⟨k, xs1, rfl, qk, rs1⟩ := rs.inv
    obtain ⟨x, xs2, rfl, qx, rs2⟩ := rs1.inv
    have := rs2.inv0
    subst this
    obtain ⟨b, rfl, rb⟩ := tup_ref ⟨rfl, h2, ks, h3⟩ qk
    refine ⟨a :: ps, (kv.1, b, x) :: ws, rfl, .cons ⟨ta, rb, h1, h2⟩ pr, ⟨?_, .cons qx rk.2⟩, fun w hw' => ?_⟩
    · rw [List.map_cons, rk.1]; rfl
    · rcases List.mem_cons.mp hw' with e | e
      · rw [e]; exact rb
      · exact hw w e
theorem cm_dictN (hu : X.A.units + 64 < cLine) (hc : X.calm = true) : CaM X (.type "dict") rDictN := by
  refine ⟨_, call_dictN hu hc, fun xs h Q0 vs H Q q rh rs f => ?_⟩
  unfold rDictN at q
  split at q
  · obtain ⟨v, rfl, rx⟩ := rs.one
    rw [rx.ref]
    obtain ⟨kvs, e, hk, q⟩ := q
    obtain ⟨us, E, r⟩ := rh.lst e
    obtain ⟨ps, ws, rfl, pr, rk, hw⟩ := prs_N r hk
    refine ⟨_, ps, ws, rfl, .of E, pr, fun p np => ?_⟩
    have kv := (mrg_rel rk (acc := []) (zs := []) ⟨rfl, .nil⟩).mono (.new (o := nob p (allN ws [])) np)
    refine f _ _ (q p (rh.free np)) _ _ (.new np) (rh.put (.new np) ⟨allN ws [], rfl, by rw [kv.1, vw, List.map_map]; rfl, by have := kv.2; rw [vw, List.map_map] at this; exact this, fun w hw' => ?_⟩) rv_ref
    rcases mem_allN ws [] hw' with ⟨y, hy, _⟩ | ⟨y, hy, e1, e2⟩
    · cases hy
    · rw [← e1, ← e2]; exact (hw y hy).mono (.new np)
  · exact q.elim
theorem prs_K {H : Hp} : ∀ {kvs : List (Key × D)} {vs : List V}, RVs X.K H (kvs.map prK) vs → ∃ (ps : List Addr) (ws : List (Key × V)), vs = ps.map V.ref ∧ Paired (fun p kv => SqT X.K H p [kV kv.1, kv.2]) ps ws ∧ RKV X.K H kvs ws
  | [], vs, r => ⟨[], [], r.inv0, .nil, ⟨rfl, .nil⟩⟩
  | kv :: kvs, vs, r => by
    obtain ⟨v, us, rfl, q, t⟩ := r.inv
    obtain ⟨ps, ws, rfl, pr, rk⟩ := prs_K t
    obtain ⟨a, xs, rfl, ta, rs⟩ := q.tup
    obtain ⟨k, xs1, rfl, qk, rs1⟩ := rs.inv
    obtain ⟨x, xs2, rfl, qx, rs2⟩ := rs1.inv
    have := rs2.inv0
    subst this
    have ek := keyD_rv qk
    subst ek
    exact ⟨a :: ps, (kv.1, x) :: ws, rfl, .cons ta pr, ⟨by rw [List.map_cons, rk.1]; rfl, .cons qx rk.2⟩⟩
theorem cm_dictKT (hc : X.calm = true) : CaM X (.type "dict") rDictKT := by
  refine ⟨_, call_dictKT hc, fun xs h Q0 vs H Q q rh rs f => ?_⟩
  unfold rDictKT at q
  split at q
  · obtain ⟨v, rfl, rx⟩ := rs.one
    obtain ⟨kvs, rfl, q⟩ := q
    obtain ⟨a, us, rfl, ta, r⟩ := rx.tupN
    obtain ⟨ps, ws, rfl, pr, rk⟩ := prs_K r
    refine ⟨a, ps, ws, rfl, ta, pr, fun p np => ?_⟩
    exact f _ _ (q p (rh.free np)) _ _ (.new np) (rh.new np ⟨_, rfl, mrgK_rel rk ⟨rfl, .nil⟩⟩) rv_ref
  · exact q.elim
theorem cm_dictKL (hc : X.calm = true) : CaM X (.type "dict") rDictKL := by
  refine ⟨_, call_dictP hc, fun xs h Q0 vs H Q q rh rs f => ?_⟩
  unfold rDictKL at q
  split at q
  · obtain ⟨v, rfl, rx⟩ := rs.one
    rw [rx.ref]
    obtain ⟨kvs, e, q⟩ := q
    obtain ⟨us, E, r⟩ := rh.lst e
    obtain ⟨ps, ws, rfl, pr, rk⟩ := prs_K r
    refine ⟨_, ps, ws, rfl, .of E, pr, fun p np => ?_⟩
    exact f _ _ (q p (rh.free np)) _ _ (.new np) (rh.new np ⟨_, rfl, mrgK_rel rk ⟨rfl, .nil⟩⟩) rv_ref
  · exact q.elim
theorem cm_lenN : CaM X (.builtin "len") rLenN := by
  refine ⟨_, call_lenN, fun xs h Q0 vs H Q q rh rs f => ?_⟩
  unfold rLenN at q
  split at q
  · obtain ⟨v, rfl, rx⟩ := rs.one
    rw [rx.ref]
    obtain ⟨kvs, e, q⟩ := q
    obtain ⟨ws, E, rn⟩ := rh.rdN e
    refine ⟨_, ws, rfl, E, rn.2.2, ?_⟩
    rw [← rn.len]
    exact fin_at f q rh rv_int
  · exact q.elim
theorem cm_sortedDI (hc : X.calm = true) : CaM X (.builtin "sorted") rSortedDI := by
  refine ⟨_, call_sortedDI hc, fun xs h Q0 vs H Q q rh rs f => ?_⟩
  unfold rSortedDI at q
  split at q
  · obtain ⟨v, rfl, rx⟩ := rs.one
    rw [rx.ref]
    obtain ⟨kvs, ks, e, hk, l, q⟩ := q
    obtain ⟨ws, E, rk⟩ := rh.dK e
    refine ⟨_, ws, ks, rfl, .inl E, by rw [← rk.1]; exact hk, l, fun ys p h1 h2 np => ?_⟩
    exact f _ _ (q ys p h1 h2 (rh.free np)) _ _ (.new np) (rh.new np (ro_lst .of_ints)) rv_ref
  · exact q.elim
end
/-- d.get(k, x), keys ints or texts -/
def mDGet2K (o i f : MTE) : MTE := fun env h Q => o env h fun x h1 => ∃ a, x = .ref a ∧ (∃ kvs, h1 a = some (.dK kvs)) ∧ i env h1 fun y h2 => f env h2 fun z h3 => ∃ kvs k, h3 a = some (.dK kvs) ∧ y = keyD k ∧ Q ((dV kvs k).getD z) h3
theorem dG_dV {kvs : List (Key × D)} {k : Key} : dG kvs k = dV kvs k := rfl
theorem ie_dget2K {X : Cx} {Hb : Hp} {o e f : Expr} {mo me mf : MTE} {apos cpos : Pos} (hu : X.A.units + 64 < cLine) (ho : IE X Hb o mo) (hi : IE X Hb e me) (hf : IE X Hb f mf) (m2 : M2 X o "get" apos e f cpos) : IE X Hb (.Call (.Attribute o "get" apos) [e, f] [] cpos) (mDGet2K mo me mf) := by
  refine pe_w (pe_dget2 (by omega) ho hi hf m2) fun σ H Q ⟨env, h, Q0, re, rh, m, fi⟩ => ?_
  refine ⟨env, h, _, re, rh, m, ?_⟩
  rintro x h1 ⟨a, rfl, ⟨kvs0, en0⟩, q1⟩ vx H1 t1 r1 rx
  obtain ⟨ws0, E0, _⟩ := r1.dK en0
  refine ⟨a, rx.ref, .inl ⟨ws0, .inl E0⟩, env, h1, _, re.mono t1, r1, q1, fun y h2 q2 vy H2 t2 r2 ry => ?_⟩
  refine ⟨env, h2, _, (re.mono t1).mono t2, r2, q2, ?_⟩
  rintro z h3 ⟨kvs, k, en, rfl, q⟩ vz H3 t3 r3 rz
  obtain ⟨ws, E, rk⟩ := r3.dK en
  have ek := keyD_rv (ry.mono t3)
  subst ek
  refine ⟨valV ws k, DGet.k E, ?_⟩
  have tt := t1.trans (t2.trans t3)
  rcases rkvG_get rk (k := k) with ⟨e1, e2⟩ | ⟨d', v, e1, e2, rv⟩
  · rw [← dG_dV, e1] at q
    rw [e2]
    exact fi z h3 q vz H3 tt r3 rz
  · rw [← dG_dV, e1] at q
    rw [e2]
    exact fi d' h3 q v H3 tt r3 rv
section
variable {h : MH} {Q : MQ} {a : Addr} {ds : List D}
theorem q_dictN : rDictN [.ref a] h Q = (∃ kvs : List (NestedKey × D), h a = some (.lst (kvs.map prN)) ∧ (∀ kv ∈ kvs, plainK kv.1 = true ∧ kv.1.depth ≤ 8 ∧ ∃ ks, kv.1 = .tup ks) ∧ ∀ p, h p = none → Q (.ref p) (up h p (.dN (mrgN kvs [])))) := rfl
theorem q_dictKT : rDictKT [.tup ds] h Q = (∃ kvs : List (Key × D), ds = kvs.map prK ∧ ∀ p, h p = none → Q (.ref p) (up h p (.dK (mrgK kvs [])))) := rfl
theorem q_dictKL : rDictKL [.ref a] h Q = (∃ kvs : List (Key × D), h a = some (.lst (kvs.map prK)) ∧ ∀ p, h p = none → Q (.ref p) (up h p (.dK (mrgK kvs [])))) := rfl
theorem q_lenN : rLenN [.ref a] h Q = (∃ kvs, isDN h a kvs ∧ Q (.int kvs.length) h) := rfl
theorem q_sortedDI : rSortedDI [.ref a] h Q = (∃ (kvs : List (Key × D)) (ks : List Int), h a = some (.dK kvs) ∧ kvs.map (·.1) = ks.map Sum.inl ∧ ks.length < 64 ∧ ∀ (ys : List Int) p, ys.Perm ks → ys.Pairwise (· ≤ ·) → h p = none → Q (.ref p) (up h p (.lst (ys.map .int)))) := rfl
end
end M

namespace M
open PySem PySem.Spec PyProof PyProof.Rows L2
/-! ### methods of tuples -/
def tBMT (K : PySem.W.Frag) (r : V → List V → Hp → VK → Prop) (to : TE) (t : TA) : TE := fun σ H Q => to σ H fun x H1 => (∃ p ys, x = .ref p ∧ SqN K H1 p ys) ∧ t σ H1 fun xs H2 => r x xs H2 Q
section
variable {X : Cx} {o e : Expr} {es : List Expr} {to : TE} {t : TA} {name : Str} {apos cpos : Pos} {id : String} {r : V → List V → Hp → VK → Prop}
theorem sqn_is {pins : List (Addr × Obj)} {σ : L2.St} {H : Hp} {s : Shared} {p : Addr} {ys : List V} (I : Inv X pins σ H s) (h : SqN X.K H p ys) : s.TypeIs (.ref p) "tuple" ∧ ∀ a, Value.ref p = .ref a → ∃ ob, s.heap.get? a = some ob ∧ ob.dict = none := by
  rcases h with ⟨o, ho, hd⟩ | ⟨o, its, n, hk, hc, hd, hs, hz, rv⟩
  · obtain ⟨h1, hz, its, rv, o', h2, hc, n, hdat⟩ := I.hok p _ ho
    rw [h1] at h2
    cases h2
    refine ⟨⟨o, h1, hc⟩, fun a e => ?_⟩
    cases e
    exact ⟨o, h1, hd⟩
  · refine ⟨⟨o, I.kIn p o hk, hc⟩, fun a e => ?_⟩
    cases e
    exact ⟨o, I.kIn _ o hk, hd⟩
theorem pe_bmT (slot : Slot "tuple" name id) (hty : typeOf (.builtin id) = pure (.type "method_descriptor")) (hm : MtR X id r) (ho : PE X o to) (ha : PA X (e :: es) t)
    (hbase : attributeBase o name X.env (eval o X.env) = eval o X.env := by rfl)
    (hfew : ((backTo cpos (starEach (e :: es) X.env)).all (fun x => !x.1) && (backToKw cpos (keywordEach [] X.env)).all (fun x => x.1.isSome)
      && decide ((e :: es).length + ([] : List Keyword).length + (if ([] : List Keyword).isEmpty then 0 else 1) < 30)) = true := by rfl)
    (hline : (apos.endLine == cpos.line) = true := by rfl) (hs : starEach (e :: es) X.env = (false, eval e X.env) :: starEach es X.env := by rfl) (hplain : (backTo cpos (starEach es X.env)).any (·.1) = false := by rfl) :
    PE X (.Call (.Attribute o name apos) (e :: es) [] cpos) (tBMT X.K r to t) := by
  refine ⟨fun pins s σ H Q I h => ?_⟩
  refine wpAny_Call_method_late hbase hfew hline rfl (thn (ho.run pins s σ H _ I h) fun v s1 ⟨x, H1, I1, r1, ⟨p, ys, ex, hq⟩, q1⟩ => ?_)
  subst ex
  obtain rfl : v = Value.ref p := r1
  obtain ⟨h1, h2⟩ := sqn_is I1 hq
  refine ⟨"tuple", id, PySem.F.plainAttrs_tuple, slot, hty, h1, h2, ?_⟩
  have hA := ha.run cpos pins s1 σ H1 _ I1 q1
  rw [hs] at hA ⊢
  refine Calls.callWith_builtin (by show (false || (backTo cpos (starEach es X.env)).any (·.1)) = false; rw [hplain] <;> rfl) (Calls.evalArgs_plain ?_)
  exact thn hA fun us s2 ⟨vs, H2, I2, r2, q2⟩ => hm pins s2 σ H2 (.ref p) vs (.ref p) us Q I2 rfl r2 q2
theorem count_int {i : Int} : ∀ {ns : List Int} {us : List Value}, Vals (ns.map V.int) us → us.countP (eqU (.int i)) = ns.countP (fun j => j == i)
  | [], us, r => by cases r; rfl
  | n :: ns, us, r => by
    cases r with
    | cons a b =>
      obtain ⟨t, rfl⟩ := a
      rw [List.countP_cons, List.countP_cons, count_int b]
      rfl
theorem flat_ints' (ns : List Int) : (ns.map V.int).all flatV = true := by
  rw [List.all_map]
  exact List.all_eq_true.mpr fun _ _ => rfl
/-- t.count(i), t of ints -/
theorem mt_tup_count : MtR X "tuple.count" (fun x xs H Q => ∃ (p : Addr) (ns : List Int) (i : Int), x = .ref p ∧ xs = [.int i] ∧ SqT X.K H p (ns.map V.int) ∧ Q (.int ((ns.countP fun j => j == i : Nat) : Int)) H) := by
  intro pins s σ H x xs v us Q I rx rs h
  obtain ⟨p, ns, i, rfl, rfl, hq, q⟩ := h
  cases rx
  obtain ⟨u, rfl, t, rfl⟩ := vals1 rs
  obtain ⟨its, r, pl, hz⟩ := I.tuple hq
  obtain ⟨⟨cls, dd, dt, sl⟩, ho, hc, n, hd⟩ := pl
  simp only at hc hd
  subst hc
  subst hd
  refine call_meets PySem.F.slot_tuple_count ⟨_, ho, rfl⟩ PySem.F.entry_tuple_count (PySem.F.args_tuple_count_2 _ _) (PySem.SeqAt.tuple_countAt p its.toArray n dd sl (.int i t) (eqU (.int i)))
    ⟨ho, fun w hw => mem_eqAt (x := .int i) ⟨t, rfl⟩ rfl r (flat_ints' ns) w (by simpa using hw), ⟨.int ((ns.countP fun j => j == i : Nat) : Int), H, I.tok _, ⟨s.toks, by rw [List.toList_toArray, count_int r]⟩, q⟩⟩
end
/-! ### over the mirror -/
def mBMT (r : MRM) (o : MTE) (t : MTA) : MTE := fun env h Q => o env h fun x h1 => (∃ ds, x = .tup ds) ∧ t env h1 fun xs h2 => r x xs h2 Q
def rCount : MRM := fun x xs h Q => match x, xs with
  | .tup ds, [.int i] => ∃ ns : List Int, ds = ns.map .int ∧ Q (.int ((ns.countP fun j => j == i : Nat) : Int)) h
  | _, _ => False
theorem mi_count {X : Cx} : MtI X "tuple.count" rCount := by
  refine ⟨_, mt_tup_count, fun x xs h Q0 vx vs H Q q rh rx rs f => ?_⟩
  unfold rCount at q
  split at q
  · obtain ⟨ns, rfl, q⟩ := q
    obtain ⟨v, rfl, ry⟩ := rs.one
    obtain ⟨a, us, rfl, ta, r⟩ := rx.tup
    have := r.ints
    subst this
    rw [ry.int]
    exact ⟨a, ns, _, rfl, rfl, ta, fin_at f q rh rv_int⟩
  · exact q.elim
section
variable {X : Cx} {Hb : Hp} {o e : Expr} {es : List Expr} {mo : MTE} {ms : MTA} {name : Str} {apos cpos : Pos} {id : String} {r : MRM}
theorem ie_bmT (slot : Slot "tuple" name id) (hty : typeOf (.builtin id) = pure (.type "method_descriptor")) (hm : MtI X id r) (ho : IE X Hb o mo) (ha : IA X Hb (e :: es) ms)
    (hbase : attributeBase o name X.env (eval o X.env) = eval o X.env := by rfl)
    (hfew : ((backTo cpos (starEach (e :: es) X.env)).all (fun x => !x.1) && (backToKw cpos (keywordEach [] X.env)).all (fun x => x.1.isSome)
      && decide ((e :: es).length + ([] : List Keyword).length + (if ([] : List Keyword).isEmpty then 0 else 1) < 30)) = true := by rfl)
    (hline : (apos.endLine == cpos.line) = true := by rfl) (hs : starEach (e :: es) X.env = (false, eval e X.env) :: starEach es X.env := by rfl) (hplain : (backTo cpos (starEach es X.env)).any (·.1) = false := by rfl) :
    IE X Hb (.Call (.Attribute o name apos) (e :: es) [] cpos) (mBMT r mo ms) := by
  obtain ⟨R, hR, hi⟩ := hm
  refine pe_w (pe_bmT slot hty hR ho ha hbase hfew hline hs hplain) fun σ H Q ⟨env, h, Q0, re, rh, m, f⟩ => ?_
  refine ⟨env, h, _, re, rh, m, fun x h1 ⟨⟨ds, ty⟩, q⟩ vx H1 t1 r1 rx => ⟨?_, ?_⟩⟩
  · subst ty
    obtain ⟨a, us, rfl, ta, _⟩ := rx.tupN
    exact ⟨a, us, rfl, ta⟩
  refine ⟨env, h1, _, re.mono t1, r1, q, fun ds h2 q2 vs H2 t2 r2 rs => ?_⟩
  exact hi x ds h2 Q0 vx vs H2 Q q2 r2 (rx.mono t2) rs (Fin.mono (t1.trans t2) f)
end
theorem q_count {ds : List D} {i : Int} {h : MH} {Q : MQ} : rCount (.tup ds) [.int i] h Q = ∃ ns : List Int, ds = ns.map .int ∧ Q (.int ((ns.countP fun j => j == i : Nat) : Int)) h := rfl
end M

namespace M
open PySem PySem.Spec PyProof PyProof.Rows L2
/-! ### a, b, c = x, y, z -/
def mPar3 (i j l : Nat) (a b c : MTE) : MTS := fun D' env h => a env h fun x h1 => b env h1 fun y h2 => c env h2 fun z h3 => D'.nx (((env.set i (some x)).set j (some y)).set l (some z)) h3
section
variable {X : Cx} {Hb : Hp} {a b c : Expr} {ma mb mc : MTE} {pos : Pos}
theorem is_par3 (i j l : Nat) {x y z : Str} {px py pz pt : Pos} {kt k2 pt2} (hc : X.calm = true) (hN : X.N.Nodup) (ha : IE X Hb a ma) (hb : IE X Hb b mb) (hcc : IE X Hb c mc)
    (hi : X.N[i]? = some x := by rfl) (hj : X.N[j]? = some y := by rfl) (hl : X.N[l]? = some z := by rfl) (hij : i ≠ j := by decide) (hil : i ≠ l := by decide) (hjl : j ≠ l := by decide)
    (hx : X.env.scope.names.lookup x = some .local := by rfl) (hy : X.env.scope.names.lookup y = some .local := by rfl) (hz : X.env.scope.names.lookup z = some .local := by rfl)
    (hw : swappedStores [.Tuple [.Name x px, .Name y py, .Name z pz] kt pt] (.Tuple [a, b, c] k2 pt2) X.env = pure (some [x, y, z]) := by rfl)
    (hs : swapsWithSole [.Tuple [.Name x px, .Name y py, .Name z pz] kt pt] (.Tuple [a, b, c] k2 pt2) pos.line X.env = pure false := by rfl)
    (hA : starEach [a, b, c] X.env = (false, eval a X.env) :: starEach [b, c] X.env := by rfl) (hB : starEach [b, c] X.env = (false, eval b X.env) :: starEach [c] X.env := by rfl) (hC : starEach [c] X.env = (false, eval c X.env) :: starEach [] X.env := by rfl) :
    IS X Hb (.Assign [.Tuple [.Name x px, .Name y py, .Name z pz] kt pt] (.Tuple [a, b, c] k2 pt2) pos) (mPar3 i j l ma mb mc) := by
  refine is_of (ps_par3 hc hN hi hj hl hij hil hjl hx hy hz (ia_cons ha (ia_cons hb (ia_cons hcc ia_nil hC) hB) hA) hw hs) fun D' σ H env h D0 re rh m f => ?_
  refine ⟨env, h, (fun ds h1 => ∃ u w t, ds = [u, w, t] ∧ D0.nx (((env.set i (some u)).set j (some w)).set l (some t)) h1), re, rh, ?_, ?_⟩
  · show ma env h fun u h1 => mb env h1 fun w h2 => mc env h2 fun t h3 => ∃ u' w' t', [u, w, t] = [u', w', t'] ∧ _
    have m' : ma env h fun x h1 => mb env h1 fun y h2 => mc env h2 fun z h3 => D0.nx (((env.set i (some x)).set j (some y)).set l (some z)) h3 := m
    have e : (fun u h1 => mb env h1 fun w h2 => mc env h2 fun t h3 => ∃ u' w' t', [u, w, t] = [u', w', t'] ∧ D0.nx (((env.set i (some u')).set j (some w')).set l (some t')) h3) = (fun x h1 => mb env h1 fun y h2 => mc env h2 fun z h3 => D0.nx (((env.set i (some x)).set j (some y)).set l (some z)) h3) := by
      funext u h1
      refine congrArg _ ?_
      funext w h2
      refine congrArg _ ?_
      funext t h3
      refine propext ⟨?_, fun q => ⟨u, w, t, rfl, q⟩⟩
      rintro ⟨u', w', t', z, q⟩
      cases z
      exact q
    rw [e]
    exact m'
  · rintro ds h1 ⟨u, w, t, rfl, q⟩ vs H1 t1 r1 rs
    obtain ⟨v1, vs1, rfl, q1, rs1⟩ := rs.inv
    obtain ⟨v2, vs2, rfl, q2, rs2⟩ := rs1.inv
    obtain ⟨v3, vs3, rfl, q3, rs3⟩ := rs2.inv
    have := rs3.inv0
    subst this
    exact ⟨v1, v2, v3, rfl, f.nx _ _ q _ H1 t1 ((((re.mono t1).set i q1).set j q2).set l q3) r1⟩
end
theorem par3_ {i j l : Nat} {a b c : MTE} {D' : MEnds} {env : ME} {h : MH} (k : a env h fun x h1 => b env h1 fun y h2 => c env h2 fun z h3 => D'.nx (((env.set i (some x)).set j (some y)).set l (some z)) h3) : mPar3 i j l a b c D' env h := k
end M

namespace M
open PySem PySem.Spec PyProof PyProof.Rows L2
/-! ### t.index(i), t of ints -/
section
variable {X : Cx}
theorem mt_tup_indexI : MtR X "tuple.index" (fun x xs H Q => ∃ (p : Addr) (ns : List Int) (i : Int) (j : Nat), x = .ref p ∧ xs = [.int i] ∧ SqT X.K H p (ns.map V.int) ∧ ns[j]? = some i ∧ (∀ m, m < j → ns[m]? ≠ some i) ∧ Q (.int ((j : Nat) : Int)) H) := by
  intro pins s σ H x xs v us Q I rx rs h
  obtain ⟨p, ys, z, j, rfl, rfl, hq, hy, hno, q⟩ := h
  cases rx
  obtain ⟨u, rfl, t, rfl⟩ := vals1 rs
  obtain ⟨its, r, pl, hz⟩ := I.tuple hq
  obtain ⟨⟨cls, dd, dt, sl⟩, ho, hc, n, hd⟩ := pl
  simp only at hc hd
  subst hc
  subst hd
  have hl : its.toArray.size = ys.length := by rw [List.size_toArray, ← r.length, List.length_map]
  have hj : j < its.toArray.size := by rw [hl]; exact (List.getElem?_eq_some_iff.mp hy).1
  have at' : ∀ (m : Nat) (hm : m < its.toArray.size), ∃ y t', ys[m]? = some y ∧ its.toArray[m] = Value.int y t' := fun m hm => by
    have hm' : m < ys.length := by rw [← hl]; exact hm
    obtain ⟨w, hw, t', hw'⟩ := r.get (i := m) (x := .int ys[m]) (by simp [hm'])
    refine ⟨ys[m], t', List.getElem?_eq_getElem hm', ?_⟩
    have e := (List.getElem?_eq_some_iff.mp hw).2
    rw [← hw', ← e]
    simp
  refine call_meets PySem.F.slot_tuple_index ⟨_, ho, rfl⟩ PySem.F.entry_tuple_index (PySem.F.args_tuple_index_2 _ _) (TI.tuple_indexAt p its.toArray n dd sl (.int z t) (eqU (.int z)) j hj ?_ ?_)
    ⟨ho, fun w hw => mem_eqAt (x := .int z) ⟨t, rfl⟩ rfl r (flat_ints' ys) w (by simpa using hw), ⟨.int (j : Nat), H, I.tok _, ⟨_, rfl⟩, q⟩⟩
  · obtain ⟨y, t', h1, h2⟩ := at' j hj
    rw [hy] at h1
    cases h1
    rw [h2]
    show (z == z) = true
    exact beq_self_eq_true z
  · intro m hm hmj
    obtain ⟨y, t', h1, h2⟩ := at' m hm
    rw [h2]
    show (y == z) = false
    exact beq_eq_false_iff_ne.mpr fun e => hno m hmj (e ▸ h1)
end
def rIndex : MRM := fun x xs h Q => match x, xs with
  | .tup ds, [.int i] => ∃ (ns : List Int) (j : Nat), ds = ns.map .int ∧ ns[j]? = some i ∧ (∀ m, m < j → ns[m]? ≠ some i) ∧ Q (.int ((j : Nat) : Int)) h
  | _, _ => False
theorem mi_index {X : Cx} : MtI X "tuple.index" rIndex := by
  refine ⟨_, mt_tup_indexI, fun x xs h Q0 vx vs H Q q rh rx rs f => ?_⟩
  unfold rIndex at q
  split at q
  · obtain ⟨ns, j, rfl, h1, h2, q⟩ := q
    obtain ⟨v, rfl, ry⟩ := rs.one
    obtain ⟨a, us, rfl, ta, r⟩ := rx.tup
    have := r.ints
    subst this
    rw [ry.int]
    exact ⟨a, ns, _, j, rfl, rfl, ta, h1, h2, fin_at f q rh rv_int⟩
  · exact q.elim
theorem q_index {ds : List D} {i : Int} {h : MH} {Q : MQ} : rIndex (.tup ds) [.int i] h Q = ∃ (ns : List Int) (j : Nat), ds = ns.map .int ∧ ns[j]? = some i ∧ (∀ m, m < j → ns[m]? ≠ some i) ∧ Q (.int ((j : Nat) : Int)) h := rfl
end M

namespace M
open PySem L2
/-! ### list(range(a, b)) -/
def mLstR2 (a b : MTE) : MTE := fun env h Q => a env h fun x h1 => b env h1 fun y h2 => ∃ i j, x = .int i ∧ y = .int j ∧ RgOk i j ∧ ∀ p, h2 p = none → Q (.ref p) (up h2 p (.lst ((rgI i j).map .int)))
section
variable {X : Cx} {Hb : Hp} {a b : Expr} {ma mb : MTE} {pos p p2 pa : Pos}
theorem ie_lstR2 (hm : X.mg "list" = none) (hr : X.mg "range" = none) (ha : IE X Hb a ma) (hb : IE X Hb b mb) (hc : X.calm = true := by rfl) (hg : Gl X "list" := by rfl) (hg2 : Gl X "range" := by rfl) (na : starEach [a, b] X.env = (false, eval a X.env) :: starEach [b] X.env := by rfl)
    (nb : starEach [b] X.env = (false, eval b X.env) :: starEach [] X.env := by rfl) (hp : (backTo pa (starEach [b] X.env)).any (·.1) = false := by rfl)
    (na2 : starEach [.Call (.Name "range" p2) [a, b] [] pa] X.env = (false, eval (.Call (.Name "range" p2) [a, b] [] pa) X.env) :: starEach [] X.env := by rfl) : IE X Hb (.Call (.Name "list" p) [.Call (.Name "range" p2) [a, b] [] pa] [] pos) (mLstR2 ma mb) := by
  refine pe_w (pe_listRg hc hg hm (prg_2 hg2 hr ha hb na nb hp) na2) fun σ H Q ⟨env, h, Q0, re, rh, m, f⟩ => ?_
  refine ⟨env, h, _, re, rh, m, ?_⟩
  rintro d h1 q1 v H1 t1 r1 rx
  refine ⟨env, h1, _, re.mono t1, r1, q1, ?_⟩
  rintro d2 h2 ⟨i, j, rfl, rfl, ok, q⟩ v2 H2 t2 r2 rx2
  rw [(rx.mono t2).int, rx2.int]
  refine ⟨i, j, rfl, rfl, ok, fun p np => ?_⟩
  rw [rgV_ints]
  exact f _ _ (q p (r2.free np)) _ _ ((t1.trans t2).trans (.new np)) (r2.new np (ro_lst .of_ints)) rv_ref
end
end M

namespace M
open PySem L2
/-! ### x not in a list of tuples -/
def rInP (neg : Bool) : MR2 := fun x y h Q => match y with
  | .ref a => ∃ ds, h a = some (.lst ds) ∧ Pu 9 x ∧ (∀ z ∈ ds, Pu 9 z) ∧ ∀ b, (b = true ↔ x ∈ ds) → Q (.bl (if neg then !b else b)) h
  | _ => False
theorem any_pu {h : MH} {x : D} {p : PyData} (px : Pu 9 x) (dx : DP h x p) : ∀ {ds : List D} {ps : List PyData}, (∀ z ∈ ds, Pu 9 z) → DPs h ds ps → ((ps.any fun z => PyData.eqv z p) = true ↔ x ∈ ds)
  | [], _, _, .nil => by simp
  | d :: ds, _, k, .cons a b => by
    rw [List.any_cons, Bool.or_eq_true, any_pu px dx (fun z hz => k z (List.mem_cons_of_mem _ hz)) b, pu_eqv 9 d x _ _ (k d (by simp)) px a dx, List.mem_cons]
    exact ⟨fun h => h.elim (fun e => .inl e.symm) .inr, fun h => h.elim (fun e => .inl e.symm) .inr⟩
theorem room65 {k : Nat} {A : Around} (r : Room k A) : A.units + 65 < cLine := by have := r.un; omega
section
variable {X : Cx}
theorem om_notInP (hu : X.A.units + 65 < cLine) : OpM X (compareOp .NotIn) (rInP true) := by
  refine ⟨_, op_notInD hu, fun x y h Q0 vx vy H Q q rh rx ry f => ?_⟩
  cases y <;> first | exact q.elim | skip
  rename_i a
  obtain ⟨ds, e, px, pd, q⟩ := q
  obtain ⟨p, a1, a2, a3⟩ := pu_dp (h := h) 9 x px
  obtain ⟨ps, b1, b2, b3⟩ := dps_pu (h := h) pd
  exact ⟨p, ps, a1.dp rh rx, (DP.lst e b1).dp rh ry, shaped_of a2 a3 (by decide), b2, fin_at f (q _ (any_pu px a1 pd b1)) rh rv_bl⟩
end
theorem q_inP {a : Addr} {x : D} {h : MH} {Q : MQ} : rInP true x (.ref a) h Q = (∃ ds, h a = some (.lst ds) ∧ Pu 9 x ∧ (∀ z ∈ ds, Pu 9 z) ∧ ∀ b, (b = true ↔ x ∈ ds) → Q (.bl (!b)) h) := rfl
end M

namespace SrtO
open PySem PySem.Spec PyProof PyProof.Rows
variable {prog : Program} {w : World} {A : Around} {s : Shared} {E : Value → Shared → Prop}
theorem collect_tup {l : Addr} {vs : List Value} {Q : List Value → Shared → Prop} (hl : IsTup s.heap l vs.toArray)
    (h : Q vs { s with heap := (s.heap.push (seqObj "list" #[] 0)).update s.heap.objs.size (Obj.mapSeq (· ++ vs.toArray)) }) (hsz : vs.length ≤ sizeLine) :
    wpAny (model prog w) A (collect (.ref l)) Q E s := by
  obtain ⟨o, ho, hc, n, hd⟩ := id hl
  unfold collect
  refine wpAny_bind (wpAny_runValue (codeAny_builtin entry_proto_collect' ?_))
  show wpAny _ _ (do again (.builtin "list.__iadd__" ⟨[← newList [], .ref l], []⟩)) _ _ s
  refine wpAny_bind (wpAny_newList (wpAny_pure ⟨Code.quiet_builtin _ (by decide +kernel), codeAny_builtin entry_list_iadd' ?_⟩))
  show wpAny _ _ (Builtin.List.listExtendWith (.ref s.heap.objs.size) (.ref l) (.ref s.heap.objs.size)) _ _ { s with heap := s.heap.push (seqObj "list" #[] 0) }
  unfold Builtin.List.listExtendWith
  have ho' : (s.heap.push (seqObj "list" #[] 0)).get? l = some o := Heap.get?_push_of_some _ ho
  refine wpAny_bind (wpAny_typeOf (T := "tuple") ⟨o, ho', hc⟩ ?_)
  have ht : (Value.type "tuple" == Value.type "tuple") = true := by rfl
  rw [if_pos (by rw [ht]; simp)]
  refine wpAny_bind (listItems_at ho' hd ?_)
  refine wpAny_bind (listItems_at (xs := #[]) (n := 0) (Heap.get?_push_size _ rfl) rfl ?_)
  rw [if_neg (by simp)]
  refine wpAny_bind (listUpdate_at (xs := #[]) (n := 0) (Heap.get?_push_size _ rfl) rfl ?_ (Nat.zero_le _) (by show (#[] ++ vs.toArray).size ≤ sizeLine + 1; simp only [Array.size_append, List.size_toArray, List.length_nil]; omega))
  refine wpAny_pure ?_
  show wpAny (model prog w) A (do
      let o ← load s.heap.objs.size
      match o.data with
      | .seq xs _ => pure xs.toList
      | _ => unsupported "internal:collect") Q E { s with heap := (s.heap.push (seqObj "list" #[] 0)).update s.heap.objs.size (Obj.mapSeq (· ++ vs.toArray)) }
  refine wpAny_bind (wpAny_load (get?_update_seq (Heap.get?_push_size _ rfl) _) ?_)
  show wpAny _ _ (pure ((#[] : Array Value) ++ vs.toArray).toList) Q E _
  rw [show ((#[] : Array Value) ++ vs.toArray).toList = vs by simp]
  exact wpAny_pure h
theorem sorted_ordT {l : Addr} {vs : List Value} {ltv : Value → Value → Bool} {Q : Value → Shared → Prop} (O : Swo ltv) (hl : IsTup s.heap l vs.toArray) (hz : vs.length ≤ sizeLine)
    (hS : 2 ≤ vs.length → ∀ (h₁ : Heap) (a : Addr), h₁.get? a = some (seqObj "list" vs.toArray 0) → (∀ b o, s.heap.get? b = some o → b ≠ a ∧ h₁.get? b = some o) → SortableO prog w A.in1.in1 { s with heap := h₁ } a vs ltv)
    (h : ∀ out : List Value, Srtd ltv out → Stb ltv out vs → Q (.ref (s.heap.objs.size + 1)) { s with heap := sortedAll s.heap vs out.toArray }) :
    wpAny (model prog w) A (call (.builtin "sorted") [.ref l]) Q E s := by
  refine Calls.call_function_entry kind_sorted plain_sorted entry_sorted (args_sorted1 _) ?_
  unfold Builtin.«sorted»
  refine wpAny_bind (m := checkCount "sorted" 1 1 _) (wpAny_pure ?_)
  refine wpAny_bind (collect_tup hl ?_ hz)
  refine wpAny_bind (wpAny_newList ?_ hz)
  have hsz : ((s.heap.push (seqObj "list" #[] 0)).update s.heap.objs.size (Obj.mapSeq (· ++ vs.toArray))).objs.size = s.heap.objs.size + 1 := by
    rw [Heap.size_update, size_push']
  have hoL : (((s.heap.push (seqObj "list" #[] 0)).update s.heap.objs.size (Obj.mapSeq (· ++ vs.toArray))).push (seqObj "list" vs.toArray 0)).get? (s.heap.objs.size + 1) = some (seqObj "list" vs.toArray 0) := by
    rw [← hsz]; exact Heap.get?_push_size _ rfl
  have keep : ∀ b o, s.heap.get? b = some o → b ≠ s.heap.objs.size + 1 ∧ (((s.heap.push (seqObj "list" #[] 0)).update s.heap.objs.size (Obj.mapSeq (· ++ vs.toArray))).push (seqObj "list" vs.toArray 0)).get? b = some o := fun b o q => by
    have hlt : b < s.heap.objs.size := Heap.lt_size q
    refine ⟨Nat.ne_of_lt (Nat.lt_succ_of_lt hlt), Heap.get?_push_of_some _ ?_⟩
    rw [Heap.get?_update_ne _ _ _ _ (Nat.ne_of_lt hlt)]
    exact Heap.get?_push_of_some _ q
  show wpAny _ _ _ _ _ { s with heap := ((s.heap.push (seqObj "list" #[] 0)).update s.heap.objs.size (Obj.mapSeq (· ++ vs.toArray))).push (seqObj "list" vs.toArray 0) }
  rw [hsz]
  refine wpAny_bind (wpAny_holding (wpAny_call_entry slot_list_sort ⟨_, hoL, rfl⟩ entry_list_sort (list_sort_ord O hoL hz (fun h2 => hS h2 _ _ hoL keep) fun out hs hb => ⟨_, rfl, ?_⟩) (args_list_sort _)))
  exact wpAny_pure ⟨_, rfl, h out hs hb⟩
end SrtO
namespace M
open PySem L2 PySem.Spec PyProof PyProof.Rows
section
variable {X : Cx}
theorem cr_sortedIT : CallR X (.builtin "sorted") (fun vs H Q => ∃ (a : Addr) (ns : List Int), vs = [V.ref a] ∧ SqT X.K H a (ns.map V.int) ∧
    ∀ (ns' : List Int) (p : Addr), ns'.Perm ns → ns'.Pairwise (· ≤ ·) → H p = none → Q (.ref p) (upd H p (.lst (ns'.map V.int)))) := by
  intro pins s σ H vs us Q I r h
  obtain ⟨a, ns, rfl, hs, q⟩ := h
  obtain ⟨its, rv, hl, hz⟩ := I.tuple hs
  rw [Vals.ref1 r]
  have hi := rv.ints
  refine SrtO.sorted_ordT SrtO.swo_int hl (by rw [← rv.length]; exact hz) (fun h2 h₁ a' _ _ => SrtO.ints_sortable hi h2) fun out h1 h2 => ?_
  obtain ⟨k1, k2, k3⟩ := SrtO.ints_out hi h1 h2
  obtain ⟨ep, he'⟩ := PyProof.Rows.sortedAll_at s.heap its out.toArray
  have hlen : ((out.map SrtO.iv).map V.int).length ≤ sizeLine := by
    rw [List.length_map, k2.length_eq]
    rw [List.length_map] at hz
    exact hz
  exact ⟨.ref _, upd H (s.heap.objs.size + 1) (.lst ((out.map SrtO.iv).map V.int)), I.laid (t' := s.toks) (fun _ _ => PyProof.Rows.sortedAll_old) (Nat.le_succ _) ⟨hlen, out, ep, vals_of_ints k1, he'⟩, rfl, q _ _ k2 k3 (I.hok.fresh (Nat.le_succ _))⟩
def rSortedTp : MRA := fun xs h Q => match xs with
  | [.tup ds] => ∃ ns : List Int, ds = ns.map .int ∧ ∀ (ns' : List Int) p, ns'.Perm ns → ns'.Pairwise (· ≤ ·) → h p = none → Q (.ref p) (up h p (.lst (ns'.map .int)))
  | _ => False
theorem cm_sortedTp : CaM X (.builtin "sorted") rSortedTp := by
  refine ⟨_, cr_sortedIT, fun xs h Q0 vs H Q q rh rs f => ?_⟩
  unfold rSortedTp at q
  split at q
  · obtain ⟨v, rfl, rx⟩ := rs.one
    obtain ⟨ns, rfl, q⟩ := q
    obtain ⟨a, vs, rfl, ta, rs⟩ := rx.tup
    rw [rs.ints] at ta
    exact ⟨a, ns, rfl, ta, fun ns' p h1 h2 np => f _ _ (q ns' p h1 h2 (rh.free np)) _ _ (.new np) (rh.new np (ro_lst .of_ints)) rv_ref⟩
  · exact q.elim
def rIndexL : MRM := fun x xs h Q => match x, xs with
  | .ref a, [.int i] => ∃ (ns : List Int) (j : Nat), h a = some (.lst (ns.map .int)) ∧ ns[j]? = some i ∧ (∀ m, m < j → ns[m]? ≠ some i) ∧ Q (.int ((j : Nat) : Int)) h
  | _, _ => False
theorem mi_indexL : MtI X "list.index" rIndexL := by
  refine ⟨_, mt_index, fun x xs h Q0 vx vs H Q q rh rx rs f => ?_⟩
  unfold rIndexL at q
  split at q
  · obtain ⟨ns, j, e, h1, h2, q⟩ := q
    obtain ⟨v, rfl, ry⟩ := rs.one
    rw [rx.ref, ry.int]
    obtain ⟨ws, E, rs⟩ := rh.lst e
    rw [rs.ints] at E
    have fl : ∀ ns : List Int, (ns.map V.int).all flatV = true := fun ns => by induction ns with
      | nil => rfl
      | cons a r ih => rw [List.map_cons, List.all_cons, ih]; rfl
    refine ⟨_, ns.map V.int, _, j, _, rfl, rfl, .of E, rfl, fl ns, by rw [List.getElem?_map, h1]; rfl, by simp [eqV], fun m z' hm hz => ?_, fin_at f q rh rv_int⟩
    rw [List.getElem?_map] at hz
    cases e2 : ns[m]? with
    | none => rw [e2] at hz; cases hz
    | some y =>
      rw [e2] at hz
      cases hz
      have := h2 m hm
      rw [e2] at this
      have ny : ¬ y = _ := fun e => this (by rw [e])
      simp only [eqV, beq_eq_false_iff_ne, ne_eq]
      exact ny
  · exact q.elim
end
theorem q_indexL {a : Addr} {i : Int} {h : MH} {Q : MQ} : rIndexL (.ref a) [.int i] h Q = (∃ (ns : List Int) (j : Nat), h a = some (.lst (ns.map .int)) ∧ ns[j]? = some i ∧ (∀ m, m < j → ns[m]? ≠ some i) ∧ Q (.int ((j : Nat) : Int)) h) := rfl
theorem q_sortedTp {ds : List D} {h : MH} {Q : MQ} : rSortedTp [.tup ds] h Q = (∃ ns : List Int, ds = ns.map .int ∧ ∀ (ns' : List Int) p, ns'.Perm ns → ns'.Pairwise (· ≤ ·) → h p = none → Q (.ref p) (up h p (.lst (ns'.map .int)))) := rfl
end M

namespace M
open PySem PySem.Spec PyProof.Rows L2
/-- a tuple and a list, the items in new pairs -/
def ItzM (K : PySem.W.Frag) (a b : Addr) : It :=
  ⟨fun i H => ∃ (xs ys : List V) (x y : V), SqT K H a xs ∧ SqL K H b ys ∧ xs[i]? = some x ∧ ys[i]? = some y,
    fun i H v H' => ∃ T x y, v = .ref T ∧ H T = none ∧ H' = upd H T (.tup [x, y]) ∧ (∀ xs, SqT K H a xs → xs[i]? = some x) ∧ ∀ ys, SqL K H b ys → ys[i]? = some y,
    fun i H => ∃ xs ys : List V, SqT K H a xs ∧ SqL K H b ys ∧ i = min xs.length ys.length⟩
theorem sepM {z TI TO i1 i2 a b : Addr} (D : ZipApart z TI TO i1 i2 a b) : ZipSep2 z TI TO i1 i2 [i1, a] [i2, b] where
  TIz := D.TIz
  TOz := D.TOz
  TITO := D.TITO
  TIi1 := D.TIi1
  mem1 := by simp
  zf1 := by simp only [List.mem_cons, List.not_mem_nil, or_false, not_or]; exact ⟨D.i1z.symm, D.l1z.symm⟩
  Tf1 := by simp only [List.mem_cons, List.not_mem_nil, or_false, not_or]; exact ⟨D.TOi1, D.l1TO.symm⟩
  TIi2 := D.TIi2
  mem2 := by simp
  zf2 := by simp only [List.mem_cons, List.not_mem_nil, or_false, not_or]; exact ⟨D.i2z.symm, D.l2z.symm⟩
  Tf2 := by simp only [List.mem_cons, List.not_mem_nil, or_false, not_or]; exact ⟨D.TOi2, D.l2TO.symm⟩
  sep1_2 := by simp only [List.mem_cons, List.not_mem_nil, or_false, not_or]; exact ⟨D.i12, D.l2i1.symm⟩
  sep2_1 := by simp only [List.mem_cons, List.not_mem_nil, or_false, not_or]; exact ⟨D.i12.symm, D.l1i2.symm⟩
theorem turn_zipM {P : Program} {w : World} {K : PySem.W.Frag} {elts : List Expr} {kk : Nat} {tpos : Pos} {a b z TI TO i1 i2 : Addr} (D : ZipApart z TI TO i1 i2 a b) :
    Turn P w K (.Tuple elts kk tpos) (ItzM K a b) [z, TI, TO, i1, i2] z (fun i h => IsZip h z TI TO .none ∧ IsPair h TI (.ref i1) (.ref i2) ∧ (∃ x y, IsPair h TO x y) ∧ h.IsTupleIter i1 a i ∧ h.IsListIter i2 b i) where
  mem := by simp
  obj := fun i h st c hc => by
    obtain ⟨hz, hTI, ⟨x, y, hTO⟩, ⟨o1, e1, _, d1⟩, ⟨o2, e2, _, d2⟩⟩ := st
    have e' : c = z ∨ c = TI ∨ c = TO ∨ c = i1 ∨ c = i2 := by simpa using hc
    rcases e' with q | q | q | q | q
    · rw [q]; exact ⟨_, hz, fun v q => nomatch q⟩
    · rw [q]; exact ⟨_, hTI, fun v q => nomatch q⟩
    · rw [q]; exact ⟨_, hTO, fun v q => nomatch q⟩
    · rw [q]; exact ⟨o1, e1, fun v q => by rw [d1] at q; cases q⟩
    · rw [q]; exact ⟨o2, e2, fun v q => by rw [d2] at q; cases q⟩
  keep := fun i h h' st k => by
    obtain ⟨hz, hTI, ⟨x, y, hTO⟩, h1, h2⟩ := st
    exact ⟨k z (by simp) _ hz, k TI (by simp) _ hTI, ⟨x, y, k TO (by simp) _ hTO⟩, h1.at fun o q => k i1 (by simp) o q, h2.at fun o q => k i2 (by simp) o q⟩
  item := by
    intro X hP hw hK hc i pins s σ H E I hf st hg
    subst hP hw hK
    obtain ⟨hz, hTI, ⟨x0, y0, hTO⟩, h1, h2⟩ := st
    obtain ⟨xs, ys, x, y, hqx, hqy, hx, hy⟩ := hg
    obtain ⟨its, rv, p, _⟩ := I.tuple hqx
    obtain ⟨its2, rv2, p2, _⟩ := I.list hqy
    obtain ⟨u, hu, ru⟩ := rv.get hx
    obtain ⟨u2, hu2, ru2⟩ := rv2.get hy
    have hzl : z < s.heap.objs.size := Heap.lt_size hz
    have hh : X.A.in1.handled = none := I.ok.hd hc
    have q1 : i < its.toArray.size := by
      rw [List.size_toArray]; exact (List.getElem?_eq_some_iff.mp hu).1
    have q2 : i < its2.toArray.size := by
      rw [List.size_toArray]; exact (List.getElem?_eq_some_iff.mp hu2).1
    refine wpAny_pyNext_zipD2_item (sepM D) (Draws.tuple hh i1 a D.l1i1 its.toArray) (Draws.list hh i2 b D.l2i2 its2.toArray) hz hTI hTO ⟨h1, p⟩ ⟨h2, p2.isList⟩ q1 q2 fun w1 w2 h' tk y1 y2 z' TO' d1 d2 hT hsz hk => ?_
    obtain ⟨h1', _⟩ := d1
    obtain ⟨h2', _⟩ := d2
    have y1 : its.toArray[i]? = some w1 := y1
    have y2 : its2.toArray[i]? = some w2 := y2
    have v1 : w1 = u := by
      have : its[i]? = some w1 := by simpa using y1
      rw [hu] at this; cases this; rfl
    have v2 : w2 = u2 := by
      have : its2[i]? = some w2 := by simpa using y2
      rw [hu2] at this; cases this; rfl
    subst v1 v2
    refine ⟨_, rfl, wpAny_letOwnedTupleGo_zip (s := { s with heap := h', toks := tk }) z' fun h'' z'' sb => ?_⟩
    have hT2 : h''.get? s.heap.objs.size = some { cls := .type "tuple", data := .seq #[w1, w2] } := (sb.2 _ (Nat.ne_of_gt hzl)).trans hT
    have new : ObjOk X.prog X.w (upd H s.heap.objs.size (.tup [x, y])) h'' s.heap.objs.size (.tup [x, y]) :=
      ⟨by show 2 ≤ sizeLine; decide, [w1, w2], .cons ru (.cons ru2 .nil), ⟨_, hT2, rfl, _, rfl⟩⟩
    have I1 : Inv X pins σ (upd H s.heap.objs.size (.tup [x, y])) { s with heap := h'', toks := tk } :=
      I.turnedNew (t' := tk) (ch := [z, TI, TO, i1, i2]) (fun c o hb q => (sb.2 c (fun q' => hb (by simp [q']))).trans (hk c o (fun q' => hb (by simp [q'])) (fun q' => hb (by simp [q'])) (fun q' => hb (by simp [q'])) (fun q' => hb (by simp [q'])) q)) hf (Nat.le_refl _) new
    refine ⟨.ref s.heap.objs.size, _, I1, rfl, ⟨_, x, y, rfl, I.hok.fresh (Nat.le_refl _), rfl, fun l hl => by rw [I.tuple_inj hl hqx]; exact hx, fun l hl => by rw [I.list_inj hl hqy]; exact hy⟩, ⟨z'', ?_, ⟨w1, w2, ?_⟩, ?_, ?_⟩, fun c hcm => ?_⟩
    · exact (sb.2 _ D.TIz).trans (hk _ _ D.TIz D.TITO D.TIi1 D.TIi2 hTI)
    · exact (sb.2 _ D.TOz).trans TO'
    · exact h1'.at fun o q => (sb.2 _ D.i1z).trans q
    · exact h2'.at fun o q => (sb.2 _ D.i2z).trans q
    · have hlt : c < s.heap.objs.size := by
        have e' : c = z ∨ c = TI ∨ c = TO ∨ c = i1 ∨ c = i2 := by simpa using hcm
        rcases e' with q | q | q | q | q
        · rw [q]; exact hzl
        · rw [q]; exact Heap.lt_size hTI
        · rw [q]; exact Heap.lt_size hTO
        · rw [q]; obtain ⟨_, e1, _⟩ := h1; exact Heap.lt_size e1
        · rw [q]; obtain ⟨_, e2, _⟩ := h2; exact Heap.lt_size e2
      rw [upd_ne (Nat.ne_of_lt hlt)]
      exact (hf c hcm).1
  done := by
    intro X hP hw hK hc i pins s σ H E I hf st hg
    subst hP hw hK
    obtain ⟨hz, hTI, ⟨x0, y0, hTO⟩, h1, h2⟩ := st
    obtain ⟨xs, ys, hqx, hqy, hend⟩ := hg
    obtain ⟨its, rv, p, _⟩ := I.tuple hqx
    obtain ⟨its2, rv2, p2, _⟩ := I.list hqy
    have l1 := rv.length
    have l2 := rv2.length
    have hh : X.A.in1.handled = none := I.ok.hd hc
    have z1 : its.toArray.size = xs.length := by rw [List.size_toArray]; omega
    have z2 : its2.toArray.size = ys.length := by rw [List.size_toArray]; omega
    refine wpAny_pyNext_zipD2_end (sepM D) (Draws.tuple hh i1 a D.l1i1 its.toArray) (Draws.list hh i2 b D.l2i2 its2.toArray) hz hTI hTO ⟨h1, p⟩ ⟨h2, p2.isList⟩ (by rw [z1]; omega) (by rw [z2]; omega) (by rw [z1, z2]; omega) fun h' tk hk => ⟨rfl, ?_⟩
    exact I.turnedL (t' := tk) (ch := [z, TI, TO, i1, i2]) (fun c o hb q => hk c o (fun q' => hb (by simp [q'])) (fun q' => hb (by simp [q'])) (fun q' => hb (by simp [q'])) (fun q' => hb (by simp [q'])) q) hf
  self := fun A i s Q E st h => wpAny_pyIter_zip st.1 h
def iZipM (K : PySem.W.Frag) (ta : TA) : TI := fun σ H R => ta σ H fun vs H1 => ∃ a b xs ys, vs = [.ref a, .ref b] ∧ SqT K H1 a xs ∧ SqL K H1 b ys ∧ R (ItzM K a b) H1
theorem pi_zipM {X : Cx} {e e2 : Expr} {ta : TA} {p pos tpos : Pos} {elts : List Expr} {kk : Nat} (hg : Gl X "zip") (hm : X.mg "zip" = none) (ha : PA X [e, e2] ta)
    (hs : starEach [e, e2] X.env = (false, eval e X.env) :: starEach [e2] X.env := by rfl) (hpl : (backTo pos (starEach [e2] X.env)).any (·.1) = false := by rfl) :
    PI X (.Tuple elts kk tpos) (.Call (.Name "zip" p) [e, e2] [] pos) (iZipM X.K ta) := by
  refine ⟨fun pins s σ H R I h => ?_⟩
  refine Call_ (ld_blt I hg hm PyProof.Rows.boot_zip (PyProof.Rows.callWith_type1 (thn (ha.run pos pins s σ H _ I h) fun us s1 ⟨vs, H1, I1, r1, q1⟩ => ?_) hs hpl))
  obtain ⟨a, b, xs, ys, ex, hqx, hqy, q⟩ := q1
  subst ex
  cases r1 with
  | cons r rr =>
    cases rr with
    | cons r' rr =>
      cases rr
      cases r
      cases r'
      have fresh5 : ∀ c, c ∈ [s1.heap.objs.size + 4, s1.heap.objs.size + 2, s1.heap.objs.size + 3, s1.heap.objs.size, s1.heap.objs.size + 1] → FpOk X pins H1 c := fun c hcm => by
        have e' : c = s1.heap.objs.size + 4 ∨ c = s1.heap.objs.size + 2 ∨ c = s1.heap.objs.size + 3 ∨ c = s1.heap.objs.size ∨ c = s1.heap.objs.size + 1 := by simpa using hcm
        have hle : s1.heap.objs.size ≤ c := by
          rcases e' with z | z | z | z | z
          · rw [z]; exact Nat.le_add_right _ _
          · rw [z]; exact Nat.le_add_right _ _
          · rw [z]; exact Nat.le_add_right _ _
          · rw [z]; exact Nat.le_refl _
          · rw [z]; exact Nat.le_add_right _ _
        exact I1.fpOk hle (I1.hok.fresh hle)
      obtain ⟨its, rv, p1, _⟩ := I1.tuple hqx
      obtain ⟨its2, rv2, p2, _⟩ := I1.list hqy
      obtain ⟨o1, ho1, _⟩ := id p1
      refine zip_begins2 (begins_tuple a its.toArray) (begins_list b its2.toArray) (show s1.heap.IsTuple a its.toArray from p1) p2.isList fun h' hz hTI hTO h1 h2 hsz hk => wpAny_pyIter_zip hz ?_
      have I2 : Inv X pins σ H1 { s1 with heap := h' } := I1.kept (t' := s1.toks) hk
      exact ⟨s1.heap.objs.size + 4, [s1.heap.objs.size + 4, s1.heap.objs.size + 2, s1.heap.objs.size + 3, s1.heap.objs.size, s1.heap.objs.size + 1], _, _, H1, rfl, I2, turn_zipM (PySem.W.ktu_apart s1.heap.objs.size a b (Heap.lt_size ho1) p2.lt), ⟨hz, hTI, ⟨_, _, hTO⟩, ⟨_, h1, rfl, rfl⟩, ⟨_, h2, rfl, rfl⟩⟩, fresh5, q⟩
/-! ### zip(tuple, list) -/
def mZipM (a b : MTE) : MTI := fun env h R => a env h fun x h1 => b env h1 fun y h2 => match x, y with
  | .tup ds, .ref b => ∃ es, h2 b = some (.lst es) ∧ R (srcZ ds es fun h => h b = some (.lst es)) h2
  | _, _ => False
theorem so_zM {K : PySem.W.Frag} {H : Hp} {a b : Addr} {ds es : List D} {vs : List V} (ta : SqT K H a vs) (rs : RVs K H ds vs) : SrcOk K H (srcZ ds es fun h => h b = some (.lst es)) (ItzM K a b) where
  go := fun i h H1 t rh ok hi => by
    have hi' : i < min ds.length es.length := hi
    obtain ⟨ws, E2, rt⟩ := rh.lst ok
    obtain ⟨v, e, _⟩ := rs.get (List.getElem?_eq_getElem (show i < ds.length by omega))
    obtain ⟨w, e2, _⟩ := rt.get (List.getElem?_eq_getElem (show i < es.length by omega))
    exact ⟨vs, ws, v, w, sqT_mono t ta, .of E2, e, e2⟩
  yld := fun i h H1 t rh ok hi x H' y => by
    obtain ⟨T, z, z2, e1, n, e2, y, y2⟩ := y
    subst e1 e2
    have hi' : i < min ds.length es.length := hi
    obtain ⟨ws, E2, rt⟩ := rh.lst ok
    obtain ⟨v, e, r⟩ := (rs.mono t).get (getD_some (d := .non) (show i < ds.length by omega))
    obtain ⟨w, f, r2⟩ := rt.get (getD_some (d := .non) (show i < es.length by omega))
    have e2 := y vs (sqT_mono t ta)
    rw [e] at e2
    cases e2
    have f2 := y2 ws (.of E2)
    rw [f] at f2
    cases f2
    exact ⟨.new n, rh.skip n, rv_tw (.of upd_same) (.cons (r.mono (.new n)) (.cons (r2.mono (.new n)) .nil))⟩
  stop := fun h H1 t rh ok => by
    obtain ⟨ws, E2, rt⟩ := rh.lst ok
    refine ⟨vs, ws, sqT_mono t ta, .of E2, ?_⟩
    show min ds.length es.length = min vs.length ws.length
    rw [← rs.length, ← rt.length]
theorem ii_zipM {X : Cx} {Hb : Hp} {a b : Expr} {ma mb : MTE} {p pos tpos : Pos} {elts : List Expr} {kk : Nat} (hm : X.mg "zip" = none) (ha : IE X Hb a ma) (hb : IE X Hb b mb) (hg : Gl X "zip" := by rfl)
    (hs : starEach [a, b] X.env = (false, eval a X.env) :: starEach [b] X.env := by rfl) (hs2 : starEach [b] X.env = (false, eval b X.env) :: starEach [] X.env := by rfl) (hpl : (backTo pos (starEach [b] X.env)).any (·.1) = false := by rfl) :
    II X Hb (.Tuple elts kk tpos) (.Call (.Name "zip" p) [a, b] [] pos) (mZipM ma mb) := by
  refine pi_w (pi_zipM hg hm (pa_cons ha (pa_cons hb pa_nil hs2) hs) hs hpl) fun σ H R ⟨env, h, Q0, re, rh, m, f⟩ => ?_
  refine ⟨env, h, _, re, rh, m, fun x h1 q1 v H1 t1 r1 rx => ?_⟩
  refine ⟨env, h1, _, re.mono t1, r1, q1, fun y h2 q w H2 t2 r2 ry => ?_⟩
  have t12 := t1.trans t2
  have rx2 := rx.mono t2
  cases x <;> cases y <;> first | exact q.elim | skip
  · obtain ⟨a, vs, rfl, ta, rs⟩ := rx2.tup
    obtain ⟨es, e2, q⟩ := q
    rw [ry.ref]
    obtain ⟨ws, E2, rt⟩ := r2.lst e2
    exact ⟨_, _, vs, ws, rfl, ta, .of E2, f _ h2 q _ H2 t12 r2 (so_zM ta rs)⟩
end M

namespace SrtO
open PySem PySem.Spec PyProof PyProof.Rows
variable {prog : Program} {w : World} {A : Around} {s : Shared} {E : Value → Shared → Prop}
/-- sorted(r), of whatever can be gathered -/
theorem sorted_ordG {r : Value} {vs : List Value} {ltv : Value → Value → Bool} {Q : Value → Shared → Prop} (O : Swo ltv) (hz : vs.length ≤ sizeLine)
    (hcol : ∀ (E : Value → Shared → Prop) (R : List Value → Shared → Prop), (∀ h' tk, (∀ b o, s.heap.get? b = some o → h'.get? b = some o) → R vs { s with heap := h', toks := tk }) → wpAny (model prog w) A.in1 (collect r) R E s)
    (hS : 2 ≤ vs.length → ∀ (h₁ : Heap) (tk : Nat) (a : Addr), h₁.get? a = some (seqObj "list" vs.toArray 0) → (∀ b o, s.heap.get? b = some o → b ≠ a ∧ h₁.get? b = some o) → SortableO prog w A.in1.in1 { s with heap := h₁, toks := tk } a vs ltv)
    (h : ∀ (h0 : Heap) (tk : Nat) (h' : Heap) (out : List Value), Srtd ltv out → Stb ltv out vs → (∀ b o, s.heap.get? b = some o → h0.get? b = some o) → (∀ b o, h0.get? b = some o → h'.get? b = some o) → (∃ n, h'.get? h0.objs.size = some (seqObj "list" out.toArray n)) → Q (.ref h0.objs.size) { s with heap := h', toks := tk }) :
    wpAny (model prog w) A (call (.builtin "sorted") [r]) Q E s := by
  refine Calls.call_function_entry kind_sorted plain_sorted entry_sorted (args_sorted1 _) ?_
  unfold Builtin.«sorted»
  refine wpAny_bind (m := checkCount "sorted" 1 1 _) (wpAny_pure ?_)
  refine wpAny_bind (hcol _ _ fun h0 tk hk => ?_)
  refine wpAny_bind (wpAny_newList ?_ hz)
  have hoL : (h0.push (seqObj "list" vs.toArray 0)).get? h0.objs.size = some (seqObj "list" vs.toArray 0) := Heap.get?_push_size _ rfl
  have keep : ∀ b o, s.heap.get? b = some o → b ≠ h0.objs.size ∧ (h0.push (seqObj "list" vs.toArray 0)).get? b = some o := fun b o q =>
    ⟨Nat.ne_of_lt (Heap.lt_size (hk b o q)), Heap.get?_push_of_some _ (hk b o q)⟩
  show wpAny _ _ _ _ _ { s with heap := h0.push (seqObj "list" vs.toArray 0), toks := tk }
  refine wpAny_bind (wpAny_holding (wpAny_call_entry slot_list_sort ⟨_, hoL, rfl⟩ entry_list_sort
    (list_sort_ord (s := { s with heap := h0.push (seqObj "list" vs.toArray 0), toks := tk }) O hoL hz (fun h2 => hS h2 _ tk _ hoL keep) fun out hs hb => ⟨_, rfl, ?_⟩) (args_list_sort _)))
  refine wpAny_pure ⟨_, rfl, h h0 tk _ out hs hb hk (fun b u e => ?_) (sortedHeap_at hoL)⟩
  have hb : b < h0.objs.size := Heap.lt_size e
  rw [sortedHeap_old (Nat.ne_of_lt hb) (by rw [size_push']; exact Nat.lt_succ_of_lt hb)]
  exact Heap.get?_push_of_some _ e
end SrtO
namespace M
open PySem L2 PySem.Spec PyProof PyProof.Rows
abbrev pD (p : Int × Int) : D := .tup [.int p.1, .int p.2]
def leP (p q : Int × Int) : Prop := p.1 < q.1 ∨ (p.1 = q.1 ∧ p.2 ≤ q.2)
section
variable {X : Cx} {pins : List (Addr × Obj)} {σ : L2.St} {H : Hp} {s : Shared}
theorem pair_of (I : Inv X pins σ H s) {p : Int × Int} {v : V} {u : Value} (r : RV X.K H (pD p) v) (ru : RelV v u) : v = backV u ∧ Srt.IsPair s.heap u p.1 p.2 := by
  obtain ⟨a, vs, rfl, ta, rs⟩ := r.tup
  obtain rfl : u = Value.ref a := ru
  obtain ⟨v1, v2, rfl, r1, r2⟩ := rs.two
  rw [r1.int, r2.int] at ta
  obtain ⟨its, rv, ⟨o, ho, hc, n, hd⟩, _⟩ := I.tuple ta
  obtain ⟨u1, u2, rfl, ri, rj⟩ := vals2 rv
  obtain ⟨t1, rfl⟩ := ri
  obtain ⟨t2, rfl⟩ := rj
  exact ⟨rfl, a, o, t1, t2, n, rfl, ho, hc, hd⟩
open Classical in
/-- the pair that a value is -/
noncomputable def kf (hp : Heap) (u : Value) : Int × Int := if e : ∃ p : Int × Int, Srt.IsPair hp u p.1 p.2 then Classical.choose e else (0, 0)
theorem pair_inj {hp : Heap} {u : Value} {a b c d : Int} (x : Srt.IsPair hp u a b) (y : Srt.IsPair hp u c d) : a = c ∧ b = d := by
  obtain ⟨a1, o1, t1, u1, n1, rfl, h1, _, d1⟩ := x
  obtain ⟨a2, o2, t2, u2, n2, e, h2, _, d2⟩ := y
  cases e
  rw [h1] at h2
  cases h2
  rw [d1] at d2
  cases d2
  exact ⟨rfl, rfl⟩
theorem kf_eq {hp : Heap} {u : Value} {p : Int × Int} (x : Srt.IsPair hp u p.1 p.2) : kf hp u = p := by
  have e : ∃ p : Int × Int, Srt.IsPair hp u p.1 p.2 := ⟨p, x⟩
  unfold kf
  rw [dif_pos e]
  obtain ⟨q1, q2⟩ := pair_inj (Classical.choose_spec e) x
  exact Prod.ext q1 q2
theorem pairs_of (I : Inv X pins σ H s) : ∀ {ps : List (Int × Int)} {vs : List V} {us : List Value}, RVs X.K H (ps.map pD) vs → Vals vs us → ps = us.map (kf s.heap) ∧ ∀ u ∈ us, Srt.IsPair s.heap u (kf s.heap u).1 (kf s.heap u).2 ∧ RV X.K H (pD (kf s.heap u)) (backV u) ∧ RelV (backV u) u
  | [], vs, us, r, t => by
    rw [r.inv0] at t
    cases t
    exact ⟨rfl, fun u h => by cases h⟩
  | p :: ps, vs, us, r, t => by
    obtain ⟨v, ws, rfl, q, r2⟩ := r.inv
    cases t with
    | cons a b =>
      rename_i u us
      obtain ⟨e1, e2⟩ := pair_of I q a
      obtain ⟨i1, i2⟩ := pairs_of I r2 b
      have ek := kf_eq e2
      refine ⟨by rw [List.map_cons, ek, ← i1], fun z hz => ?_⟩
      rcases List.mem_cons.mp hz with rfl | hz
      · rw [ek]
        refine ⟨e2, e1 ▸ q, e1 ▸ a⟩
      · exact i2 z hz
theorem rvs_back {ps : Value → Int × Int} {out : List Value} (h : ∀ u ∈ out, RV X.K H (pD (ps u)) (backV u) ∧ RelV (backV u) u) : RVs X.K H ((out.map ps).map pD) (out.map backV) ∧ Vals (out.map backV) out := by
  induction out with
  | nil => exact ⟨.nil, .nil⟩
  | cons u r ih =>
    obtain ⟨i1, i2⟩ := ih fun z hz => h z (List.mem_cons_of_mem _ hz)
    obtain ⟨a, b⟩ := h u (List.mem_cons_self ..)
    exact ⟨.cons a i1, .cons b i2⟩
theorem keysN (I : Inv X pins σ H s) {d : Addr} {xs : List (NestedKey × Addr × V)} (h : RdN H d xs) :
    (d == sysModules) = false ∧ xs.length ≤ sizeLine ∧ ∃ (o : Obj) (es : Array DictEntry) (ep : Nat), s.heap.get? d = some o ∧ o.ExactDict ∧ o.data = .dict es ep ∧ es.size = xs.length ∧
      ∀ (i : Nat) (p : NestedKey × Addr × V), xs[i]? = some p → ∃ en : DictEntry, es[i]? = some en ∧ en.key = .ref p.2.1 := by
  obtain ⟨z, hs, pk, ys, pr, o, es, ep, ho, hx, hdt, he, _⟩ := nob_desc I h
  have he := he X.prog X.w
  refine ⟨hs, z, o, es, ep, ho, hx, hdt, ?_, fun i p e => ?_⟩
  · have l1 : es.size = ys.length := size_of_entries he
    have l2 : xs.length = ys.length := Paired.length pr
    omega
  · obtain ⟨b, hb, e1, e2, _⟩ := paired_get pr e
    have q := entry_at he i
    rw [hb] at q
    exact ⟨_, q, by rw [e2]; rfl⟩
theorem old_gather {h : Heap} {vs : List Value} : ∀ b o, h.get? b = some o → ((h.push (seqObj "list" #[] 0)).update h.objs.size (Obj.mapSeq (· ++ vs.toArray))).get? b = some o := fun b o q => by
  have hlt : b < h.objs.size := Heap.lt_size q
  rw [Heap.get?_update_ne _ _ _ _ (Nat.ne_of_lt hlt)]
  exact Heap.get?_push_of_some _ q
theorem vals_keys {acc : List Value} : ∀ {xs : List (NestedKey × Addr × V)}, acc.length = xs.length → (∀ (j : Nat) (p : NestedKey × Addr × V), xs[j]? = some p → acc[j]? = some (Value.ref p.2.1)) → Vals (xs.map fun x => V.ref x.2.1) acc := by
  intro xs
  induction xs generalizing acc with
  | nil => intro l _; cases acc with
    | nil => exact .nil
    | cons _ _ => simp at l
  | cons x xs ih => intro l h; cases acc with
    | nil => simp at l
    | cons a r =>
      have := h 0 x rfl
      have e : a = Value.ref x.2.1 := Option.some.inj this
      refine .cons ?_ (ih (by simpa using l) fun j p e => by have := h (j + 1) p (by simpa using e); simpa using this)
      rw [e]; rfl
/-- a source of pairs: a list, a tuple, a dict's keys -/
def SrcP (K : PySem.W.Frag) (H : Hp) (a : Addr) (vs : List V) : Prop := SqL K H a vs ∨ SqT K H a vs ∨ ∃ xs, RdN H a xs ∧ vs = xs.map fun x => V.ref x.2.1
theorem gather (hc : X.calm = true) (I : Inv X pins σ H s) {a : Addr} {vs : List V} (h : SrcP X.K H a vs) : ∃ us : List Value, Vals vs us ∧ vs.length ≤ sizeLine ∧ ∀ (E : Value → Shared → Prop) (R : List Value → Shared → Prop), (∀ h' tk, (∀ b o, s.heap.get? b = some o → h'.get? b = some o) → R us { s with heap := h', toks := tk }) → wpAny (model X.prog X.w) X.A.in1 (collect (.ref a)) R E s := by
  rcases h with h | h | ⟨xs, h, rfl⟩
  · obtain ⟨its, rv, hl, hz⟩ := I.list h
    exact ⟨its, rv, hz, fun E R q => collect_list hl.isList (q _ s.toks old_gather) (by rw [← rv.length]; exact hz)⟩
  · obtain ⟨its, rv, hl, hz⟩ := I.tuple h
    exact ⟨its, rv, hz, fun E R q => SrtO.collect_tup hl (q _ s.toks old_gather) (by rw [← rv.length]; exact hz)⟩
  · obtain ⟨hs, z, o, es, ep, ho, hx, hdt, hsz, ent⟩ := keysN I h
    refine ⟨es.toList.map (·.key), vals_keys (by rw [List.length_map, Array.length_toList, hsz]) fun j p e => ?_, by rw [List.length_map]; exact z, fun E R q => ?_⟩
    · obtain ⟨en, e1, e2⟩ := ent j p e
      rw [List.getElem?_map, Array.getElem?_toList, e1, ← e2]; rfl
    · refine PySem.W.kdu_collect (A := X.A.in1) (L2.kdl_raw hs hx hdt) (I.ok.hd hc) ho (by rw [hsz]; exact z) fun h' tk acc hk hacc => ?_
      have e : acc.toList = es.toList.map (·.key) := by
        refine List.ext_getElem? fun j => ?_
        by_cases hj : j < acc.size
        · obtain ⟨en, e1, e2⟩ := hacc.2 j acc[j] (Array.getElem?_eq_getElem hj)
          rw [Array.getElem?_toList, Array.getElem?_eq_getElem hj, List.getElem?_map, Array.getElem?_toList, e1, e2]; rfl
        · rw [Array.getElem?_toList, Array.getElem?_eq_none (by omega), List.getElem?_map, Array.getElem?_toList, Array.getElem?_eq_none (by have := hacc.1; omega)]; rfl
      rw [e]
      exact q _ _ hk
theorem lexB_le {p q : Int × Int} (h : SrtO.lexB q p = false) : leP p q := by
  have := SrtO.lexB_no.mp h
  unfold leP
  omega
end
theorem cr_sortedPs {X : Cx} (hc : X.calm = true) : CallR X (.builtin "sorted") (fun xs H Q => ∃ (a : Addr) (vs : List V) (ps : List (Int × Int)), xs = [V.ref a] ∧ SrcP X.K H a vs ∧ RVs X.K H (ps.map pD) vs ∧
    ∀ (ws : List V) (ps' : List (Int × Int)) (p : Addr), ps'.Perm ps → ps'.Pairwise leP → RVs X.K H (ps'.map pD) ws → H p = none → Q (.ref p) (upd H p (.lst ws))) := by
  intro pins s σ H xs us0 Q I r h
  obtain ⟨a, vs, ps, rfl, hs, rp, q⟩ := h
  obtain ⟨us, rv, hz, hcol⟩ := gather hc I hs
  rw [Vals.ref1 r]
  obtain ⟨e1, e2⟩ := pairs_of I rp rv
  have hl := rv.length
  refine SrtO.sorted_ordG (SrtO.swo_lex (kf s.heap)) (by omega) (fun E R q => hcol E R q) (fun h2 h₁ tk a' ha kk => ?_) fun h0 tk h' out h1 h2 k0 k1 ⟨n, hn⟩ => ?_
  · refine SrtO.pairs_sortableO (s := { s with heap := h₁, toks := tk }) (by omega) (fun v hm => (e2 v hm).1.keeps fun b o e _ => (kk b o e).2) fun o e => ?_
    have e' : some o = some (seqObj "list" us.toArray 0) := e.symm.trans ha
    cases e'
    intro c
    exact absurd (Value.type.inj c) (by decide)
  · have I1 : Inv X pins σ H { s with heap := h0, toks := tk } := I.kept k0
    have hm : ∀ u ∈ out, u ∈ us := fun u hu => h2.perm.mem_iff.mp hu
    obtain ⟨g1, g2⟩ := rvs_back (ps := kf s.heap) (out := out) fun u hu => (e2 u (hm u hu)).2
    refine ⟨.ref h0.objs.size, upd H h0.objs.size (.lst (out.map backV)), I1.laid (t' := tk) k1 (Nat.le_refl _) ⟨?_, out, n, g2, hn⟩, rfl, q _ (out.map (kf s.heap)) _ ?_ ?_ g1 (I1.hok.fresh (Nat.le_refl _))⟩
    · rw [List.length_map, h2.perm.length_eq]; omega
    · rw [e1]; exact h2.perm.map _
    · exact List.pairwise_map.mpr (h1.imp fun x => lexB_le x)
end M
namespace M
open PySem L2 PySem.Spec PyProof PyProof.Rows
/-- sorted of pairs of ints: a list, a tuple, or the keys of a dict -/
def SrcPs (h : MH) (x : D) (ps : List (Int × Int)) : Prop := x = .tup (ps.map pD) ∨ ∃ a, x = .ref a ∧ (h a = some (.lst (ps.map pD)) ∨ ∃ kvs : List (NestedKey × D), isDN h a kvs ∧ (kvs.map fun kv => kD kv.1) = ps.map pD)
def rSortedPs : MRA := fun xs h Q => match xs with
  | [x] => ∃ ps, SrcPs h x ps ∧ ∀ (ps' : List (Int × Int)) p, ps'.Perm ps → ps'.Pairwise leP → h p = none → Q (.ref p) (up h p (.lst (ps'.map pD)))
  | _ => False
theorem rn_keys {K : PySem.W.Frag} {H : Hp} : ∀ {kvs : List (NestedKey × D)} {xs : List (NestedKey × Addr × V)}, kvs.map (·.1) = xs.map (·.1) → (∀ x ∈ xs, RV K H (kD x.1) (.ref x.2.1)) → RVs K H (kvs.map fun kv => kD kv.1) (xs.map fun x => V.ref x.2.1)
  | [], [], _, _ => .nil
  | [], _ :: _, h, _ => by simp at h
  | _ :: _, [], h, _ => by simp at h
  | kv :: kvs, x :: xs, h, k => by
    simp only [List.map_cons, List.cons.injEq] at h
    refine .cons ?_ (rn_keys h.2 fun y hy => k y (List.mem_cons_of_mem _ hy))
    show RV K H (kD kv.1) _
    rw [h.1]
    exact k x (List.mem_cons_self ..)
theorem cm_sortedPs {X : Cx} (hc : X.calm = true) : CaM X (.builtin "sorted") rSortedPs := by
  refine ⟨_, cr_sortedPs hc, fun xs h Q0 vs H Q q rh rs f => ?_⟩
  unfold rSortedPs at q
  split at q
  · obtain ⟨v, rfl, rx⟩ := rs.one
    obtain ⟨ps, hs, q⟩ := q
    have z : ∃ a vs, v = V.ref a ∧ SrcP X.K H a vs ∧ RVs X.K H (ps.map pD) vs := by
      rcases hs with rfl | ⟨a, rfl, e | ⟨kvs, e, ek⟩⟩
      · obtain ⟨a, vs, rfl, ta, r⟩ := rx.tup
        exact ⟨a, vs, rfl, .inr (.inl ta), r⟩
      · obtain ⟨vs, E, r⟩ := rh.lst e
        exact ⟨a, vs, rx.ref, .inl (.of E), r⟩
      · obtain ⟨xs, E, rn⟩ := rh.rdN e
        refine ⟨a, xs.map fun x => V.ref x.2.1, rx.ref, .inr (.inr ⟨xs, E, rfl⟩), ?_⟩
        rw [← ek]
        exact rn_keys rn.1 rn.2.2
    obtain ⟨a, vs, rfl, e2, e3⟩ := z
    exact ⟨a, vs, ps, rfl, e2, e3, fun ws ps' p pm so r np => f _ _ (q ps' p pm so (rh.free np)) _ _ (.new np) (rh.new np (ro_lst r)) rv_ref⟩
  · exact q.elim
theorem q_sortedPs {x : D} {h : MH} {Q : MQ} : rSortedPs [x] h Q = (∃ ps, SrcPs h x ps ∧ ∀ (ps' : List (Int × Int)) p, ps'.Perm ps → ps'.Pairwise leP → h p = none → Q (.ref p) (up h p (.lst (ps'.map pD)))) := rfl
end M

namespace M
open PySem PySem.Spec PyProof PyProof.Rows L2
/-! ### len(set(tuple of ints)) -/
theorem nd_le : ∀ {l ns : List Int}, l.Nodup → (∀ k ∈ l, k ∈ ns) → l.length ≤ ns.length
  | [], ns, _, _ => Nat.zero_le _
  | x :: l, ns, nd, h => by
    obtain ⟨n1, n2⟩ := List.nodup_cons.mp nd
    have hx := h x (List.mem_cons_self ..)
    have := nd_le (l := l) (ns := ns.erase x) n2 fun k hk => (List.mem_erase_of_ne (fun (e : k = x) => n1 (e ▸ hk))).mpr (h k (List.mem_cons_of_mem _ hk))
    have e := List.length_erase_of_mem hx
    have := List.length_pos_of_mem hx
    rw [List.length_cons]
    omega
theorem twice : ∀ {ns : List Int}, ¬ ns.Nodup → ∃ x, x ∈ ns ∧ x ∈ ns.erase x
  | [], h => absurd List.nodup_nil h
  | x :: ns, h => by
    by_cases hx : x ∈ ns
    · exact ⟨x, List.mem_cons_self .., by rw [List.erase_cons_head]; exact hx⟩
    · obtain ⟨y, y1, y2⟩ := twice (ns := ns) fun z => h (List.nodup_cons.mpr ⟨hx, z⟩)
      have : x ≠ y := fun e => hx (e ▸ y1)
      refine ⟨y, List.mem_cons_of_mem _ y1, ?_⟩
      rw [List.erase_cons_tail (by simpa using this)]
      exact List.mem_cons_of_mem _ y2
theorem nd_iff {l ns : List Int} (nd : l.Nodup) (h : ∀ k, k ∈ ns ↔ k ∈ l) : (l.length = ns.length ↔ ns.Nodup) ∧ l.length ≤ ns.length := by
  have le := nd_le nd fun k hk => (h k).mpr hk
  refine ⟨⟨fun e => ?_, fun n2 => ?_⟩, le⟩
  · refine Classical.byContradiction fun z => ?_
    obtain ⟨x, x1, x2⟩ := twice z
    have := nd_le (l := l) (ns := ns.erase x) nd fun k hk => by
      by_cases e : k = x
      · rw [e]; exact x2
      · exact (List.mem_erase_of_ne e).mpr ((h k).mpr hk)
    have e2 := List.length_erase_of_mem x1
    have := List.length_pos_of_mem x1
    omega
  · have := nd_le n2 fun k hk => (h k).mp hk
    omega
def tLenSet2 (K : PySem.W.Frag) (ta : TE) : TE := fun σ H Q => ta σ H fun x H1 => ∃ (l : Addr) (ns : List Int), x = .ref l ∧ SqT K H1 l (ns.map V.int) ∧ ns.length ≤ 4000 ∧ ∀ k : Nat, (k = ns.length ↔ ns.Nodup) → k ≤ ns.length → Q (.int (k : Nat)) H1
theorem pe_lenSet2 {X : Cx} {a : Expr} {ta : TE} {p p2 q pos : Pos} (hg : Gl X "len") (hm : X.mg "len" = none) (hg2 : Gl X "set") (hm2 : X.mg "set" = none) (ha : PE X a ta) (hc : X.calm = true := by rfl)
    (na : starEach [a] X.env = (false, eval a X.env) :: starEach [] X.env := by rfl) : PE X (.Call (.Name "len" p) [.Call (.Name "set" p2) [a] [] q] [] pos) (tLenSet2 X.K ta) := by
  refine ⟨fun pins s σ H Q I h => ?_⟩
  refine Call_ (ld_blt I hg hm boot_len ?_)
  refine PyProof.Rows.callWith_builtin1 (PyProof.Rows.args_cons ?_ rfl) rfl rfl
  refine Call_ (ld_blt I hg2 hm2 boot_set ?_)
  refine PyProof.Rows.callWith_type1 (PyProof.Rows.args_cons (thn (ha.run pins s σ H _ I h) fun v s1 ⟨x, H1, I1, r1, q1⟩ => PyProof.Rows.args_nil ?_) na) na rfl
  obtain ⟨l, ns, rfl, hq, hl, q1⟩ := q1
  cases r1
  obtain ⟨its, r, pl, hz⟩ := I1.tuple hq
  refine call_set_tupI ns (I1.ok.hd hc) pl (by simpa using r.ints) (by unfold scanBound; omega) fun h' tk c R cl hk => ?_
  refine PyProof.Rows.args_nil ?_
  obtain ⟨o, es, ep, t, ho, hex, hd, _, nd, hm, _, hf, hn, _⟩ := R
  have I2 : Inv X pins σ H1 { s1 with heap := h', toks := tk } := I1.kept hk
  have hl2 : (es.toList.map keyOf).length = c := by rw [List.length_map, Array.length_toList]; exact hn
  obtain ⟨g1, g2⟩ := nd_iff nd (ns := ns) fun k => by rw [← hm k, decide_eq_true_eq]
  rw [hl2] at g1 g2
  exact call_len_set ho hex hd hf (by rw [hn] <;> omega) ⟨.int c, H1, I2.tok _, ⟨_, by rw [hn]⟩, q1 c g1 g2⟩
def mLenSet (m : MTE) : MTE := fun env h Q => m env h fun x h1 => ∃ ns : List Int, x = .tup (ns.map .int) ∧ ns.length ≤ 4000 ∧ ∀ k : Nat, (k = ns.length ↔ ns.Nodup) → k ≤ ns.length → Q (.int (k : Nat)) h1
theorem ie_lenSet {X : Cx} {Hb : Hp} {a : Expr} {ma : MTE} {p p2 q pos : Pos} (hm : X.mg "len" = none) (hm2 : X.mg "set" = none) (ha : IE X Hb a ma) (hg : Gl X "len" := by rfl) (hg2 : Gl X "set" := by rfl) (hc : X.calm = true := by rfl)
    (na : starEach [a] X.env = (false, eval a X.env) :: starEach [] X.env := by rfl) : IE X Hb (.Call (.Name "len" p) [.Call (.Name "set" p2) [a] [] q] [] pos) (mLenSet ma) := by
  refine pe_w (pe_lenSet2 hg hm hg2 hm2 ha hc na) fun σ H Q ⟨env, h, Q0, re, rh, m, f⟩ => ?_
  refine ⟨env, h, _, re, rh, m, ?_⟩
  rintro x h1 ⟨ns, rfl, l, q⟩ vx H1 t1 r1 rx
  obtain ⟨a, vs, rfl, ta, rs⟩ := rx.tup
  rw [rs.ints] at ta
  exact ⟨a, ns, rfl, ta, l, fun k k1 k2 => f _ _ (q k k1 k2) _ _ t1 r1 rv_int⟩
end M

namespace M
open PySem PySem.Spec PyProof PyProof.Rows L2
/-! ### o[i], o2[j] = e -/
def mPut2 (r : MRSet) (a o1 i1 o2 i2 : MTE) : MTS := fun D' env h => a env h fun d h1 => ∃ x y, d = .tup [x, y] ∧ o1 env h1 fun u h2 => i1 env h2 fun v h3 => r u v x h3 fun h4 => o2 env h4 fun u2 h5 => i2 env h5 fun v2 h6 => r u2 v2 y h6 fun h7 => D'.nx env h7
theorem put2_ {r : MRSet} {a o1 i1 o2 i2 : MTE} {D' : MEnds} {env : ME} {h : MH} (q : a env h fun d h1 => ∃ x y, d = .tup [x, y] ∧ o1 env h1 fun u h2 => i1 env h2 fun v h3 => r u v x h3 fun h4 => o2 env h4 fun u2 h5 => i2 env h5 fun v2 h6 => r u2 v2 y h6 fun h7 => D'.nx env h7) : mPut2 r a o1 i1 o2 i2 D' env h := q
theorem is_put2 {X : Cx} {Hb : Hp} {e o i o2 i2 : Expr} {me mo mi mo2 mi2 : MTE} {rs : MRSet} {kt : Nat} {p1 p2 pt pos : Pos} (hc : X.calm = true) (hs : SeM X rs) (he : IE X Hb e me) (ho : IE X Hb o mo) (hi : IE X Hb i mi) (ho2 : IE X Hb o2 mo2) (hi2 : IE X Hb i2 mi2)
    (ha : ∀ v, assign (.Subscript o i p1) X.env v = (do
      let ov ← holding [v] (eval o X.env)
      let iv ← holding [v, ov] (eval i X.env)
      standAt p1
      holding [v, ov, iv] (setItem ov iv v)
      release [v, ov, iv] []) := by intro _; rfl)
    (ha2 : ∀ v, assign (.Subscript o2 i2 p2) X.env v = (do
      let ov ← holding [v] (eval o2 X.env)
      let iv ← holding [v, ov] (eval i2 X.env)
      standAt p2
      holding [v, ov, iv] (setItem ov iv v)
      release [v, ov, iv] []) := by intro _; rfl)
    (hA : (assignEach [.Subscript o i p1, .Subscript o2 i2 p2] X.env).map (·.2) = assign (.Subscript o i p1) X.env :: (assignEach [.Subscript o2 i2 p2] X.env).map (·.2) := by rfl)
    (hB : (assignEach [.Subscript o2 i2 p2] X.env).map (·.2) = assign (.Subscript o2 i2 p2) X.env :: (assignEach [] X.env).map (·.2) := by rfl)
    (hn : (assignEach [.Subscript o i p1, .Subscript o2 i2 p2] X.env).length = 2 := by rfl) (hst : (assignEach [.Subscript o i p1, .Subscript o2 i2 p2] X.env).findIdx? (·.1) = none := by rfl)
    (h2 : swapsWithSole [.Tuple [.Subscript o i p1, .Subscript o2 i2 p2] kt pt] e pos.line X.env = pure false := by rfl) (hw : swappedStores [.Tuple [.Subscript o i p1, .Subscript o2 i2 p2] kt pt] e X.env = pure none := by rfl)
    (h1 : (assignEach [.Tuple [.Subscript o i p1, .Subscript o2 i2 p2] kt pt] X.env).map (·.2) = [assign (.Tuple [.Subscript o i p1, .Subscript o2 i2 p2] kt pt) X.env] := by rfl) : IS X Hb (.Assign [.Tuple [.Subscript o i p1, .Subscript o2 i2 p2] kt pt] e pos) (mPut2 rs me mo mi mo2 mi2) := by
  obtain ⟨R, hR, hi'⟩ := hs
  refine is_of (ps_asg he (pg_tup hc (pgs_cons (pg_sub ho hi hR ha) (pgs_cons (pg_sub ho2 hi2 hR ha2) pgs_nil hB) hA) hn hst) h2 hw h1) fun D' σ H env h D0 re rh m f => ?_
  refine ⟨env, h, _, re, rh, m, ?_⟩
  rintro d h1 ⟨x, y, rfl, q1⟩ v H1 t1 r1 rv
  obtain ⟨a, vs, rfl, ta, rs⟩ := rv.tup
  obtain ⟨w1, w2, rfl, rx, ry⟩ := rs.two
  refine ⟨a, _, rfl, ta, rfl, w1, _, rfl, ?_⟩
  refine ⟨env, h1, _, re.mono t1, r1, q1, fun u h2 q2 vu H2 t2 r2 ru => ?_⟩
  refine ⟨env, h2, _, (re.mono t1).mono t2, r2, q2, fun v h3 q3 vv H3 t3 r3 rv2 => ?_⟩
  have t23 := t2.trans t3
  refine hi' u v x h3 _ vu vv w1 H3 _ q3 r3 (ru.mono t3) rv2 (rx.mono t23) fun h4 q4 H4 t4 r4 => ?_
  have t14 := t1.trans (t2.trans (t3.trans t4))
  refine ⟨w2, [], rfl, ?_⟩
  refine ⟨env, h4, _, re.mono t14, r4, q4, fun u2 h5 q5 vu2 H5 t5 r5 ru2 => ?_⟩
  refine ⟨env, h5, _, (re.mono t14).mono t5, r5, q5, fun v2 h6 q6 vv2 H6 t6 r6 rv3 => ?_⟩
  have t26 := t2.trans (t3.trans (t4.trans (t5.trans t6)))
  refine hi' u2 v2 y h6 _ vu2 vv2 w2 H6 _ q6 r6 (ru2.mono t6) rv3 (ry.mono t26) fun h7 q7 H7 t7 r7 => ?_
  have tt := t1.trans (t26.trans t7)
  exact ⟨rfl, f.nx env h7 q7 σ H7 tt (re.mono tt) r7⟩
end M

namespace M
open PySem L2
/-! ### a dict of one pair, its key a number -/
def mDisp1V (mk mv : MTE) : MTE := fun env h Q => ∀ p, h p = none → mk env (up h p (.dK [])) fun k h1 => mv env h1 fun d h2 => ∃ i : Int, k = .int i ∧ h2 p = some (.dK []) ∧ Q (.ref p) (up h2 p (.dK [(.inl i, d)]))
section
variable {X : Cx} {Hb : Hp} {pos : Pos} {e f : Expr} {me mf : MTE}
theorem ie_disp1V (he : IE X Hb e me) (hf : IE X Hb f mf) : IE X Hb (.Dict [some e] [f] pos) (mDisp1V me mf) := by
  refine pe_w (pe_disp (pps_cons he hf pps_nil) rfl rfl (by simp) (by simp)) fun σ H Q ⟨env, h, Q0, re, rh, m, f⟩ => fun p np => ?_
  have t0 : TL H (upd H p (.dK [])) := .new np
  refine ⟨env, _, _, re.mono t0, rh.new (m := .dK []) np ⟨[], rfl, rfl, .nil⟩, m p (rh.free np), fun k h1 q kv H1 t1 r1 rk => ?_⟩
  refine ⟨env, h1, _, re.mono (t0.trans t1), r1, q, fun d h2 q2 v H2 t2 r2 rv => ?_⟩
  obtain ⟨i, rfl, e, q3⟩ := q2
  have ek : kv = .int i := by cases rk; rfl
  subst ek
  obtain ⟨ws0, E, r0⟩ := r2.dK e
  have e0 : ws0 = [] := by
    cases ws0 with
    | nil => rfl
    | cons _ _ => cases r0.1
  subst e0
  refine ⟨E, [(.inl i, v)], rfl, by simp, ?_⟩
  have t3 : TL H2 (upd H2 p (.dK [(.inl i, v)])) := .put E (fun _ z => by cases z) (fun _ _ z => by cases z)
  exact f _ _ q3 _ _ (t0.trans (t1.trans (t2.trans t3))) (r2.put t3 ⟨_, rfl, rfl, .cons (rv.mono t3) .nil⟩) rv_ref
end
end M

namespace L2
open PySem
section
variable {X : Cx} {CX : CXT} {e : Expr} {es : List Expr} {t : TA} {x : Str} {p pos : Pos} {i : Nat} {E : XK}
/-- who may be called -/
def CallC (CX : CXT) (X : Cx) (c : Addr × Sp) : Prop := ∃ (k : Nat) (fd : FuncData) (ps : List Str), FnOk X.prog X.w X.K X.mg X.base CX k c.1 fd ps c.2 ∧ Room k X.A ∧ PySem.W.keepIn X.K (.ref c.1) = true ∧ Binds X.K fd ps []
def tCallV (i : Nat) (cs : List (Addr × Sp)) (E : XK) (t : TA) : TE := fun σ H Q => tVar i σ H fun x H1 => ∃ c, x = .ref (Prod.fst c) ∧ c ∈ cs ∧ t σ H1 fun vs H2 => c.2 vs H2 Q E
theorem pe_callV {cs : List (Addr × Sp)} (hn : PE X (.Name x p) (tVar i)) (hC : ∀ c ∈ cs, CallC CX X c) (hx : Passes CX X E) (ha : PA X (e :: es) t)
    (he : starEach (e :: es) X.env = (false, eval e X.env) :: starEach es X.env := by rfl) (hpl : (backTo pos (starEach es X.env)).any (·.1) = false := by rfl) :
    PE X (.Call (.Name x p) (e :: es) [] pos) (tCallV i cs E t) := by
  refine ⟨fun pins s σ H Q I h => ?_⟩
  refine wpAny_Call_Name_kw (thn (hn.run pins s σ H _ I h) fun u s1 ⟨v, H1, I1, r, c, ev, hm, q⟩ => ?_)
  subst ev
  obtain rfl : u = Value.ref c.1 := r
  obtain ⟨k, fd, ps, F, hr, hk, hb⟩ := hC c hm
  refine PySem.W.callWith_K (h₀ := X.base) I1.ok.mod.kin hk (thn (ha.run pos pins s1 σ H1 _ I1 q) fun us s2 ⟨vs, H2, I2, r2, q2⟩ => ⟨I2.kIn, ?_⟩) he hpl
  refine run_fn F hr hb .nil hx I2 r2 ?_
  rw [List.append_nil]; exact q2
end
end L2
namespace M
open PySem L2
/-! ### a def held by a variable -/
def mCallV (i : Nat) (cs : List (Addr × MSp)) (ms : MTA) : MTE := fun env h Q => ∃ f sp, env[i]? = some (some (.ref f)) ∧ (f, sp) ∈ cs ∧ ms env h fun xs h1 => sp xs h1 Q noE
section
variable {X : Cx} {Hb : Hp} {e : Expr} {es : List Expr} {ms : MTA} {x : Str} {p pos : Pos} {i : Nat}
theorem ie_callV {cs : List (Addr × MSp)} (hC : ∀ c ∈ cs, CallC CX0 X (c.1, liftSp X.K c.2)) (ha : IA X Hb (e :: es) ms) (hN : X.N[i]? = some x := by rfl) (hv : Vis X.env.scope x := by first | exact Or.inl rfl | exact Or.inr (Or.inl rfl) | exact Or.inr (Or.inr rfl)) (hd : (x == ("__debug__" : Str)) = false := by decide)
    (hcd : (x == ("__classdict__" : Str)) = false := by decide) (he : starEach (e :: es) X.env = (false, eval e X.env) :: starEach es X.env := by rfl) (hpl : (backTo pos (starEach es X.env)).any (·.1) = false := by rfl) :
    IE X Hb (.Call (.Name x p) (e :: es) [] pos) (mCallV i cs ms) := by
  refine pe_w (pe_callV (CX := CX0) (cs := cs.map fun c => (c.1, liftSp X.K c.2)) (pe_var hN hv hd hcd) (fun c hc => ?_) pass0 ha he hpl) fun σ H Q ⟨env, h, Q0, re, rh, ⟨f, sp, ev, hm, m⟩, fq⟩ => ?_
  · obtain ⟨c0, h0, rfl⟩ := List.mem_map.mp hc
    exact hC c0 h0
  · obtain ⟨v, e1, rv⟩ := re.2.2 i _ ev
    refine ⟨v, e1, (f, liftSp X.K sp), by cases rv; rfl, List.mem_map.mpr ⟨(f, sp), hm, rfl⟩, ?_⟩
    refine ⟨env, h, _, re, rh, m, fun ds h1 q vs H1 t1 r1 rs => ?_⟩
    exact ⟨ds, h1, Q0, noE, rs, r1, q, Fin.mono t1 fq, fun _ _ q => q.elim⟩
end
end M
namespace M
open PySem L2
/-- a def's name, as a value -/
def Fd.gc {K : PySem.W.Frag} {mg : Str → Option Value} {x q : Str} {st : Stmt} {ps : List Str} (F : Fd K mg x q st ps) : Gc K mg x (.ref F.a) := ⟨.ref F.a, .ref F.a, F.m, rfl, fun _ => rv_ref⟩
end M

namespace L2
open PySem PySem.Spec PyProof.Rows
/-- s * k -/
theorem op_mul_str {X : Cx} : OpR X (binaryOp .Mult) (fun x y H Q => ∃ a k, x = .str a ∧ y = .int k ∧ a.length ≤ 255 ∧ 0 ≤ k ∧ k ≤ 65535 ∧ Q (.str (Txt.mul a k)) H) := by
  intro pins s σ H x y v u Q I rx ry h
  obtain ⟨a, k, rfl, rfl, ha, k0, k1, q⟩ := h
  obtain ⟨t, rfl⟩ := rx
  obtain ⟨t', rfl⟩ := ry
  exact PySem.SB.mul (mulOk_of 255 65535 ha (by omega) (by omega) (by decide) (by decide)) fun t' k' => ⟨.str _, H, I.tok k', ⟨t', rfl⟩, q⟩
end L2
namespace M
open PySem PySem.Spec PyProof PyProof.Rows L2
/-! ### texts -/
def rSplit : MRM := fun x xs h Q => match x, xs with
  | .str a, [.str b] => (b.length == 0) = false ∧ a.length + 2 ≤ sizeLine ∧ ∀ p, h p = none → Q (.ref p) (up h p (.lst ((Txt.split a b).map .str)))
  | _, _ => False
def rJoin : MRM := fun x xs h Q => match x, xs with
  | .str a, [.ref p] => ∃ ys : List Str, h p = some (.lst (ys.map .str)) ∧ (ys.map (·.length)).sum + ys.length * a.length ≤ 16777216 ∧ Q (.str (Txt.join a ys)) h
  | _, _ => False
def rInSg : MR2 := fun x y h Q => match x, y with
  | .str a, .str z => ∃ c, a = ⟨#[c]⟩ ∧ Q (.bl (decide (c ∈ z.cps.toList))) h
  | _, _ => False
def rMulS : MR2 := fun x y h Q => match x, y with
  | .str a, .int k => a.length ≤ 255 ∧ 0 ≤ k ∧ k ≤ 65535 ∧ Q (.str (Txt.mul a k)) h
  | _, _ => False
def rIntT : MRA := fun xs h Q => match xs with
  | [.str a] => ∃ n, PySem.intText? a = some n ∧ a.length ≤ 640 ∧ Q (.int n) h
  | _ => False
def rSlT : MRS := fun x lo hi h Q => match x with
  | .str z => z.length ≤ sizeLine ∧ Q (.str (cutS z lo hi)) h
  | _ => False
theorem rvs_strs {K : PySem.W.Frag} {H : Hp} : ∀ ys : List Str, RVs K H (ys.map .str) (ys.map V.str)
  | [] => .nil
  | y :: ys => .cons rv_str (rvs_strs ys)
theorem mi_split {X : Cx} : MtI X "str.split" rSplit := by
  refine ⟨_, mt_split, fun x xs h Q0 vx vs H Q q rh rx rs f => ?_⟩
  unfold rSplit at q
  split at q
  · obtain ⟨hb, hz, q⟩ := q
    obtain ⟨v, rfl, ry⟩ := rs.one
    rw [rx.str, ry.str]
    refine ⟨_, _, rfl, rfl, hb, hz, fun p np => ?_⟩
    exact f _ _ (q p (rh.free np)) _ _ (.new np) (rh.new np (ro_lst (rvs_strs _))) rv_ref
  · exact q.elim
theorem mi_join {X : Cx} : MtI X "str.join" rJoin := by
  refine ⟨_, mt_join, fun x xs h Q0 vx vs H Q q rh rx rs f => ?_⟩
  unfold rJoin at q
  split at q
  · obtain ⟨ys, e, hz, q⟩ := q
    obtain ⟨v, rfl, ry⟩ := rs.one
    rw [rx.str, ry.ref]
    obtain ⟨ws, E, rw'⟩ := rh.lst e
    rw [rw'.strs] at E
    exact ⟨_, _, ys, rfl, rfl, .inl (.of E), hz, fin_at f q rh rv_str⟩
  · exact q.elim
theorem om_inSg {X : Cx} : OpM X (compareOp .In) rInSg := ⟨_, op_in_sign, fun x y h Q0 vx vy H Q q rh rx ry f => by
  unfold rInSg at q
  split at q
  · obtain ⟨c, rfl, q⟩ := q
    rw [rx.str, ry.str]
    exact ⟨c, _, rfl, rfl, fin_at f q rh rv_bl⟩
  · exact q.elim⟩
theorem om_mulS {X : Cx} : OpM X (binaryOp .Mult) rMulS := ⟨_, op_mul_str, fun x y h Q0 vx vy H Q q rh rx ry f => by
  unfold rMulS at q
  split at q
  · rw [rx.str, ry.int]
    exact ⟨_, _, rfl, rfl, q.1, q.2.1, q.2.2.1, fin_at f q.2.2.2 rh rv_str⟩
  · exact q.elim⟩
theorem cm_intT {X : Cx} : CaM X (.type "int") rIntT := by
  refine ⟨_, call_int_str, fun xs h Q0 vs H Q q rh rs f => ?_⟩
  unfold rIntT at q
  split at q
  · obtain ⟨n, e, l, q⟩ := q
    obtain ⟨v, rfl, rx⟩ := rs.one
    rw [rx.str]
    exact ⟨_, n, rfl, e, l, fin_at f q rh rv_int⟩
  · exact q.elim
theorem ie_slT {X : Cx} {Hb : Hp} {e : Expr} {lo hi : Option Expr} {me : MTE} {ml mh : MTO} {p2 pos : Pos} (he : IE X Hb e me) (hl : IO X Hb lo ml) (hu : IO X Hb hi mh) : IE X Hb (.Subscript e (.Slice lo hi none p2) pos) (mSl rSlT me ml mh) := by
  refine pe_w (pe_slice sl_str he hl hu) fun σ H Q ⟨env, h, Q0, re, rh, m, f⟩ => ?_
  refine ⟨env, h, _, re, rh, m, fun x h1 q1 vx H1 t1 r1 rx => ?_⟩
  refine ⟨env, h1, _, re.mono t1, r1, q1, fun l h2 q2 H2 t2 r2 => ?_⟩
  refine ⟨env, h2, _, re.mono (t1.trans t2), r2, q2, fun u h3 q3 H3 t3 r3 => ?_⟩
  have f3 := Fin.mono (t1.trans (t2.trans t3)) f
  unfold rSlT at q3
  split at q3
  · rw [rx.str]
    exact ⟨_, rfl, q3.1, fin_at f3 q3.2 r3 rv_str⟩
  · exact q3.elim
/-! ### what is never come to -/
def mDead : MTS := fun _ _ _ => False
theorem is_dead {X : Cx} {Hb : Hp} {st : Stmt} : IS X Hb st mDead := ⟨fun pins s σ H D' I q => let ⟨_, _, _, _, _, q, _⟩ := liftS_iff.mp q; q.elim⟩
section
variable {h : MH} {Q : MQ} {a b z : Str} {p : Addr} {k : Int}
theorem q_split : rSplit (.str a) [.str b] h Q = ((b.length == 0) = false ∧ a.length + 2 ≤ sizeLine ∧ ∀ p, h p = none → Q (.ref p) (up h p (.lst ((Txt.split a b).map .str)))) := rfl
theorem q_join : rJoin (.str a) [.ref p] h Q = (∃ ys : List Str, h p = some (.lst (ys.map .str)) ∧ (ys.map (·.length)).sum + ys.length * a.length ≤ 16777216 ∧ Q (.str (Txt.join a ys)) h) := rfl
theorem q_inSg : rInSg (.str a) (.str z) h Q = (∃ c, a = ⟨#[c]⟩ ∧ Q (.bl (decide (c ∈ z.cps.toList))) h) := rfl
theorem q_mulS : rMulS (.str a) (.int k) h Q = (a.length ≤ 255 ∧ 0 ≤ k ∧ k ≤ 65535 ∧ Q (.str (Txt.mul a k)) h) := rfl
theorem q_intT : rIntT [.str a] h Q = (∃ n, PySem.intText? a = some n ∧ a.length ≤ 640 ∧ Q (.int n) h) := rfl
theorem q_slT {lo hi : Option Int} : rSlT (.str z) lo hi h Q = (z.length ≤ sizeLine ∧ Q (.str (cutS z lo hi)) h) := rfl
theorem q_tymS : tyM "str" (.str a) h = True := propext ⟨fun _ => trivial, fun _ => rfl⟩
end
end M

namespace L2
open PySem PySem.Spec PyProof.Rows
/-! ### set(list of ints), sorted(set) of any size -/
abbrev newS (w : World) : Obj := { cls := .type "set", dict := none, data := .set #[] 0 (.fresh 0 0 (!w.params.followText "set-order")) }
section
variable {P : Program} {w : World} {A : Around} {E : Value → Shared → Prop} {s : Shared}
abbrev KeepsL (hp hp' : Heap) : Prop := ∀ b o, hp.get? b = some o → hp'.get? b = some o
set_option maxRecDepth 100000 in
theorem set_ofList {lst : Addr} {arr : Array Value} (ms : List Int) {Q : Value → Shared → Prop} (noH : A.handled = none) (isL : s.heap.IsList lst arr) (isI : IntsAre arr.toList ms) (few : ms.length + 1 < scanBound)
    (k : ∀ (hp' : Heap) (tk c : Nat), SetR w hp' s.heap.objs.size (fun j => decide (j ∈ ms)) c → c ≤ ms.length → KeepsL s.heap hp' → Q (.ref s.heap.objs.size) { s with heap := hp', toks := tk }) :
    wpAny (model P w) A (call (.type "set") [.ref lst]) Q E s := by
  have szA : arr.size = ms.length := by rw [← Array.length_toList]; exact IntsAre.length isI
  obtain ⟨cc, tt, mro⟩ := F.called_set.mro
  have mk1 := F.called_set.made
  have mk2 := F.called_set.sub
  refine wpAny_call (codeAny_of_tree ?_)
  show wpAny _ _ (callAny (.type "set") _) _ _ _
  refine wpAny_pure ⟨Code.quiet_builtin _ (by decide +kernel), ?_⟩
  refine codeAny_builtin F.entry_type_call ?_
  rw [Around.under_plain (weight_type_call_type "set" [.ref lst] []) rfl]
  have n1 := F.called_set.notType
  have n2 := F.called_set.canCreate
  have n3 := F.typeCall_set_1 (.ref lst)
  repeat (any_goals (first | assumption | wp_step))
  refine codeAny_mono (code_set_led1 (.ref lst) (E := E) (Q₁ := fun ob sh => ob = .ref s.heap.objs.size ∧ sh = { s with heap := s.heap.push (newS w) }) ⟨rfl, rfl⟩) fun res s1 hres => ?_
  cases res with
  | error e => exact hres
  | ok fl =>
    cases fl with
    | ret ob =>
      obtain ⟨rfl, rfl⟩ := hres
      have atS : (s.heap.push (newS w)).get? s.heap.objs.size = some (newS w) := Heap.get?_push_size _ rfl
      have tyS : Shared.TypeIs { s with heap := s.heap.push (newS w) } (.ref s.heap.objs.size) "set" := ⟨_, atS, rfl⟩
      have li := F.called_set.init.lookup
      have bi := F.called_set.init.bind (.ref s.heap.objs.size)
      repeat (any_goals (first | assumption | wp_step))
      refine codeAny_mono (codeAny_call_builtin (R := wants (fun r sh => r = .none ∧ ∃ hp' tk c, sh = { s with heap := hp', toks := tk } ∧ SetR w hp' s.heap.objs.size (fun j => decide (j ∈ ms)) c ∧ c ≤ ms.length ∧ KeepsL s.heap hp') E) F.called_set.init.plain F.entry_set_init (check_set_init_1 tyS ?_)) fun res2 s2 hres2 => ?_
      · obtain ⟨oL, hoL, hcL, nL, hdL⟩ := isL
        obtain ⟨c0, d0, dt0, sl0⟩ := oL
        simp only at hcL hdL
        subst hcL hdL
        have oldL : (s.heap.push (newS w)).get? lst = some { cls := .type "list", dict := d0, data := .seq arr nL, slots := sl0 } := Heap.get?_push_of_some _ hoL
        have sl1 := F.sub_list_set
        have sl2 := F.sub_list_frozenset
        have nd1 : (Value.type "list" == Value.type "dict") = false := by decide
        have lstAt : (s.heap.push (newS w)).IsList lst arr := ⟨_, oldL, rfl, nL, rfl⟩
        unfold Builtin.«set.__init__» noKeywords Builtin.Frozenset.updateFrom
        generalize hI : pyIter = it
        wp_walk
        subst hI
        refine wpAny_pyIter_list lstAt ?_
        refine wpAny_bind (wpAny_runValue ?_)
        have ltL : lst < s.heap.objs.size := Heap.lt_size hoL
        have noH3 : A.in1.in1.in1.handled = none := by simp [noH]
        have neL : lst ≠ (s.heap.push (newS w)).objs.size := by
          rw [Heap.size_push]; exact Nat.ne_of_lt (Nat.lt_succ_of_lt ltL)
        have apart : s.heap.objs.size ∉ [(s.heap.push (newS w)).objs.size, lst] := by
          rw [Heap.size_push]
          simp only [List.mem_cons, List.mem_singleton, List.not_mem_nil, or_false, not_or]
          exact ⟨Nat.ne_of_lt (Nat.lt_succ_self _), Nat.ne_of_gt ltL⟩
        have each : ∀ (i : Nat) (v : Value), arr[i]? = some v → ∃ z t, ms[i]? = some z ∧ v = .int z t := fun i v hv => by
          have hi : i < ms.length := by rw [← szA]; exact (Array.getElem?_eq_some_iff.mp hv).1
          obtain ⟨t, e⟩ := PyProof.Rows.IntsAre.int_at isI i v (by rw [Array.getElem?_toList]; exact hv)
          refine ⟨ms[i], t, List.getElem?_eq_getElem hi, ?_⟩
          rw [e, List.getD_eq_getElem?_getD, List.getElem?_eq_getElem hi] <;> rfl
        refine set_update_ints ((Walks.list noH3 _ lst neL arr).toS) s.heap.objs.size apart ms szA few each (arr.size - 0) 0 _ (by omega) (Nat.zero_le _) ⟨⟨_, Heap.get?_push_size _ rfl, rfl, rfl⟩, (lstAt.push _)⟩ ?start ?fin
        case start =>
          exact ⟨0, Nat.le_refl 0, setR_new_at (Heap.get?_push_of_some _ atS)⟩
        case fin =>
          intro s3 c3 mv le3 set3
          obtain ⟨hp3, gn, dr, tk3, os3⟩ := s3
          have e1 : gn = s.gens := mv.gens
          have e2 : dr = s.drawn := mv.drawn
          have e3 : os3 = s.os := mv.os
          subst e1 e2 e3
          show wpAny _ _ _ _ _ _
          refine wpAny_pure ?_
          show wpAny _ _ (ret Value.none) _ _ _
          rw [szA] at le3
          refine wpAny_pure ⟨rfl, hp3, tk3, c3, rfl, set3, le3, fun b o e => ?_⟩
          have b0 : b < s.heap.objs.size := Heap.lt_size e
          refine mv.heap b o ?_ (Heap.get?_push_of_some _ (Heap.get?_push_of_some _ e))
          simp only [List.mem_cons, List.mem_singleton, List.not_mem_nil, or_false, not_or]
          refine ⟨Nat.ne_of_lt b0, ?_⟩
          rw [Heap.size_push]; exact Nat.ne_of_lt (Nat.lt_succ_of_lt b0)
      · cases res2 with
        | error e => exact hres2
        | ok fl2 =>
          cases fl2 with
          | ret r =>
            obtain ⟨rfl, hp', tk, c, rfl, q1, q2, q3⟩ := hres2
            repeat (any_goals (first | assumption | wp_step))
            exact k _ _ _ q1 q2 q3
          | _ => exact hres2.elim
    | _ => exact hres.elim
end
end L2

namespace L2
open PySem PySem.Spec PyProof.Rows
/-- sorted(a set of ints), of any size -/
theorem sorted_setA {P : Program} {w : World} {A : Around} {E : Value → Shared → Prop} {s : Shared} {a : Addr} {S : Int → Bool} {n : Nat} {Q : Value → Shared → Prop} (R : SetR w s.heap a S n) (noH : A.handled = none)
    (k : ∀ s2 p (out : Array Value) (c : Nat) (ms : List Int), KeepsL s.heap s2.heap → s2.gens = s.gens → s2.os = s.os → s.heap.objs.size ≤ p → s2.heap.get? p = some (seqObj "list" out c) → IntsAre out.toList ms → ms.Pairwise (· < ·) → (∀ z, z ∈ ms ↔ S z = true) → Q (.ref p) s2) :
    wpAny (model P w) A (call (.builtin "sorted") [.ref a]) Q E s := by
  obtain ⟨ob, els, ep, tb, oa, ex, da, good, nd, mem, few, fits, cnt, ris, led⟩ := R
  refine Calls.call_function_entry kind_sorted plain_sorted entry_sorted (args_sorted1 _) ?_
  unfold Builtin.«sorted»
  refine wpAny_bind (m := checkCount "sorted" 1 1 _) (wpAny_pure ?_)
  refine wpAny_bind (collect_set (A := A.in1) noH ⟨ob, oa, ex.1, da⟩ fits few ris led fun s1 vs keep big e1 e2 pm => ?_)
  have lv : vs.length = els.size := by rw [pm.length_eq, List.length_map, Array.length_toList]
  have iv : IntsAre vs (vs.map Builtin.Re.reRawOf) := ints_of vs fun v hv => by
    obtain ⟨e, he, q⟩ := List.mem_map.mp (pm.mem_iff.mp hv)
    obtain ⟨z, tk, h1, _⟩ := good e he
    exact ⟨z, tk, q ▸ h1⟩
  have pv : (vs.map Builtin.Re.reRawOf).Perm (els.toList.map keyOf) := by
    have q := pm.map Builtin.Re.reRawOf
    rwa [List.map_map] at q
  have lz : vs.length ≤ sizeLine := by
    unfold scanBound at few
    rw [lv, sizeLine_eq]; omega
  refine wpAny_bind (wpAny_newList ?_ lz)
  have at1 : (s1.heap.push (seqObj "list" vs.toArray 0)).get? s1.heap.objs.size = some (seqObj "list" vs.toArray 0) := Heap.get?_push_size _ rfl
  refine wpAny_bind (wpAny_holding (wpAny_call_entry slot_list_sort ⟨_, at1, rfl⟩ entry_list_sort (SrtO.list_sort_ord SrtO.swo_int at1 lz (fun h2 => SrtO.ints_sortable iv h2) fun out h1 h2 => ⟨.none, rfl, ?_⟩) (args_list_sort _)))
  obtain ⟨k1, k2, k3⟩ := SrtO.ints_out iv h1 h2
  obtain ⟨c, hc⟩ := PyProof.Rows.sortedHeap_at (vs := vs) (out := out.toArray) at1
  have pn := k2.trans pv
  refine wpAny_pure ⟨_, rfl, k _ s1.heap.objs.size out.toArray c (out.map SrtO.iv) (fun b u e => ?_) e1 e2 big hc (by simpa using k1) (lt_of_le_nodup _ k3 (pn.nodup_iff.mpr nd)) fun z => by rw [pn.mem_iff, ← mem z]⟩
  have q := keep b u e
  have ltb := Heap.lt_size q
  show (sortedHeap (s1.heap.push (seqObj "list" vs.toArray 0)) s1.heap.objs.size vs out.toArray).get? b = some u
  rw [sortedHeap_old (Nat.ne_of_lt ltb) (by rw [size_push']; exact Nat.lt_succ_of_lt ltb)]
  exact Heap.get?_push_of_some _ q
/-- sorted(set(xs)), xs a list or a tuple of ints -/
def tSortSet (K : PySem.W.Frag) (ta : TE) : TE := fun σ H Q => ta σ H fun x H1 => ∃ (l : Addr) (ns : List Int), x = .ref l ∧ (SqL K H1 l (ns.map V.int) ∨ SqT K H1 l (ns.map V.int)) ∧ ns.length ≤ 4000 ∧
  ∀ (ms : List Int) p, ms.Pairwise (· < ·) → (∀ z, z ∈ ms ↔ z ∈ ns) → H1 p = none → Q (.ref p) (upd H1 p (.lst (ms.map V.int)))
theorem pe_sortSet {X : Cx} {a : Expr} {ta : TE} {p p2 q pos : Pos} (hg : Gl X "sorted") (hm : X.mg "sorted" = none) (hg2 : Gl X "set") (hm2 : X.mg "set" = none) (ha : PE X a ta) (hc : X.calm = true := by rfl)
    (na : starEach [a] X.env = (false, eval a X.env) :: starEach [] X.env := by rfl) : PE X (.Call (.Name "sorted" p) [.Call (.Name "set" p2) [a] [] q] [] pos) (tSortSet X.K ta) := by
  refine ⟨fun pins s σ H Q I h => ?_⟩
  refine Call_ (ld_blt I hg hm PyProof.Rows.boot_sorted ?_)
  refine PyProof.Rows.callWith_builtin1 (PyProof.Rows.args_cons ?_ rfl) rfl rfl
  refine Call_ (ld_blt I hg2 hm2 boot_set ?_)
  refine PyProof.Rows.callWith_type1 (PyProof.Rows.args_cons (thn (ha.run pins s σ H _ I h) fun v s1 ⟨x, H1, I1, r1, q1⟩ => PyProof.Rows.args_nil ?_) na) na rfl
  obtain ⟨l, ns, rfl, hq, hl, q1⟩ := q1
  cases r1
  have fin : ∀ (sx : Shared) (ad : Addr) (c : Nat), Inv X pins σ H1 sx → SetR X.w sx.heap ad (fun j => decide (j ∈ ns)) c → wpAny (model X.prog X.w) X.A (call (.builtin "sorted") [.ref ad]) (EP X pins σ Q) X.xe sx := by
    intro sx ad c I2 R
    refine sorted_setA R (I1.ok.hd hc) fun s2 p out c2 ms k g o hp hg hi hs hm => ?_
    have le : ms.length ≤ ns.length := M.nd_le (hs.imp fun {a b} h e => by omega) fun z hz => of_decide_eq_true ((hm z).mp hz)
    have hlen : (ms.map V.int).length ≤ sizeLine := by rw [List.length_map, sizeLine_eq]; omega
    have hn : H1 p = none := I2.hok.fresh hp
    have J : Inv X pins σ (upd H1 p (.lst (ms.map V.int))) { sx with heap := s2.heap, gens := s2.gens, drawn := s2.drawn, toks := s2.toks } :=
      I2.call (ch := []) (Un.laid k hp hn) (I2.hok.laid k hp ⟨hlen, out.toList, c2, vals_of_ints hi, hg⟩) (by rw [g]; exact I2.bare) (fun _ z => nomatch z)
    have e : s2 = { sx with heap := s2.heap, gens := s2.gens, drawn := s2.drawn, toks := s2.toks } := by
      cases s2
      cases sx
      cases o
      rfl
    rw [e]
    exact ⟨.ref p, _, J, rfl, q1 ms p hs (fun z => by rw [hm z, decide_eq_true_eq]) hn⟩
  rcases hq with hq | hq
  · obtain ⟨its, r, pl, hz⟩ := I1.list hq
    exact set_ofList ns (I1.ok.hd hc) pl.isList (by simpa using r.ints) (by unfold scanBound; omega) fun h' tk c R cl hk => PyProof.Rows.args_nil (fin _ _ c (I1.kept hk) R)
  · obtain ⟨its, r, pl, hz⟩ := I1.tuple hq
    exact call_set_tupI ns (I1.ok.hd hc) pl (by simpa using r.ints) (by unfold scanBound; omega) fun h' tk c R cl hk => PyProof.Rows.args_nil (fin _ _ c (I1.kept hk) R)
end L2
namespace M
open PySem PySem.Spec PyProof PyProof.Rows L2
def mSortSet (m : MTE) : MTE := fun env h Q => m env h fun x h1 => ∃ ns : List Int, ((∃ a, x = .ref a ∧ h1 a = some (.lst (ns.map .int))) ∨ x = .tup (ns.map .int)) ∧ ns.length ≤ 4000 ∧ ∀ (ms : List Int) p, ms.Pairwise (· < ·) → (∀ z, z ∈ ms ↔ z ∈ ns) → h1 p = none → Q (.ref p) (up h1 p (.lst (ms.map .int)))
theorem ie_sortSet {X : Cx} {Hb : Hp} {a : Expr} {ma : MTE} {p p2 q pos : Pos} (hm : X.mg "sorted" = none) (hm2 : X.mg "set" = none) (ha : IE X Hb a ma) (hg : Gl X "sorted" := by rfl) (hg2 : Gl X "set" := by rfl) (hc : X.calm = true := by rfl)
    (na : starEach [a] X.env = (false, eval a X.env) :: starEach [] X.env := by rfl) : IE X Hb (.Call (.Name "sorted" p) [.Call (.Name "set" p2) [a] [] q] [] pos) (mSortSet ma) := by
  refine pe_w (pe_sortSet hg hm hg2 hm2 ha hc na) fun σ H Q ⟨env, h, Q0, re, rh, m, f⟩ => ?_
  refine ⟨env, h, _, re, rh, m, fun x h1 ⟨ns, hx, l, q⟩ vx H1 t1 r1 rx => ?_⟩
  have f1 := Fin.mono t1 f
  have fin : ∀ (ms : List Int) p, ms.Pairwise (· < ·) → (∀ z, z ∈ ms ↔ z ∈ ns) → H1 p = none → Q (.ref p) (upd H1 p (.lst (ms.map V.int))) := fun ms p a1 a2 np =>
    f1 _ _ (q ms p a1 a2 (r1.free np)) _ _ (.new np) (r1.new np (ro_lst .of_ints)) rv_ref
  rcases hx with ⟨a, rfl, e⟩ | rfl
  · obtain ⟨ws, E, rs⟩ := r1.lst e
    rw [rs.ints] at E
    rw [rx.ref]
    exact ⟨a, ns, rfl, .inl (.of E), l, fin⟩
  · obtain ⟨a, vs, rfl, ta, rs⟩ := rx.tup
    rw [rs.ints] at ta
    exact ⟨a, ns, rfl, .inr ta, l, fin⟩
end M

namespace L2
open PySem PySem.Spec PyProof.Rows
section
variable {X : Cx} {e : Expr} {te : St → Hp → (Int → Int → Hp → Prop) → Prop}
def rgS (a b : Int) : Int := preSum (fun i => a + (i : Int)) (b - a).toNat
def tSumRg (te : St → Hp → (Int → Int → Hp → Prop) → Prop) : TE := fun σ H Q => te σ H fun a b H1 => 0 ≤ a ∧ a ≤ 1000000 ∧ 0 ≤ b ∧ b ≤ 1000000 ∧ Q (.int (rgS a b)) H1
theorem preSum_bd {a : Int} (a0 : 0 ≤ a) (a1 : a ≤ 1000000) : ∀ n : Nat, n ≤ 1000000 → 0 ≤ preSum (fun i => a + (i : Int)) n ∧ preSum (fun i => a + (i : Int)) n ≤ (n : Int) * 2000000
  | 0, _ => ⟨Int.le_refl 0, by show (0 : Int) ≤ ((0 : Nat) : Int) * 2000000; omega⟩
  | n + 1, h => by
    obtain ⟨c, d⟩ := preSum_bd a0 a1 n (by omega)
    show 0 ≤ preSum (fun i => a + (i : Int)) n + (a + (n : Int)) ∧ preSum (fun i => a + (i : Int)) n + (a + (n : Int)) ≤ ((n + 1 : Nat) : Int) * 2000000
    generalize preSum (fun i => a + (i : Int)) n = x at *
    omega
theorem pe_sumRg {p pos : Pos} (hc : X.calm = true) (hg : Gl X "sum") (hm : X.mg "sum" = none) (he : PRg X e te) (na : starEach [e] X.env = (false, eval e X.env) :: starEach [] X.env := by rfl) (hp : (backTo pos (starEach [] X.env)).any (·.1) = false := by rfl) : PE X (.Call (.Name "sum" p) [e] [] pos) (tSumRg te) := by
  refine ⟨fun pins s σ H Q I h => ?_⟩
  refine Call_ (ld_blt I hg hm boot_sum (PyProof.Rows.callWith_builtin1 (args_cons (thn (he pins s σ H _ I h) fun x s1 ⟨r, a, b, t, u, v, H1, ex, hr, I1, a0, a1, b0, b1, q⟩ => args_nil ?_) na) na hp))
  subst ex
  refine call_sum_walk (wpAny_pyIter_range hr (small_one (by omega) (by omega) (by omega) (by omega)) ?_)
  refine ⟨s1.heap.objs.size, _, _, (b - a).toNat, _, _, fun i => a + (i : Int), rfl, Walks.range (A := X.A.in1) (I1.ok.hd hc) s1.heap.objs.size a 1 (b - a).toNat, ?_, fun c hcm => ?_, fun i v hv => ?_, fun j hj => ?_, fun h' tk t' hk => ?_⟩
  · show IsRangeIter _ _ _ _ _
    rw [← rangeSize_nat a b]
    simpa using Heap.get?_push_size _ rfl
  · rw [List.mem_singleton.mp hcm, Heap.size_push]; exact Nat.lt_succ_self _
  · obtain ⟨t2, e2⟩ := hv
    exact ⟨t2, by rw [e2, Int.mul_one]⟩
  · have b1' := preSum_bd a0 a1 (j + 1) (by omega)
    refine ⟨⟨by show -(2 ^ 63) ≤ a + (j : Int); omega, by show a + (j : Int) < 2 ^ 63; omega⟩, ⟨by omega, by omega⟩⟩
  · refine ⟨.int (rgS a b), H1, (I1.kept (t' := tk) (h' := h') fun c o e => ?_), ⟨_, rfl⟩, q⟩
    exact hk c o (fun hm => Nat.ne_of_lt (Heap.lt_size e) (List.mem_singleton.mp hm)) (Heap.get?_push_of_some _ e)
end
end L2
namespace M
open PySem L2
/-! ### sum(range(b)), sum(range(a, b)) -/
theorem rgS_eq (a b : Int) : L2.rgS a b = (rgI a b).sum := by
  unfold L2.rgS rgI
  generalize (b - a).toNat = n
  induction n with
  | zero => rfl
  | succ n ih =>
    rw [List.range_succ, List.map_append, List.sum_append, ← ih]
    show preSum (fun i => a + (i : Int)) n + (a + (n : Int)) = _
    simp
def mSumR1 (b : MTE) : MTE := fun env h Q => b env h fun y h2 => ∃ j, y = .int j ∧ 0 ≤ j ∧ j ≤ 1000000 ∧ Q (.int (rgI 0 j).sum) h2
def mSumR2 (a b : MTE) : MTE := fun env h Q => a env h fun x h1 => b env h1 fun y h2 => ∃ i j, x = .int i ∧ y = .int j ∧ 0 ≤ i ∧ i ≤ 1000000 ∧ 0 ≤ j ∧ j ≤ 1000000 ∧ Q (.int (rgI i j).sum) h2
section
variable {X : Cx} {Hb : Hp} {a b : Expr} {ma mb : MTE} {pos p p2 pa : Pos}
theorem ie_sumR1 (hm : X.mg "sum" = none) (hr : X.mg "range" = none) (hb : IE X Hb b mb) (hc : X.calm = true := by rfl) (hg : Gl X "sum" := by rfl) (hg2 : Gl X "range" := by rfl) (nb : starEach [b] X.env = (false, eval b X.env) :: starEach [] X.env := by rfl)
    (na2 : starEach [.Call (.Name "range" p2) [b] [] pa] X.env = (false, eval (.Call (.Name "range" p2) [b] [] pa) X.env) :: starEach [] X.env := by rfl) (hp : (backTo pos (starEach [] X.env)).any (·.1) = false := by rfl) : IE X Hb (.Call (.Name "sum" p) [.Call (.Name "range" p2) [b] [] pa] [] pos) (mSumR1 mb) := by
  refine pe_w (pe_sumRg hc hg hm (prg_1 hg2 hr hb nb) na2 hp) fun σ H Q ⟨env, h, Q0, re, rh, m, f⟩ => ?_
  refine ⟨env, h, _, re, rh, m, ?_⟩
  rintro d h1 q1 v H1 t1 r1 rx
  obtain ⟨j, rfl, j0, j1, q⟩ := q1
  rw [rx.int]
  refine ⟨j, rfl, by omega, by omega, j0, j1, ?_⟩
  rw [rgS_eq]
  exact f _ _ q _ _ t1 r1 rv_int
theorem ie_sumR2 (hm : X.mg "sum" = none) (hr : X.mg "range" = none) (ha : IE X Hb a ma) (hb : IE X Hb b mb) (hc : X.calm = true := by rfl) (hg : Gl X "sum" := by rfl) (hg2 : Gl X "range" := by rfl) (na : starEach [a, b] X.env = (false, eval a X.env) :: starEach [b] X.env := by rfl)
    (nb : starEach [b] X.env = (false, eval b X.env) :: starEach [] X.env := by rfl) (hp : (backTo pa (starEach [b] X.env)).any (·.1) = false := by rfl)
    (na2 : starEach [.Call (.Name "range" p2) [a, b] [] pa] X.env = (false, eval (.Call (.Name "range" p2) [a, b] [] pa) X.env) :: starEach [] X.env := by rfl) (hp2 : (backTo pos (starEach [] X.env)).any (·.1) = false := by rfl) : IE X Hb (.Call (.Name "sum" p) [.Call (.Name "range" p2) [a, b] [] pa] [] pos) (mSumR2 ma mb) := by
  refine pe_w (pe_sumRg hc hg hm (prg_2 hg2 hr ha hb na nb hp) na2 hp2) fun σ H Q ⟨env, h, Q0, re, rh, m, f⟩ => ?_
  refine ⟨env, h, _, re, rh, m, ?_⟩
  rintro d h1 q1 v H1 t1 r1 rx
  refine ⟨env, h1, _, re.mono t1, r1, q1, ?_⟩
  rintro d2 h2 ⟨i, j, rfl, rfl, i0, i1, j0, j1, q⟩ v2 H2 t2 r2 rx2
  rw [(rx.mono t2).int, rx2.int]
  refine ⟨i, j, rfl, rfl, i0, i1, j0, j1, ?_⟩
  rw [rgS_eq]
  exact f _ _ q _ _ (t1.trans t2) r2 rv_int
end
end M

namespace SrtR
open PySem PySem.Spec PyProof PyProof.Rows SrtO
section
variable {prog : Program} {w : World} {A : Around} {s : Shared} {E : Value → Shared → Prop}
/-- sorted(t, ..) of a tuple by keywords that say reverse=b -/
theorem sorted_ordKT {l : Addr} {vs : List Value} {b : Bool} {kw : List (Str × Value)} {ltv : Value → Value → Bool} {Q : Value → Shared → Prop} (hk : ∀ a, Builtin.«list.sort» ⟨[.ref a], kw⟩ = Builtin.«list.sort» ⟨[.ref a], [(Str.ofString "reverse", .bool b)]⟩)
    (ha1 : argsOk "sorted" ⟨[.ref l], kw⟩) (ha2 : ∀ a, argsOk "list.sort" ⟨[a], kw⟩) (O : Swo ltv) (hl : IsTup s.heap l vs.toArray) (hz : vs.length ≤ sizeLine)
    (hS : 2 ≤ vs.length → ∀ (h₁ : Heap) (a : Addr), h₁.get? a = some (seqObj "list" vs.toArray 0) → (∀ b o, s.heap.get? b = some o → b ≠ a ∧ h₁.get? b = some o) → SortableO prog w A.in1.in1 { s with heap := h₁ } a vs ltv)
    (h : ∀ out : List Value, Srtd ltv out → Stb ltv out (if b = true then vs.reverse else vs) → Q (.ref (s.heap.objs.size + 1)) { s with heap := sortedAll s.heap vs (if b = true then out.toArray.reverse else out.toArray) }) :
    wpAny (model prog w) A (call (.builtin "sorted") [.ref l] kw) Q E s := by
  refine call_function_entry_kw kind_sorted plain_sorted entry_sorted ha1 ?_
  unfold Builtin.«sorted»
  refine wpAny_bind (m := checkCount "sorted" 1 1 _) (wpAny_pure ?_)
  refine wpAny_bind (collect_tup hl ?_ hz)
  refine wpAny_bind (wpAny_newList ?_ hz)
  have hsz : ((s.heap.push (seqObj "list" #[] 0)).update s.heap.objs.size (Obj.mapSeq (· ++ vs.toArray))).objs.size = s.heap.objs.size + 1 := by
    rw [Heap.size_update, size_push']
  have hoL : (((s.heap.push (seqObj "list" #[] 0)).update s.heap.objs.size (Obj.mapSeq (· ++ vs.toArray))).push (seqObj "list" vs.toArray 0)).get? (s.heap.objs.size + 1) = some (seqObj "list" vs.toArray 0) := by
    rw [← hsz]; exact Heap.get?_push_size _ rfl
  have keep : ∀ b o, s.heap.get? b = some o → b ≠ s.heap.objs.size + 1 ∧ (((s.heap.push (seqObj "list" #[] 0)).update s.heap.objs.size (Obj.mapSeq (· ++ vs.toArray))).push (seqObj "list" vs.toArray 0)).get? b = some o := fun b o q => by
    have hlt : b < s.heap.objs.size := Heap.lt_size q
    refine ⟨Nat.ne_of_lt (Nat.lt_succ_of_lt hlt), Heap.get?_push_of_some _ ?_⟩
    rw [Heap.get?_update_ne _ _ _ _ (Nat.ne_of_lt hlt)]
    exact Heap.get?_push_of_some _ q
  show wpAny _ _ _ _ _ { s with heap := ((s.heap.push (seqObj "list" #[] 0)).update s.heap.objs.size (Obj.mapSeq (· ++ vs.toArray))).push (seqObj "list" vs.toArray 0) }
  rw [hsz]
  refine wpAny_bind (wpAny_holding (wpAny_call_entry_kw slot_list_sort ⟨_, hoL, rfl⟩ entry_list_sort ?_ (ha2 _)))
  rw [hk]
  refine list_sort_ordR O hoL hz (fun h2 => hS h2 _ _ hoL keep) fun out hs hb => ⟨_, rfl, ?_⟩
  exact wpAny_pure ⟨_, rfl, h out hs hb⟩
end
end SrtR
namespace L2
open PySem PySem.Spec PyProof.Rows
def rSortedKwT (K : PySem.W.Frag) (b : Bool) (zs0 : List V) : List V → List V → Hp → VK → Prop := fun vs zs H Q => ∃ (a : Addr) (ns : List Int), vs = [V.ref a] ∧ zs = zs0 ∧ SqT K H a (ns.map V.int) ∧
  ∀ (ns' : List Int) (p : Addr), ns'.Perm ns → OrdB b ns' → H p = none → Q (.ref p) (upd H p (.lst (ns'.map V.int)))
theorem cr_sortedRevT {X : Cx} {b : Bool} : CallRK X (.builtin "sorted") [Str.ofString "reverse"] (rSortedKwT X.K b [.bl b]) := by
  intro pins s σ H vs zs us ws Q I r rz h
  obtain ⟨a, ns, rfl, rfl, hs, q⟩ := h
  obtain rfl := Vals.ref1 r
  obtain ⟨w1, rfl, e1⟩ := vals1 rz
  obtain rfl : w1 = Value.bool b := e1
  obtain ⟨its, rv, hl, hz⟩ := I.tuple hs
  have hi := rv.ints
  refine SrtR.sorted_ordKT (fun _ => rfl) (PyProof.Rows.args_sorted_rev _ _) (fun _ => PyProof.Rows.args_list_sort_rev _ _) SrtO.swo_int hl (by rw [← rv.length]; exact hz) (fun h2 h₁ a' _ _ => SrtO.ints_sortable hi h2) fun out h1 h2 => ?_
  obtain ⟨ns', k1, k2, k3⟩ := SrtR.ints_outR hi h1 h2
  obtain ⟨ep, he'⟩ := PyProof.Rows.sortedAll_at s.heap its (if b = true then out.toArray.reverse else out.toArray)
  have hlen : (ns'.map V.int).length ≤ sizeLine := by
    rw [List.length_map, k2.length_eq]
    rw [List.length_map] at hz
    exact hz
  have e0 : ((if b = true then out.toArray.reverse else out.toArray).toList).toArray = (if b = true then out.toArray.reverse else out.toArray) := by rw [Array.toArray_toList]
  exact ⟨.ref _, upd H (s.heap.objs.size + 1) (.lst (ns'.map V.int)), I.laid (t' := s.toks) (fun _ _ => PyProof.Rows.sortedAll_old) (Nat.le_succ _) ⟨hlen, _, ep, vals_of_ints k1, by rw [e0]; exact he'⟩, rfl, q _ _ k2 k3 (I.hok.fresh (Nat.le_succ _))⟩
end L2
namespace M
open PySem L2 PySem.Spec PyProof PyProof.Rows
/-! ### sorted(t, reverse=True), t a tuple of ints -/
def mSortRev (m : MTE) : MTE := fun env h Q => m env h fun x h1 => ∃ ns : List Int, x = .tup (ns.map .int) ∧ ∀ (ms : List Int) p, ms.Perm ns → ms.Pairwise (· ≥ ·) → h1 p = none → Q (.ref p) (up h1 p (.lst (ms.map .int)))
section
variable {X : Cx} {Hb : Hp} {e : Expr} {me : MTE} {p pos kp cp : Pos} {ck : Nat}
theorem ie_sortRev (hm : X.mg "sorted" = none) (he : IE X Hb e me) (hg : Gl X "sorted" := by rfl)
    (na : starEach [e] X.env = (false, eval e X.env) :: starEach [] X.env := by rfl)
    (h1 : backTo pos (starEach [e] X.env) = (false, eval e X.env) :: backTo pos (starEach [] X.env) := by rfl) (hpl : (backTo pos (starEach [e] X.env)).any (·.1) = false := by rfl)
    (hall : (backToKw pos (keywordEach [⟨some (Str.ofString "reverse"), .Constant (.bool true) ck cp, kp⟩] X.env)).all (·.1.isSome) = true := by rfl) (hnone : (backToKw pos (keywordEach [⟨some (Str.ofString "reverse"), .Constant (.bool true) ck cp, kp⟩] X.env)).any (·.1.isNone) = false := by rfl)
    (hks : (backToKw pos (keywordEach [⟨some (Str.ofString "reverse"), .Constant (.bool true) ck cp, kp⟩] X.env)).filterMap (·.1) = [Str.ofString "reverse"] := by rfl) :
    IE X Hb (.Call (.Name "sorted" p) [e] [⟨some (Str.ofString "reverse"), .Constant (.bool true) ck cp, kp⟩] pos) (mSortRev me) := by
  refine pe_w (pe_callBK (cr_sortedRevT (b := true)) hg hm PyProof.Rows.boot_sorted (pa_cons he pa_nil na) (pk_cons pe_bl pk_nil) (he := h1) (hpl := hpl) (hall := hall) (hnone := hnone) (hks := hks)) fun σ H Q ⟨env, h, Q0, re, rh, m, f⟩ => ?_
  refine ⟨env, h, _, re, rh, m, ?_⟩
  rintro d h1 ⟨ns, rfl, q⟩ v H1 t1 r1 rx
  obtain ⟨a, vs, rfl, ta, rs⟩ := rx.tup
  rw [rs.ints] at ta
  exact ⟨a, ns, rfl, rfl, ta, fun ns' p h1 h2 np => f _ _ (q ns' p h1 h2 (r1.free np)) _ _ (t1.trans (.new np)) (r1.new np (ro_lst .of_ints)) rv_ref⟩
end
end M

namespace FrM
theorem gcd_fmod (a b : Int) : Int.gcd b (a.fmod b) = Int.gcd a b := by
  have h : a.fmod b = a - b * (a.fdiv b) := by
    have := Int.mul_fdiv_add_fmod a b
    omega
  rw [h, Int.gcd_comm a b]
  exact Int.gcd_sub_mul_left_right b a (a.fdiv b)
theorem gcd_emod (a b : Int) : Int.gcd b (a % b) = Int.gcd a b := by
  have h : a % b = a - b * (a / b) := by
    have := Int.mul_ediv_add_emod a b
    omega
  rw [h, Int.gcd_comm a b]
  exact Int.gcd_sub_mul_left_right b a (a / b)
theorem fmod_lt (a b : Int) (h : b ≠ 0) : (a.fmod b).natAbs < b.natAbs := by
  have key : ∀ a b : Int, 0 < b → (a.fmod b).natAbs < b.natAbs := fun a b c => by
    have h1 := Int.fmod_nonneg_of_pos a c
    have h2 := Int.fmod_lt_of_pos a c
    omega
  rcases Int.lt_or_gt_of_ne h with c | c
  · have h1 := key (-a) (-b) (by omega)
    rw [Int.neg_fmod_neg] at h1
    omega
  · exact key a b c
def by' (a b : Int) : Int := if b < 0 then -(Int.gcd a b : Int) else (Int.gcd a b : Int)
/-- in lowest terms -/
def fr (a b : Int) : Int × Int := (a / by' a b, b / by' a b)
theorem gcd_pos {a b : Int} (h : b ≠ 0) : 0 < Int.gcd a b := Nat.pos_of_ne_zero fun e => h (Int.gcd_eq_zero_iff.mp e).2
theorem by_ne {a b : Int} (h : b ≠ 0) : by' a b ≠ 0 := by
  have := gcd_pos (a := a) h
  unfold by'
  split <;> omega
theorem by_dvdL (a b : Int) : by' a b ∣ a := by
  unfold by'
  split
  · exact Int.neg_dvd.mpr (Int.gcd_dvd_left a b)
  · exact Int.gcd_dvd_left a b
theorem by_dvdR (a b : Int) : by' a b ∣ b := by
  unfold by'
  split
  · exact Int.neg_dvd.mpr (Int.gcd_dvd_right a b)
  · exact Int.gcd_dvd_right a b
theorem fr1 (a b : Int) : (fr a b).1 * by' a b = a := Int.ediv_mul_cancel (by_dvdL a b)
theorem fr2 (a b : Int) : (fr a b).2 * by' a b = b := Int.ediv_mul_cancel (by_dvdR a b)
theorem fr_cross (a b : Int) : (fr a b).1 * b = a * (fr a b).2 := by
  have h1 := fr1 a b
  have h2 := fr2 a b
  generalize (fr a b).1 = x at *
  generalize (fr a b).2 = y at *
  generalize by' a b = g at *
  subst h1 h2
  grind
theorem fr_pos {a b : Int} (h : b ≠ 0) : 1 ≤ (fr a b).2 := by
  have h2 := fr2 a b
  have hg := gcd_pos (a := a) h
  have e : by' a b = if b < 0 then -(Int.gcd a b : Int) else (Int.gcd a b : Int) := rfl
  generalize (fr a b).2 = y at *
  by_cases c : b < 0
  · rw [if_pos c] at e
    rw [e] at h2
    have hg' : (0 : Int) < Int.gcd a b := by omega
    generalize (Int.gcd a b : Int) = g at *
    by_cases hy : 1 ≤ y
    · exact hy
    · have : 0 ≤ y * -g := Int.mul_nonneg_of_nonpos_of_nonpos (by omega) (by omega)
      omega
  · rw [if_neg c] at e
    rw [e] at h2
    have hg' : (0 : Int) < Int.gcd a b := by omega
    generalize (Int.gcd a b : Int) = g at *
    by_cases hy : 1 ≤ y
    · exact hy
    · have : y * g ≤ 0 := Int.mul_nonpos_of_nonpos_of_nonneg (by omega) (by omega)
      omega
theorem fr_gcd {a b : Int} (h : b ≠ 0) : Int.gcd (fr a b).2 (fr a b).1 = 1 := by
  rw [Int.gcd_comm]
  unfold fr by'
  split
  · simp only [Int.ediv_neg, Int.neg_gcd, Int.gcd_neg]
    exact Int.gcd_ediv_gcd_ediv_gcd (gcd_pos h)
  · exact Int.gcd_ediv_gcd_ediv_gcd (gcd_pos h)
theorem abs_dvd {x y g : Int} (h : x * g = y) (hg : g ≠ 0) : x.natAbs ≤ y.natAbs := by
  rw [← h, Int.natAbs_mul]
  exact Nat.le_mul_of_pos_right _ (by omega)
theorem fr_le1 {a b : Int} (h : b ≠ 0) : (fr a b).1.natAbs ≤ a.natAbs := abs_dvd (fr1 a b) (by_ne h)
theorem fr_le2 {a b : Int} (h : b ≠ 0) : (fr a b).2.natAbs ≤ b.natAbs := abs_dvd (fr2 a b) (by_ne h)
theorem gcd_log {a b : Int} {n : Nat} (h : b ≠ 0) (hn : b.natAbs.log2 < n) : (Int.gcd a b).log2 < n := by
  have h1 : Int.gcd a b ≤ b.natAbs := Nat.le_of_dvd (by omega) (Int.natAbs_dvd_natAbs.mpr (Int.gcd_dvd_right a b))
  have h2 : b.natAbs < 2 ^ n := (Nat.log2_lt (by omega)).mp hn
  exact (Nat.log2_lt (by have := gcd_pos (a := a) h; omega)).mpr (by omega)
end FrM

namespace FrM
theorem rat_self (q : Rat) : q * (q.den : Rat) = (q.num : Rat) := by
  have h := Rat.num_divInt_den q
  rw [Rat.divInt_eq_div] at h
  have hd : ((q.den : Int) : Rat) ≠ 0 := by
    have := q.den_nz
    exact_mod_cast this
  have e : ((q.den : Int) : Rat) = (q.den : Rat) := by norm_cast
  rw [e] at h hd
  generalize (q.den : Rat) = x at *
  generalize (q.num : Rat) = y at *
  rw [← h]
  grind
theorem fr_rat {a b : Int} (h : b ≠ 0) : fr a b = (((a : Rat) / (b : Rat)).num, (((a : Rat) / (b : Rat)).den : Int)) := by
  rw [← Rat.divInt_eq_div, Rat.num_divInt, Rat.den_divInt, if_neg h, Int.gcd_comm b a]
  have g1 := Int.gcd_dvd_left a b
  have g2 := Int.gcd_dvd_right a b
  have gp := gcd_pos (a := a) h
  unfold fr by'
  by_cases c : b < 0
  · rw [if_pos c, Int.sign_eq_neg_one_of_neg c]
    refine Prod.ext ?_ ?_
    · show a / -(Int.gcd a b : Int) = -1 * a / (Int.gcd a b : Int)
      rw [Int.ediv_neg, Int.neg_mul, Int.one_mul, Int.neg_ediv_of_dvd g1]
    · show b / -(Int.gcd a b : Int) = ((b.natAbs / Int.gcd a b : Nat) : Int)
      rw [Int.ediv_neg, ← Int.neg_ediv_of_dvd g2, Int.natCast_ediv]
      congr 1
      omega
  · rw [if_neg c, Int.sign_eq_one_of_pos (by omega)]
    refine Prod.ext ?_ ?_
    · show a / (Int.gcd a b : Int) = 1 * a / (Int.gcd a b : Int)
      rw [Int.one_mul]
    · show b / (Int.gcd a b : Int) = ((b.natAbs / Int.gcd a b : Nat) : Int)
      rw [Int.natCast_ediv]
      congr 1
      omega
/-! ### N times q is whole -/
def Iz (N : Nat) (q : Rat) : Prop := ∃ z : Int, q * (N : Rat) = (z : Rat)
theorem Iz.add {N : Nat} {p q : Rat} (a : Iz N p) (b : Iz N q) : Iz N (p + q) := by
  obtain ⟨x, hx⟩ := a
  obtain ⟨y, hy⟩ := b
  exact ⟨x + y, by rw [Rat.intCast_add, ← hx, ← hy]; grind⟩
theorem Iz.sub {N : Nat} {p q : Rat} (a : Iz N p) (b : Iz N q) : Iz N (p - q) := by
  obtain ⟨x, hx⟩ := a
  obtain ⟨y, hy⟩ := b
  exact ⟨x - y, by rw [Rat.intCast_sub, ← hx, ← hy]; grind⟩
theorem Iz.mul {N M : Nat} {p q : Rat} (a : Iz N p) (b : Iz M q) : Iz (N * M) (p * q) := by
  obtain ⟨x, hx⟩ := a
  obtain ⟨y, hy⟩ := b
  exact ⟨x * y, by rw [Rat.intCast_mul, Rat.natCast_mul, ← hx, ← hy]; grind⟩
theorem Iz.up {N M : Nat} {p : Rat} (a : Iz N p) (h : N ∣ M) : Iz M p := by
  obtain ⟨c, rfl⟩ := h
  obtain ⟨x, hx⟩ := a
  exact ⟨x * (c : Int), by
    rw [Rat.intCast_mul, Rat.natCast_mul, ← hx]
    have : ((c : Int) : Rat) = (c : Rat) := by norm_cast
    rw [this]; grind⟩
theorem Iz.int (N : Nat) (z : Int) : Iz N (z : Rat) := ⟨z * N, by
  rw [Rat.intCast_mul]
  norm_cast⟩
theorem Iz.zero (N : Nat) : Iz N 0 := ⟨0, by rw [Rat.zero_mul]; rfl⟩
theorem Iz.one (N : Nat) : Iz N 1 := ⟨(N : Int), by rw [Rat.one_mul]; norm_cast⟩
theorem Iz.den {N : Nat} {q : Rat} (h : Iz N q) (hN : 0 < N) : q.den ≤ N := by
  obtain ⟨z, hz⟩ := h
  have hd : (N : Rat) ≠ 0 := by
    have : N ≠ 0 := by omega
    exact_mod_cast this
  have e : q = Rat.divInt z (N : Int) := by
    rw [Rat.divInt_eq_div, ← hz]
    have : ((N : Int) : Rat) = (N : Rat) := by norm_cast
    rw [this]
    generalize (N : Rat) = x at *
    grind
  rw [e, Rat.den_divInt, if_neg (by omega), Int.natAbs_natCast]
  exact Nat.div_le_self _ _
/-- of a size that can be reckoned with -/
def Sz (q : Rat) : Prop := q.den < 2 ^ 4000 ∧ q.num.natAbs < 2 ^ 100000
theorem sz_of {q : Rat} {N B : Nat} (h : Iz N q) (hN : 0 < N) (hN2 : N < 2 ^ 4000) (lo : -(B : Rat) ≤ q) (hi : q ≤ (B : Rat)) (hB : B < 2 ^ 90000) : Sz q := by
  have d := h.den hN
  refine ⟨by omega, ?_⟩
  have e := rat_self q
  have dp : (0 : Rat) ≤ (q.den : Rat) := by exact_mod_cast Nat.zero_le _
  have h1 := Rat.mul_le_mul_of_nonneg_left hi dp
  have h2 := Rat.mul_le_mul_of_nonneg_left lo dp
  rw [Rat.mul_comm _ q, e] at h1 h2
  have h1 : q.num ≤ (q.den : Int) * (B : Int) := by exact_mod_cast h1
  have h2 : -((q.den : Int) * (B : Int)) ≤ q.num := by
    have : (q.den : Rat) * -(B : Rat) = -((q.den : Rat) * (B : Rat)) := by grind
    rw [this] at h2
    refine Rat.intCast_le_intCast.mp ?_
    rw [Rat.intCast_neg, Rat.intCast_mul]
    exact h2
  have h3 : q.num.natAbs ≤ q.den * B := by
    have : ((q.den * B : Nat) : Int) = (q.den : Int) * (B : Int) := Int.natCast_mul ..
    omega
  have h4 : q.den * B < 2 ^ 4000 * 2 ^ 90000 := Nat.mul_lt_mul'' (by omega) hB
  have h5 : 2 ^ 4000 * 2 ^ 90000 ≤ 2 ^ 100000 := by rw [← Nat.pow_add]; exact Nat.pow_le_pow_right (by decide) (by decide)
  exact Nat.lt_of_le_of_lt h3 (Nat.lt_of_lt_of_le h4 h5)
end FrM

namespace Th
/-! ### sums -/
def S : Nat → (Nat → Nat) → Nat
  | 0, _ => 0
  | n + 1, f => S n f + f n
theorem S_shift (f : Nat → Nat) : ∀ n, S (n + 1) f = f 0 + S n fun i => f (i + 1)
  | 0 => by simp [S]
  | n + 1 => by
    show S (n + 1) f + f (n + 1) = f 0 + (S n (fun i => f (i + 1)) + f (n + 1))
    rw [S_shift f n, Nat.add_assoc]
theorem S_congr {f g : Nat → Nat} : ∀ n, (∀ i, i < n → f i = g i) → S n f = S n g
  | 0, _ => rfl
  | n + 1, h => by
    show S n f + f n = S n g + g n
    rw [S_congr n fun i hi => h i (by omega), h n (by omega)]
theorem S_add (f g : Nat → Nat) : ∀ n, S n (fun i => f i + g i) = S n f + S n g
  | 0 => rfl
  | n + 1 => by
    show S n (fun i => f i + g i) + (f n + g n) = (S n f + f n) + (S n g + g n)
    rw [S_add f g n]; omega
theorem S_mul (c : Nat) (f : Nat → Nat) : ∀ n, S n (fun i => c * f i) = c * S n f
  | 0 => rfl
  | n + 1 => by
    show S n (fun i => c * f i) + c * f n = c * (S n f + f n)
    rw [S_mul c f n, Nat.mul_add]
theorem S_list (f : Nat → Nat) : ∀ n, ((List.range n).map f).sum = S n f
  | 0 => rfl
  | n + 1 => by rw [List.range_succ, List.map_append, List.sum_append_nat, S_list f n]; simp [S]
theorem S_zero : ∀ n, S n (fun _ => 0) = 0
  | 0 => rfl
  | n + 1 => by show S n _ + 0 = 0; rw [S_zero n]
/-! ### so many of so many -/
def ch : Nat → Nat → Nat
  | _, 0 => 1
  | 0, _ + 1 => 0
  | n + 1, k + 1 => ch n k + ch n (k + 1)
theorem ch_zero (n : Nat) : ch n 0 = 1 := by cases n <;> rfl
theorem ch_succ (n k : Nat) : ch (n + 1) (k + 1) = ch n k + ch n (k + 1) := rfl
theorem ch_gt : ∀ {n k : Nat}, n < k → ch n k = 0
  | _, 0, h => by omega
  | 0, _ + 1, _ => rfl
  | n + 1, k + 1, h => by rw [ch_succ, ch_gt (by omega), ch_gt (by omega)]
theorem ch_self : ∀ n : Nat, ch n n = 1
  | 0 => rfl
  | n + 1 => by rw [ch_succ, ch_self n, ch_gt (by omega)]
theorem ch_mul : ∀ n k : Nat, ch n (k + 1) * (k + 1) = ch n k * (n - k)
  | 0, k => by rw [ch_gt (by omega), Nat.zero_sub, Nat.zero_mul, Nat.mul_zero]
  | n + 1, 0 => by
    have := ch_mul n 0
    rw [ch_succ, ch_zero, ch_zero] at *
    omega
  | n + 1, j + 1 => by
    have h1 := ch_mul n (j + 1)
    have h2 := ch_mul n j
    by_cases c : j + 1 ≤ n
    · have e1 : n + 1 - (j + 1) = (n - (j + 1)) + 1 := by omega
      have e2 : n - j = (n - (j + 1)) + 1 := by omega
      rw [e2] at h2
      rw [ch_succ, ch_succ, e1, Nat.add_mul, h1, Nat.add_mul, ← h2]
      generalize ch n (j + 1) = x
      generalize n - (j + 1) = y
      grind
    · have e1 : n + 1 - (j + 1) = 0 := by omega
      rw [e1, Nat.mul_zero, ch_gt (by omega), Nat.zero_mul]
theorem binom (s : Nat) : ∀ n, S (n + 1) (fun l => ch n l * s ^ (n - l)) = (s + 1) ^ n
  | 0 => rfl
  | n + 1 => by
    rw [S_shift]
    have e1 : S (n + 1) (fun i => ch (n + 1) (i + 1) * s ^ (n + 1 - (i + 1))) = S (n + 1) (fun i => ch n i * s ^ (n - i)) + S (n + 1) fun i => ch n (i + 1) * s ^ (n - i) := by
      rw [← S_add]
      refine S_congr _ fun i hi => ?_
      rw [ch_succ, Nat.add_mul, show n + 1 - (i + 1) = n - i by omega]
    have e2 : S (n + 1) (fun i => ch n (i + 1) * s ^ (n - i)) = s * S n fun i => ch n (i + 1) * s ^ (n - (i + 1)) := by
      show S n _ + ch n (n + 1) * s ^ (n - n) = _
      rw [ch_gt (by omega), Nat.zero_mul, Nat.add_zero, ← S_mul]
      refine S_congr _ fun i hi => ?_
      rw [show n - i = (n - (i + 1)) + 1 by omega, Nat.pow_succ]
      grind
    have e3 := binom s n
    rw [e1, e2, e3]
    rw [S_shift, ch_zero, Nat.one_mul, Nat.sub_zero] at e3
    rw [ch_zero, Nat.one_mul, Nat.sub_zero, Nat.pow_succ, Nat.pow_succ]
    generalize S n _ = x at *
    rw [← e3]
    grind
/-- ways: the greatest one of left, the others below -/
def wy (n sides l : Nat) : Nat := S sides fun s => s ^ (n - l)
/-- the throws of n houses by which l are left -/
def od (n sides l : Nat) : Nat := if 1 ≤ l then ch n l * wy n sides l else 0
theorem od_sum (n : Nat) (hn : 1 ≤ n) : ∀ sides, S (n + 1) (od n sides) = sides ^ n
  | 0 => by
    rw [Nat.zero_pow hn]
    rw [S_congr (g := fun _ => 0) _ fun i _ => by unfold od wy; simp [S], S_zero]
  | sides + 1 => by
    have e : S (n + 1) (od n (sides + 1)) = S (n + 1) (od n sides) + S (n + 1) (fun l => if 1 ≤ l then ch n l * sides ^ (n - l) else 0) := by
      rw [← S_add]
      refine S_congr _ fun i _ => ?_
      unfold od wy
      split
      · rw [show S (sides + 1) (fun s => s ^ (n - i)) = S sides (fun s => s ^ (n - i)) + sides ^ (n - i) from rfl, Nat.mul_add]
      · rfl
    rw [e, od_sum n hn sides]
    have b := binom sides n
    rw [S_shift] at b ⊢
    rw [ch_zero, Nat.one_mul, Nat.sub_zero] at b
    rw [if_neg (by omega), Nat.zero_add]
    rw [← b]
    congr 1
theorem od_le (n sides l : Nat) (hn : 1 ≤ n) (hl : l ≤ n) : od n sides l ≤ sides ^ n := by
  rw [← od_sum n hn sides]
  have key : ∀ (f : Nat → Nat) (m : Nat), l < m → f l ≤ S m f := fun f m => by
    induction m with
    | zero => omega
    | succ m ih =>
      intro h
      show f l ≤ S m f + f m
      by_cases c : l = m
      · subst c; omega
      · have := ih (by omega); omega
  exact key _ _ (by omega)
theorem od_self (n sides : Nat) (hn : 1 ≤ n) : od n sides n = sides := by
  unfold od wy
  rw [if_pos hn, ch_self, Nat.one_mul, Nat.sub_self]
  have : ∀ m, S m (fun s => s ^ 0) = m := fun m => by
    induction m with
    | zero => rfl
    | succ m ih => show S m (fun s => s ^ 0) + m ^ 0 = m + 1; rw [ih, Nat.pow_zero]
  exact this sides
/-! ### sums of fractions -/
def R : Nat → (Nat → Rat) → Rat
  | 0, _ => 0
  | n + 1, f => R n f + f n
theorem R_congr {f g : Nat → Rat} : ∀ n, (∀ i, i < n → f i = g i) → R n f = R n g
  | 0, _ => rfl
  | n + 1, h => by
    show R n f + f n = R n g + g n
    rw [R_congr n fun i hi => h i (by omega), h n (by omega)]
theorem R_add (f g : Nat → Rat) : ∀ n, R n (fun i => f i + g i) = R n f + R n g
  | 0 => by show (0 : Rat) = 0 + 0; grind
  | n + 1 => by
    show R n (fun i => f i + g i) + (f n + g n) = (R n f + f n) + (R n g + g n)
    rw [R_add f g n]; grind
theorem R_mul (c : Rat) (f : Nat → Rat) : ∀ n, R n (fun i => c * f i) = c * R n f
  | 0 => by show (0 : Rat) = c * 0; grind
  | n + 1 => by
    show R n (fun i => c * f i) + c * f n = c * (R n f + f n)
    rw [R_mul c f n]; grind
theorem R_zero : ∀ n, R n (fun _ => 0) = 0
  | 0 => rfl
  | n + 1 => by show R n _ + 0 = 0; rw [R_zero n]; grind
theorem R_swap (f : Nat → Nat → Rat) (m : Nat) : ∀ n, R n (fun i => R m fun j => f i j) = R m fun j => R n fun i => f i j
  | 0 => (R_zero m).symm
  | n + 1 => by
    show R n (fun i => R m fun j => f i j) + R m (fun j => f n j) = R m fun j => R n (fun i => f i j) + f n j
    rw [R_swap f m n, R_add]
theorem R_cast (f : Nat → Nat) : ∀ n, ((S n f : Nat) : Rat) = R n fun i => (f i : Rat)
  | 0 => rfl
  | n + 1 => by
    show ((S n f + f n : Nat) : Rat) = R n _ + _
    rw [Rat.natCast_add, R_cast f n]
theorem R_nonneg {f : Nat → Rat} : ∀ n, (∀ i, i < n → 0 ≤ f i) → 0 ≤ R n f
  | 0, _ => by show (0 : Rat) ≤ 0; grind
  | n + 1, h => by
    have h1 := R_nonneg n fun i hi => h i (by omega)
    have h2 := h n (by omega)
    show 0 ≤ R n f + f n
    grind
theorem R_le {f g : Nat → Rat} : ∀ n, (∀ i, i < n → f i ≤ g i) → R n f ≤ R n g
  | 0, _ => by show (0 : Rat) ≤ 0; grind
  | n + 1, h => by
    have h1 := R_le n fun i hi => h i (by omega)
    have h2 := h n (by omega)
    show R n f + f n ≤ R n g + g n
    grind
theorem R_mono {f : Nat → Rat} (h : ∀ i, 0 ≤ f i) : ∀ {n m : Nat}, n ≤ m → R n f ≤ R m f := fun {n m} => by
  induction m with
  | zero => intro l; rw [show n = 0 by omega]; grind
  | succ m ih =>
    intro l
    by_cases c : n = m + 1
    · subst c; grind
    · have h1 := ih (by omega)
      have h2 := h m
      show _ ≤ R m f + f m
      grind
theorem R_cut {f : Nat → Rat} {n : Nat} : ∀ {m : Nat}, n ≤ m → (∀ i, n ≤ i → f i = 0) → R m f = R n f := fun {m} => by
  induction m with
  | zero => intro l _; rw [show n = 0 by omega]
  | succ m ih =>
    intro l h
    by_cases c : n = m + 1
    · rw [c]
    · show R m f + f m = _
      rw [ih (by omega) h, h m (by omega)]; grind
theorem R_term {f : Nat → Rat} (h : ∀ i, 0 ≤ f i) {i n : Nat} (hi : i < n) : f i ≤ R n f := by
  have h1 := R_mono h (n := i + 1) (m := n) (by omega)
  have h2 := R_nonneg (f := f) i fun j _ => h j
  have h3 : R (i + 1) f = R i f + f i := rfl
  grind
/-- the share of throws of n houses by which l are left -/
def PQ (sides n l : Nat) : Rat := (od n sides l : Rat) / ((sides ^ n : Nat) : Rat)
section
variable {sides : Nat} (hs : 1 ≤ sides)
include hs
theorem pw_pos (n : Nat) : (0 : Rat) < ((sides ^ n : Nat) : Rat) := by
  have : 0 < sides ^ n := Nat.pow_pos hs
  exact_mod_cast this
theorem PQ_mul (n l : Nat) : PQ sides n l * ((sides ^ n : Nat) : Rat) = (od n sides l : Rat) := by
  have := pw_pos hs n
  unfold PQ
  generalize ((sides ^ n : Nat) : Rat) = x at *
  grind
theorem PQ_nonneg (n l : Nat) : 0 ≤ PQ sides n l := by
  have h1 := pw_pos hs n
  have h2 : (0 : Rat) ≤ (od n sides l : Rat) := by exact_mod_cast Nat.zero_le _
  unfold PQ
  rw [Rat.div_def]
  exact Rat.mul_nonneg h2 (Rat.le_of_lt (Rat.inv_pos.mpr h1))
theorem PQ_sum {n : Nat} (hn : 1 ≤ n) : R (n + 1) (PQ sides n) = 1 := by
  have h1 := pw_pos hs n
  have h2 : R (n + 1) (PQ sides n) * ((sides ^ n : Nat) : Rat) = ((sides ^ n : Nat) : Rat) := by
    conv => rhs; rw [← od_sum n hn sides, R_cast]
    rw [Rat.mul_comm, ← R_mul]
    refine R_congr _ fun i _ => ?_
    rw [Rat.mul_comm, PQ_mul hs]
  generalize ((sides ^ n : Nat) : Rat) = x at *
  have hx : x ≠ 0 := fun z => by rw [z] at h1; exact Rat.lt_irrefl h1
  grind
omit hs in
theorem PQ_zero {n l : Nat} (h : l = 0 ∨ n < l) : PQ sides n l = 0 := by
  have : od n sides l = 0 := by
    unfold od
    rcases h with h | h
    · rw [if_neg (by omega)]
    · rw [ch_gt h, Nat.zero_mul]; simp
  unfold PQ
  rw [this]
  show (0 : Rat) / _ = 0
  rw [Rat.div_def]; grind
theorem PQ_le {n l : Nat} (hn : 1 ≤ n) : PQ sides n l ≤ 1 := by
  by_cases c : l < n + 1
  · have := R_term (f := PQ sides n) (PQ_nonneg hs n) c
    rw [PQ_sum hs hn] at this
    exact this
  · rw [PQ_zero (.inr (by omega))]; grind
theorem PQ_self_mul {n : Nat} (hn : 1 ≤ n) : PQ sides n n * ((sides ^ n : Nat) : Rat) = (sides : Rat) := by
  rw [PQ_mul hs, od_self n sides hn]
theorem PQ_one : PQ sides 1 1 = 1 := by
  have h1 := PQ_self_mul hs (n := 1) (by omega)
  have h2 := pw_pos hs 1
  rw [Nat.pow_one] at h1 h2
  generalize (sides : Rat) = x at *
  have hx : x ≠ 0 := fun z => by rw [z] at h2; exact Rat.lt_irrefl h2
  grind
end
/-! ### round by round -/
def step (sides many : Nat) (f : Nat → Rat) (l : Nat) : Rat := R (many + 1) fun n => f n * PQ sides n l
def f0 (many n : Nat) : Rat := if n = many then 1 else 0
def fH (sides many : Nat) : Nat → Nat → Rat
  | 0 => f0 many
  | t + 1 => step sides many (fH sides many t)
/-- shares of how many are left -/
structure Sh (many : Nat) (f : Nat → Rat) : Prop where
  pos : ∀ n, 0 ≤ f n
  z : f 0 = 0
  out : ∀ n, many < n → f n = 0
  one : R (many + 1) f = 1
theorem Sh.le {many n : Nat} {f : Nat → Rat} (h : Sh many f) : f n ≤ 1 := by
  by_cases c : n < many + 1
  · have := R_term h.pos c
    rw [h.one] at this; exact this
  · rw [h.out n (by omega)]; grind
theorem sh0 {many : Nat} (h : 1 ≤ many) : Sh many (f0 many) where
  pos := fun n => by unfold f0; split <;> grind
  z := by unfold f0; rw [if_neg (by omega)]
  out := fun n hn => by unfold f0; rw [if_neg (by omega)]
  one := by
    show R many (f0 many) + f0 many many = 1
    rw [R_congr (g := fun _ => 0) many fun i hi => by unfold f0; rw [if_neg (by omega)], R_zero]
    unfold f0; rw [if_pos rfl]; grind
theorem Sh.step {sides many : Nat} {f : Nat → Rat} (hs : 1 ≤ sides) (h : Sh many f) : Sh many (step sides many f) where
  pos := fun n => R_nonneg _ fun i _ => Rat.mul_nonneg (h.pos i) (PQ_nonneg hs i n)
  z := by
    show R (many + 1) _ = 0
    rw [R_congr (g := fun _ => 0) _ fun i _ => by rw [PQ_zero (.inl rfl)]; grind, R_zero]
  out := fun n hn => by
    show R (many + 1) _ = 0
    rw [R_congr (g := fun _ => 0) _ fun i hi => by rw [PQ_zero (.inr (by omega))]; grind, R_zero]
  one := by
    show R (many + 1) (fun l => R (many + 1) fun n => f n * PQ sides n l) = 1
    rw [R_swap, ← h.one]
    refine R_congr _ fun n hn => ?_
    rw [R_mul]
    by_cases c : n = 0
    · subst c; rw [h.z]; grind
    · rw [R_cut (n := n + 1) (m := many + 1) (by omega) fun i hi => PQ_zero (.inr (by omega)), PQ_sum hs (by omega)]; grind
theorem fH_sh {sides many : Nat} (hs : 1 ≤ sides) (h : 1 ≤ many) : ∀ t, Sh many (fH sides many t)
  | 0 => sh0 h
  | t + 1 => (fH_sh hs h t).step hs
theorem fH_up {sides many : Nat} (hs : 1 ≤ sides) (h : 1 ≤ many) (t : Nat) : fH sides many t 1 ≤ fH sides many (t + 1) 1 := by
  have s := fH_sh hs h t
  have := R_term (f := fun n => fH sides many t n * PQ sides n 1) (fun n => Rat.mul_nonneg (s.pos n) (PQ_nonneg hs n 1)) (show 1 < many + 1 by omega)
  rw [PQ_one hs, Rat.mul_one] at this
  exact this
/-! ### the mean -/
def mm (sides : Nat) : Nat → Nat → Rat
  | 0 => fun _ => 0
  | n + 1 => fun i => if i = n + 1 then (if n = 0 then 0 else (1 + R (n + 1) fun l => PQ sides (n + 1) l * mm sides n l) / (1 - PQ sides (n + 1) (n + 1))) else mm sides n i
def mean (sides n : Nat) : Rat := mm sides n n
theorem mm_eq (sides : Nat) : ∀ n i, i ≤ n → mm sides n i = mean sides i
  | 0, i, h => by rw [show i = 0 by omega]; rfl
  | n + 1, i, h => by
    by_cases c : i = n + 1
    · subst c; rfl
    · show (if i = n + 1 then _ else mm sides n i) = _
      rw [if_neg c]; exact mm_eq sides n i (by omega)
theorem mean_zero (sides : Nat) : mean sides 0 = 0 := rfl
theorem mean_one (sides : Nat) : mean sides 1 = 0 := rfl
theorem mean_rec (sides n : Nat) (h : 2 ≤ n) : mean sides n = (1 + R n fun l => PQ sides n l * mean sides l) / (1 - PQ sides n n) := by
  obtain ⟨m, rfl⟩ : ∃ m, n = m + 1 := ⟨n - 1, by omega⟩
  show (if m + 1 = m + 1 then (if m = 0 then 0 else _) else _) = _
  rw [if_pos rfl, if_neg (by omega)]
  congr 2
  refine R_congr _ fun i hi => ?_
  rw [mm_eq sides m i (by omega)]
section
variable {sides : Nat} (hs : 2 ≤ sides)
include hs
theorem PQ_half {n : Nat} (h : 2 ≤ n) : PQ sides n n ≤ 1 / 2 := by
  have h1 := PQ_self_mul (show 1 ≤ sides by omega) (n := n) (by omega)
  have h2 := pw_pos (show 1 ≤ sides by omega) n
  have h3 : 2 * sides ≤ sides ^ n := by
    have : sides ^ 2 ≤ sides ^ n := Nat.pow_le_pow_right (by omega) h
    rw [Nat.pow_two] at this
    exact Nat.le_trans (Nat.mul_le_mul_right _ hs) this
  have h4 : (2 : Rat) * (sides : Rat) ≤ ((sides ^ n : Nat) : Rat) := by exact_mod_cast h3
  generalize ((sides ^ n : Nat) : Rat) = x at *
  generalize (sides : Rat) = y at *
  generalize PQ sides n n = p at *
  refine Rat.le_of_mul_le_mul_left (c := x) ?_ h2
  grind
theorem mean_eq {n : Nat} (h : 2 ≤ n) : mean sides n = 1 + R (n + 1) fun l => PQ sides n l * mean sides l := by
  have h1 := PQ_half hs h
  have h2 := mean_rec sides n h
  show _ = 1 + (R n _ + PQ sides n n * mean sides n)
  generalize R n _ = x at *
  generalize PQ sides n n = p at *
  generalize mean sides n = m at *
  have : 1 - p ≠ 0 := by grind
  grind
/-- V: the mean of what is left -/
def V (sides many : Nat) (f : Nat → Rat) : Rat := R (many + 1) fun n => f n * mean sides n
theorem V_step {many : Nat} {f : Nat → Rat} (h1 : 1 ≤ many) (h : Sh many f) : V sides many f = (1 - f 1) + V sides many (step sides many f) := by
  have e1 : V sides many f = R (many + 1) (fun n => (f n - (if n = 1 then f 1 else 0)) + R (many + 1) fun l => f n * (PQ sides n l * mean sides l)) := by
    refine R_congr _ fun n hn => ?_
    rw [R_mul, R_cut (f := fun l => PQ sides n l * mean sides l) (n := n + 1) (m := many + 1) (by omega) fun i hi => by rw [PQ_zero (.inr (by omega))]; grind]
    by_cases c0 : n = 0
    · subst c0
      rw [h.z, if_neg (by omega)]; grind
    · by_cases c1 : n = 1
      · subst c1
        rw [if_pos rfl, mean_one]
        have : R (1 + 1) (fun l => PQ sides 1 l * mean sides l) = 0 := by
          show (0 + PQ sides 1 0 * mean sides 0) + PQ sides 1 1 * mean sides 1 = 0
          rw [mean_one, mean_zero]; grind
        rw [this]; grind
      · rw [if_neg c1, mean_eq hs (n := n) (by omega)]
        generalize R (n + 1) _ = x
        grind
  rw [e1, R_add, R_swap]
  have e2 : R (many + 1) (fun n => f n - (if n = 1 then f 1 else 0)) = 1 - f 1 := by
    have a : R (many + 1) (fun n => (f n - (if n = 1 then f 1 else 0)) + (if n = 1 then f 1 else 0)) = R (many + 1) f := R_congr _ fun i _ => by grind
    rw [R_add, h.one] at a
    have b : R (many + 1) (fun n => if n = 1 then f 1 else 0) = f 1 := by
      rw [R_cut (n := 2) (m := many + 1) (by omega) fun i hi => by rw [if_neg (by omega)]]
      show (0 + (if 0 = 1 then f 1 else 0)) + (if 1 = 1 then f 1 else 0) = f 1
      rw [if_neg (by omega), if_pos rfl]; grind
    rw [b] at a
    grind
  rw [e2]
  congr 1
  refine R_congr _ fun l hl => ?_
  show _ = step sides many f l * mean sides l
  unfold step
  rw [Rat.mul_comm, ← R_mul]
  refine R_congr _ fun n hn => ?_
  grind
theorem V_zero {many : Nat} : V sides many (f0 many) = mean sides many := by
  show R many _ + f0 many many * mean sides many = _
  rw [R_congr (g := fun _ => 0) many fun i hi => by unfold f0; rw [if_neg (by omega)]; grind, R_zero]
  unfold f0; rw [if_pos rfl]; grind
theorem mean_law {many : Nat} (h1 : 1 ≤ many) : ∀ t, R t (fun i => 1 - fH sides many i 1) + V sides many (fH sides many t) = mean sides many
  | 0 => by
    show (0 : Rat) + _ = _
    have := V_zero hs (many := many)
    show (0 : Rat) + V sides many (f0 many) = _
    rw [this]; grind
  | t + 1 => by
    have h := V_step hs h1 (fH_sh (show 1 ≤ sides by omega) h1 t)
    have ih := mean_law h1 t
    show (R t _ + (1 - fH sides many t 1)) + V sides many (step sides many (fH sides many t)) = _
    rw [h] at ih
    rw [← ih]
    grind
theorem mean_bd : ∀ n, 0 ≤ mean sides n ∧ mean sides n ≤ ((4 ^ n : Nat) : Rat) := fun n => by
  induction n using Nat.strongRecOn with
  | _ n ih =>
    by_cases c : n < 2
    · have : n = 0 ∨ n = 1 := by omega
      rcases this with rfl | rfl
      · rw [mean_zero]; decide
      · rw [mean_one]; decide
    · have e := mean_rec sides n (by omega)
      have h1 := PQ_half hs (n := n) (by omega)
      have hn : ∀ l, 0 ≤ PQ sides n l := PQ_nonneg (show 1 ≤ sides by omega) n
      have h3 : 0 ≤ R n fun l => PQ sides n l * mean sides l := R_nonneg n fun i hi => Rat.mul_nonneg (hn i) (ih i hi).1
      have h4 : R n (fun l => PQ sides n l * mean sides l) ≤ ((4 ^ (n - 1) : Nat) : Rat) := by
        have a : R n (fun l => PQ sides n l * mean sides l) ≤ R n fun l => ((4 ^ (n - 1) : Nat) : Rat) * PQ sides n l := R_le n fun i hi => by
          have b := (ih i hi).2
          have b2 : ((4 ^ i : Nat) : Rat) ≤ ((4 ^ (n - 1) : Nat) : Rat) := by
            have : 4 ^ i ≤ 4 ^ (n - 1) := Nat.pow_le_pow_right (by omega) (by omega)
            exact_mod_cast this
          rw [Rat.mul_comm _ (PQ sides n i)]
          exact Rat.mul_le_mul_of_nonneg_left (by grind) (hn i)
        rw [R_mul] at a
        have b : R n (PQ sides n) ≤ 1 := by
          have := R_mono hn (n := n) (m := n + 1) (by omega)
          rw [PQ_sum (by omega) (by omega)] at this
          exact this
        have c2 : (0 : Rat) ≤ ((4 ^ (n - 1) : Nat) : Rat) := by exact_mod_cast Nat.zero_le _
        have d := Rat.mul_le_mul_of_nonneg_left b c2
        grind
      have h5 : 2 + 2 * 4 ^ (n - 1) ≤ 4 ^ n := by
        obtain ⟨m, rfl⟩ : ∃ m, n = m + 1 := ⟨n - 1, by omega⟩
        rw [Nat.add_sub_cancel, Nat.pow_succ]
        have := Nat.one_le_two_pow (n := 0)
        have : 1 ≤ 4 ^ m := Nat.one_le_pow _ _ (by omega)
        omega
      have h5 : 2 + 2 * ((4 ^ (n - 1) : Nat) : Rat) ≤ ((4 ^ n : Nat) : Rat) := by exact_mod_cast h5
      have h6 := PQ_nonneg (show 1 ≤ sides by omega) n n
      generalize ((4 ^ (n - 1) : Nat) : Rat) = a at *
      generalize ((4 ^ n : Nat) : Rat) = b at *
      generalize R n _ = x at *
      generalize PQ sides n n = p at *
      generalize mean sides n = m at *
      have hp : 0 < 1 - p := by grind
      have hm : m * (1 - p) = 1 + x := by
        have : 1 - p ≠ 0 := fun z => by rw [z] at hp; exact Rat.lt_irrefl hp
        grind
      have m0 : 0 ≤ m := by
        refine Rat.le_of_mul_le_mul_left (c := 1 - p) ?_ hp
        grind
      refine ⟨m0, Rat.le_of_mul_le_mul_left (c := 1 - p) ?_ hp⟩
      have : (1 / 2) * b ≤ (1 - p) * b := by
        rw [Rat.mul_comm _ b, Rat.mul_comm _ b]
        exact Rat.mul_le_mul_of_nonneg_left (by grind) (by grind)
      grind
end
end Th

/-! phases by halves, plainly -/
namespace M
namespace Law
def hv (row : List (Int × Int)) (k : Nat) : Int := (row.getD k (0, 0)).2
def pv (n d k : Nat) : Nat := (k + n - d) % n
def nkeep (row : List (Int × Int)) (k : Nat) : Bool := decide (hv row k < hv row (pv row.length 1 k)) && decide (hv row (pv row.length 2 k) < hv row (pv row.length 1 k))
def nxf (row : List (Int × Int)) (k : Nat) : Option (Int × Int) := if nkeep row k = true then some ((row.getD k (0, 0)).1, hv row (pv row.length 1 k)) else none
def nxr (row : List (Int × Int)) : List (Int × Int) := (List.range row.length).filterMap (nxf row)
def phs : Nat → List (Int × Int) → List (List (Int × Int))
  | 0, row => [row]
  | f + 1, row => if row.length ≤ 1 then [row] else row :: phs f (nxr row)
theorem maxAt : ∀ (n : Nat) (g : Nat → Int), 0 < n → ∃ k, k < n ∧ ∀ j, j < n → g j ≤ g k
  | 1, g, _ => ⟨0, by omega, fun j hj => by rw [show j = 0 by omega]; exact Int.le_refl _⟩
  | n + 2, g, _ => by
    obtain ⟨k, hk, h⟩ := maxAt (n + 1) g (by omega)
    by_cases c : g k ≤ g (n + 1)
    · exact ⟨n + 1, by omega, fun j hj => by
        by_cases e : j = n + 1
        · rw [e]; exact Int.le_refl _
        · exact Int.le_trans (h j (by omega)) c⟩
    · exact ⟨k, by omega, fun j hj => by
        by_cases e : j = n + 1
        · rw [e]; omega
        · exact h j (by omega)⟩
theorem pv_lt {n d k : Nat} (h : 0 < n) : pv n d k < n := Nat.mod_lt _ h
theorem nxr_lt {row : List (Int × Int)} (h : 1 < row.length) : (nxr row).length < row.length := by
  obtain ⟨k, hk, hm⟩ := maxAt row.length (hv row) (by omega)
  have e : nxf row k = none := by
    unfold nxf nkeep
    have := hm _ (pv_lt (n := row.length) (d := 1) (k := k) (by omega))
    rw [decide_eq_false (show ¬ hv row k < hv row (pv row.length 1 k) by omega), Bool.false_and, if_neg Bool.false_ne_true]
  have := (List.length_filterMap_lt_length_iff_exists (xs := List.range row.length) (f := nxf row)).mpr ⟨k, List.mem_range.mpr hk, e⟩
  rw [List.length_range] at this
  exact this
theorem phs_one {f : Nat} {row : List (Int × Int)} (h : row.length ≤ 1) : phs f row = [row] := by
  cases f with
  | zero => rfl
  | succ f => show (if row.length ≤ 1 then [row] else _) = _; rw [if_pos h]
theorem phs_more {f : Nat} {row : List (Int × Int)} (h : 1 < row.length) : phs (f + 1) row = row :: phs f (nxr row) := by
  show (if row.length ≤ 1 then [row] else _) = _; rw [if_neg (by omega)]
theorem phs_len : ∀ (f : Nat) (row : List (Int × Int)), (phs f row).length ≤ f + 1 ∧ ∀ r ∈ phs f row, r.length ≤ row.length
  | 0, row => ⟨by show 1 ≤ 1; omega, fun r hr => by rw [List.mem_singleton.mp hr]; exact Nat.le_refl _⟩
  | f + 1, row => by
    by_cases c : row.length ≤ 1
    · rw [phs_one c]; exact ⟨by show 1 ≤ f + 1 + 1; omega, fun r hr => by rw [List.mem_singleton.mp hr]; exact Nat.le_refl _⟩
    · rw [phs_more (by omega)]
      obtain ⟨a, b⟩ := phs_len f (nxr row)
      refine ⟨by rw [List.length_cons]; omega, fun r hr => ?_⟩
      rcases List.mem_cons.mp hr with rfl | hr
      · exact Nat.le_refl _
      · exact Nat.le_trans (b r hr) (Nat.le_of_lt (nxr_lt (by omega)))
/-- the greatest stands just once -/
def UM (row : List (Int × Int)) (M : Int) : Prop := ∃ p, p < row.length ∧ hv row p = M ∧ ∀ j, j < row.length → j ≠ p → hv row j < M
theorem fm_if {α β : Type} {c : α → Bool} {g : α → β} : ∀ l : List α, l.filterMap (fun k => if c k = true then some (g k) else none) = (l.filter c).map g
  | [] => rfl
  | x :: l => by
    by_cases h : c x = true
    · rw [List.filterMap_cons_some (by rw [if_pos h]), List.filter_cons_of_pos h, List.map_cons, fm_if l]
    · rw [List.filterMap_cons_none (by rw [if_neg h]), List.filter_cons_of_neg h, fm_if l]
theorem um_next {row : List (Int × Int)} {M : Int} (h : 1 < row.length) (u : UM row M) : UM (nxr row) M := by
  obtain ⟨p, hp, e, lt⟩ := u
  have en : nxr row = ((List.range row.length).filter (nkeep row)).map fun k => ((row.getD k (0, 0)).1, hv row (pv row.length 1 k)) := fm_if _
  have nd : ((List.range row.length).filter (nkeep row)).Nodup := List.nodup_range.filter _
  have hm : ∀ k ∈ (List.range row.length).filter (nkeep row), k < row.length := fun k hk => List.mem_range.mp (List.mem_filter.mp hk).1
  obtain ⟨k0, hk0, b1, b2, b3, only⟩ : ∃ k0, k0 < row.length ∧ pv row.length 1 k0 = p ∧ k0 ≠ p ∧ pv row.length 2 k0 ≠ p ∧ ∀ k, k < row.length → pv row.length 1 k = p → k = k0 := by
    have ek : ∀ k, k < row.length → pv row.length 1 k = if k = 0 then row.length - 1 else k - 1 := fun k hk => by
      unfold pv
      by_cases c : k = 0
      · rw [if_pos c, c, Nat.mod_eq_of_lt (by omega)]; omega
      · rw [if_neg c, show k + row.length - 1 = (k - 1) + row.length by omega, Nat.add_mod_right, Nat.mod_eq_of_lt (by omega)]
    have ek2 : ∀ k, k < row.length → pv row.length 2 k = if k = 0 then row.length - 2 else if k = 1 then row.length - 1 else k - 2 := fun k hk => by
      unfold pv
      by_cases c : k < 2
      · rw [Nat.mod_eq_of_lt (by omega)]
        by_cases c0 : k = 0
        · rw [if_pos c0]; omega
        · rw [if_neg c0, if_pos (by omega)]; omega
      · rw [if_neg (by omega), if_neg (by omega), show k + row.length - 2 = (k - 2) + row.length by omega, Nat.add_mod_right, Nat.mod_eq_of_lt (by omega)]
    by_cases c : p + 1 < row.length
    · refine ⟨p + 1, c, ?_, by omega, ?_, fun k hk q => ?_⟩
      · rw [ek _ c, if_neg (by omega)]; omega
      · rw [ek2 _ c]
        split
        · omega
        · split <;> omega
      · rw [ek _ hk] at q
        split at q <;> omega
    · refine ⟨0, by omega, ?_, by omega, ?_, fun k hk q => ?_⟩
      · rw [ek _ (by omega), if_pos rfl]; omega
      · rw [ek2 _ (by omega), if_pos rfl]; omega
      · rw [ek _ hk] at q
        split at q <;> omega
  have keep : nkeep row k0 = true := by
    unfold nkeep
    rw [b1, e, decide_eq_true (lt k0 hk0 b2), decide_eq_true (lt _ (pv_lt (by omega)) b3)]; rfl
  have mem : k0 ∈ (List.range row.length).filter (nkeep row) := List.mem_filter.mpr ⟨List.mem_range.mpr hk0, keep⟩
  generalize (List.range row.length).filter (nkeep row) = ks at en nd hm mem
  obtain ⟨q, hq, eq⟩ := List.mem_iff_getElem.mp mem
  have hg : ∀ j (hj : j < ks.length), hv (nxr row) j = hv row (pv row.length 1 ks[j]) := fun j hj => by
    rw [en]
    show ((ks.map _).getD j (0, 0)).2 = _
    rw [List.getD_eq_getElem?_getD, List.getElem?_map, List.getElem?_eq_getElem hj]; rfl
  have hl : (nxr row).length = ks.length := by rw [en, List.length_map]
  refine ⟨q, by omega, by rw [hg q hq, eq, b1, e], fun j hj nj => ?_⟩
  have hj' : j < ks.length := by omega
  rw [hg j hj']
  refine lt _ (pv_lt (by omega)) fun z => ?_
  have := only _ (hm _ (List.getElem_mem hj')) z
  rw [← eq] at this
  exact nj ((List.getElem_inj nd).mp this)
theorem phs_last : ∀ (f : Nat) (row : List (Int × Int)) (M : Int), row.length ≤ f + 1 → UM row M → ∃ rs x, phs f row = rs ++ [[(x, M)]] := by
  intro f
  induction f with
  | zero =>
    intro row M hl ⟨p, hp, e, _⟩
    match row, hl, hp, e with
    | [(a, b)], _, hp, e =>
      have : p = 0 := by simpa using hp
      subst this
      exact ⟨[], a, by rw [← e]; rfl⟩
    | [], _, hp, _ => simp at hp
    | _ :: _ :: _, hl, _, _ => simp at hl
  | succ f ih =>
    intro row M hl u
    by_cases c : row.length ≤ 1
    · rw [phs_one c]
      obtain ⟨p, hp, e, _⟩ := u
      match row, c, hp, e with
      | [(a, b)], _, hp, e =>
        have : p = 0 := by simpa using hp
        subst this
        exact ⟨[], a, by rw [← e]; rfl⟩
      | [], _, hp, _ => simp at hp
      | _ :: _ :: _, c, _, _ => simp at c
    · rw [phs_more (by omega)]
      have := nxr_lt (row := row) (by omega)
      obtain ⟨rs, x, e⟩ := ih (nxr row) M (by omega) (um_next (by omega) u)
      exact ⟨row :: rs, x, by rw [e]; rfl⟩
end Law
end M

namespace Sp
open Th
/-! ### rows of numbers, told by what they weigh -/
def S : List Int → (Nat → Int) → Int
  | [], _ => 0
  | x :: l, g => x * g 0 + S l fun k => g (k + 1)
theorem S_app : ∀ (l m : List Int) (g : Nat → Int), S (l ++ m) g = S l g + S m fun k => g (l.length + k)
  | [], m, g => by
    show S m g = 0 + S m fun k => g (0 + k)
    rw [Int.zero_add]
    congr 1
    funext k
    rw [Nat.zero_add]
  | x :: l, m, g => by
    show x * g 0 + S (l ++ m) (fun k => g (k + 1)) = x * g 0 + S l (fun k => g (k + 1)) + S m fun k => g (l.length + 1 + k)
    rw [S_app l m, Int.add_assoc]
    congr 2
    congr 1
    funext k
    rw [show l.length + 1 + k = l.length + k + 1 from by omega]
theorem S_one (x : Int) (g : Nat → Int) : S [x] g = x * g 0 := by show x * g 0 + 0 = _; rw [Int.add_zero]
theorem S_take {l : List Int} {i : Nat} {x : Int} (h : l[i]? = some x) (g : Nat → Int) : S (l.take (i + 1)) g = S (l.take i) g + x * g i := by
  rw [List.take_succ, h]
  have hi := (List.getElem?_eq_some_iff.mp h).1
  show S (l.take i ++ [x]) g = _
  rw [S_app, S_one, List.length_take, Nat.min_eq_left (by omega)]
  rfl
theorem S_set : ∀ {l : List Int} {k : Nat} {x : Int} (v : Int) (g : Nat → Int), l[k]? = some x → S (l.set k v) g = S l g + (v - x) * g k
  | [], k, x, v, g, h => by simp at h
  | y :: l, 0, x, v, g, h => by
    have : y = x := by simpa using h
    subst this
    show v * g 0 + S l _ = y * g 0 + S l _ + (v - y) * g 0
    rw [Int.sub_mul]; omega
  | y :: l, k + 1, x, v, g, h => by
    have ih := S_set (l := l) (k := k) v (fun k => g (k + 1)) (by simpa using h)
    show y * g 0 + S (l.set k v) _ = y * g 0 + S l _ + (v - x) * g (k + 1)
    rw [ih]; omega
theorem S_zero : ∀ (n : Nat) (g : Nat → Int), S (List.replicate n 0) g = 0
  | 0, _ => rfl
  | n + 1, g => by
    show 0 * g 0 + S (List.replicate n 0) _ = 0
    rw [S_zero n, Int.zero_mul]; rfl
theorem S_addg : ∀ (l : List Int) (g f : Nat → Int), S l (fun k => g k + f k) = S l g + S l f
  | [], _, _ => rfl
  | x :: l, g, f => by
    show x * (g 0 + f 0) + S l (fun k => g (k + 1) + f (k + 1)) = x * g 0 + S l _ + (x * f 0 + S l _)
    rw [S_addg l, Int.mul_add]; omega
theorem S_mulg (c : Int) : ∀ (l : List Int) (g : Nat → Int), S l (fun k => c * g k) = c * S l g
  | [], _ => by show 0 = c * 0; rw [Int.mul_zero]
  | x :: l, g => by
    show x * (c * g 0) + S l (fun k => c * g (k + 1)) = c * (x * g 0 + S l _)
    rw [S_mulg c l, Int.mul_add, Int.mul_left_comm]
theorem S_zerog (l : List Int) : S l (fun _ => 0) = 0 := by
  have := S_mulg 0 l fun _ => 0
  rw [Int.zero_mul] at this
  simpa using this
theorem S_swap (m : List Int) : ∀ (l : List Int) (f : Nat → Nat → Int), S l (fun i => S m fun j => f i j) = S m fun j => S l fun i => f i j
  | [], f => by
    show 0 = S m fun _ => 0
    rw [S_zerog]
  | x :: l, f => by
    show x * S m (fun j => f 0 j) + S l (fun i => S m fun j => f (i + 1) j) = S m fun j => x * f 0 j + S l fun i => f (i + 1) j
    rw [S_swap m l, S_addg, S_mulg]
theorem S_nonneg : ∀ {l : List Int} {g : Nat → Int}, (∀ x ∈ l, 0 ≤ x) → (∀ k, 0 ≤ g k) → 0 ≤ S l g
  | [], _, _, _ => Int.le_refl 0
  | x :: l, g, h, hg => by
    have a := Int.mul_nonneg (h x (by simp)) (hg 0)
    have b := S_nonneg (l := l) (g := fun k => g (k + 1)) (fun y hy => h y (List.mem_cons_of_mem _ hy)) fun k => hg _
    show 0 ≤ x * g 0 + S l _
    omega
theorem S_le : ∀ {l : List Int} {x : Int}, (∀ x ∈ l, 0 ≤ x) → x ∈ l → x ≤ S l fun _ => 1
  | y :: l, x, h, hx => by
    have nn := S_nonneg (l := l) (g := fun _ => 1) (fun z hz => h z (List.mem_cons_of_mem _ hz)) fun _ => by decide
    have y0 := h y (by simp)
    show x ≤ y * 1 + S l fun _ => 1
    rcases List.mem_cons.mp hx with rfl | hx
    · omega
    · have := S_le (fun z hz => h z (List.mem_cons_of_mem _ hz)) hx
      omega
def T : Nat → (Nat → Int) → Int
  | 0, _ => 0
  | n + 1, f => T n f + f n
theorem T_congr : ∀ {n : Nat} {f g : Nat → Int}, (∀ a, a < n → f a = g a) → T n f = T n g
  | 0, _, _, _ => rfl
  | n + 1, f, g, h => by
    show T n f + f n = T n g + g n
    rw [T_congr fun a ha => h a (by omega), h n (by omega)]
theorem T_add : ∀ (n : Nat) (f g : Nat → Int), T n (fun a => f a + g a) = T n f + T n g
  | 0, _, _ => rfl
  | n + 1, f, g => by
    show T n _ + (f n + g n) = T n f + f n + (T n g + g n)
    rw [T_add n]; omega
theorem T_shift : ∀ (n : Nat) (f : Nat → Int), T (n + 1) f = f 0 + T n fun a => f (a + 1)
  | 0, f => by show 0 + f 0 = f 0 + 0; omega
  | n + 1, f => by
    show T (n + 1) f + f (n + 1) = f 0 + (T n (fun a => f (a + 1)) + f (n + 1))
    rw [T_shift n]; omega
theorem T_rev : ∀ (n : Nat) (f : Nat → Int), T n (fun a => f (n - 1 - a)) = T n f
  | 0, _ => rfl
  | n + 1, f => by
    rw [T_shift n (fun a => f (n + 1 - 1 - a))]
    show f (n + 1 - 1 - 0) + T n (fun a => f (n + 1 - 1 - (a + 1))) = T n f + f n
    rw [show n + 1 - 1 - 0 = n from by omega, T_congr (g := fun a => f (n - 1 - a)) (fun a _ => by rw [show n + 1 - 1 - (a + 1) = n - 1 - a from by omega]), T_rev n]
    omega
def fc : Nat → Nat
  | 0 => 1
  | n + 1 => (n + 1) * fc n
theorem fc_pos : ∀ n, 0 < fc n
  | 0 => by decide
  | n + 1 => Nat.mul_pos (by omega) (fc_pos n)
theorem ch_fc (n : Nat) : ∀ a, a ≤ n → ch n a * fc a * fc (n - a) = fc n
  | 0, _ => by rw [ch_zero, Nat.sub_zero]; show 1 * 1 * fc n = fc n; omega
  | a + 1, h => by
    have ih := ch_fc n a (by omega)
    have m := ch_mul n a
    have e : n - a = (n - (a + 1)) + 1 := by omega
    rw [e] at ih m
    rw [← ih]
    show ch n (a + 1) * ((a + 1) * fc a) * fc (n - (a + 1)) = ch n a * fc a * ((n - (a + 1) + 1) * fc (n - (a + 1)))
    rw [← Nat.mul_assoc (ch n (a + 1)), m]
    generalize fc (n - (a + 1)) = z
    ac_rfl
theorem ch_sym (n a : Nat) (h : a ≤ n) : ch n a = ch n (n - a) := by
  have h1 := ch_fc n a h
  have h2 := ch_fc n (n - a) (by omega)
  rw [show n - (n - a) = a from by omega, ← h1, Nat.mul_assoc, Nat.mul_assoc, Nat.mul_comm (fc (n - a))] at h2
  exact (Nat.eq_of_mul_eq_mul_right (Nat.mul_pos (fc_pos _) (fc_pos _)) h2).symm
theorem ch_le2 : ∀ n k, ch n k ≤ 2 ^ n
  | n, 0 => by rw [ch_zero]; exact Nat.one_le_two_pow
  | 0, k + 1 => by rw [ch_gt (by omega)]; decide
  | n + 1, k + 1 => by
    have a := ch_le2 n k
    have b := ch_le2 n (k + 1)
    rw [ch_succ, Nat.pow_succ]; omega
/-- the lines' spreads -/
structure Ln (ls : List (List Int)) (n : Nat) : Prop where
  len : (ls.getD n []).length = n * (n + 1) / 2 + 1
  pos : ∀ x ∈ ls.getD n [], 0 ≤ x
  zero : n = 0 → ls.getD n [] = [1]
  rule : 0 < n → ∀ g, S (ls.getD n []) g = T n fun a => (ch (n - 1) a : Int) * S (ls.getD a []) fun i => S (ls.getD (n - 1 - a) []) fun j => g (n - a + i + j)
def Tb (ls : List (List Int)) : Prop := ∀ n, n < ls.length → Ln ls n
theorem S_const (c : Int) (l : List Int) : S l (fun _ => c) = c * S l fun _ => 1 := by
  have := S_mulg c l fun _ => 1
  simpa using this
theorem T_const (c : Int) : ∀ n : Nat, T n (fun _ => c) = n * c
  | 0 => by show (0 : Int) = _; simp
  | n + 1 => by
    show T n _ + c = ((n + 1 : Nat) : Int) * c
    rw [T_const c n, Int.natCast_add, Int.add_mul]; simp
theorem Tb.many {ls : List (List Int)} (t : Tb ls) : ∀ n, n < ls.length → S (ls.getD n []) (fun _ => 1) = fc n := fun n => by
  induction n using Nat.strongRecOn with
  | _ n ih =>
    intro hn
    by_cases n0 : n = 0
    · subst n0
      rw [(t 0 hn).zero rfl]; rfl
    · rw [(t n hn).rule (by omega)]
      have e : ∀ a, a < n → ((ch (n - 1) a : Int) * S (ls.getD a []) fun _ => S (ls.getD (n - 1 - a) []) fun _ => 1) = (fc (n - 1) : Int) := fun a ha => by
        rw [ih (n - 1 - a) (by omega) (by omega), S_const, ih a ha (by omega), ← ch_fc (n - 1) a (by omega), Int.natCast_mul, Int.natCast_mul, Int.mul_assoc, Int.mul_comm (fc a : Int)]
      rw [T_congr e, T_const]
      obtain ⟨m, rfl⟩ : ∃ m, n = m + 1 := ⟨n - 1, by omega⟩
      show ((m + 1 : Nat) : Int) * (fc m : Int) = (((m + 1) * fc m : Nat) : Int)
      rw [Int.natCast_mul]
theorem fc_le {a b : Nat} (h : a ≤ b) : fc a ≤ fc b := by
  induction b with
  | zero => rw [show a = 0 from by omega]; exact Nat.le_refl _
  | succ b ih =>
    by_cases c : a = b + 1
    · rw [c]; exact Nat.le_refl _
    · have := ih (by omega)
      have : 1 * fc b ≤ (b + 1) * fc b := Nat.mul_le_mul (by omega) (Nat.le_refl _)
      show fc a ≤ (b + 1) * fc b
      omega
theorem fc_pow : ∀ n : Nat, n ≤ 64 → fc n ≤ 64 ^ n
  | 0, _ => by decide
  | n + 1, h => by
    have := Nat.mul_le_mul h (fc_pow n (by omega))
    rw [Nat.pow_succ, Nat.mul_comm (64 ^ n)]
    exact this
theorem fc_small {a : Nat} (h : a ≤ 64) : fc a < 2 ^ 1000 := by
  refine Nat.lt_of_le_of_lt (Nat.le_trans (fc_pow a h) (Nat.pow_le_pow_right (by decide) h)) ?_
  rw [show (64 : Nat) = 2 ^ 6 from by decide, ← Nat.pow_mul]
  exact Nat.pow_lt_pow_right (by decide) (by decide)
theorem Tb.small {ls : List (List Int)} (t : Tb ls) (l : ls.length ≤ 64) {n : Nat} (h : n < ls.length) : ∀ x ∈ ls.getD n [], 0 ≤ x ∧ x < 2 ^ 1000 := fun x hx => by
  have p := (t n h).pos
  refine ⟨p x hx, ?_⟩
  have := S_le p hx
  rw [t.many n h] at this
  have f := fc_small (a := n) (by omega)
  have : (fc n : Int) < ((2 ^ 1000 : Nat) : Int) := Int.ofNat_lt.mpr f
  rw [Int.natCast_pow] at this
  omega
theorem T_split (f : Nat → Int) (m : Nat) : ∀ k : Nat, T (m + k) f = T m f + T k fun b => f (m + b)
  | 0 => by show T m f = T m f + 0; omega
  | k + 1 => by
    show T (m + k) f + f (m + k) = T m f + (T k (fun b => f (m + b)) + f (m + k))
    rw [T_split f m k]; omega
theorem T_half (t : Nat → Int) (n : Nat) : T ((n + 1) / 2) (fun a => t a + if a = n - 1 - a then 0 else t (n - 1 - a)) = T n t := by
  have key : ∀ m : Nat, T m (fun a => t (2 * m - 1 - a)) = T m fun b => t (m + b) := fun m => by
    rw [← T_rev m fun b => t (m + b)]
    exact T_congr fun a ha => by rw [show 2 * m - 1 - a = m + (m - 1 - a) from by omega]
  rcases Nat.mod_two_eq_zero_or_one n with e | e
  · obtain ⟨m, rfl⟩ : ∃ m, n = 2 * m := ⟨n / 2, by omega⟩
    rw [show (2 * m + 1) / 2 = m from by omega, T_congr (g := fun a => t a + t (2 * m - 1 - a)) (fun a ha => by rw [if_neg (by omega)]), T_add, key, show 2 * m = m + m from by omega, T_split]
  · obtain ⟨m, rfl⟩ : ∃ m, n = 2 * m + 1 := ⟨n / 2, by omega⟩
    rw [show (2 * m + 1 + 1) / 2 = m + 1 from by omega]
    show T m _ + (t m + if m = 2 * m + 1 - 1 - m then 0 else t (2 * m + 1 - 1 - m)) = _
    rw [if_pos (by omega), T_congr (g := fun a => t a + t (2 * m - a)) (fun a ha => by rw [if_neg (by omega), show 2 * m + 1 - 1 - a = 2 * m - a from by omega]), T_add, show 2 * m + 1 = m + 1 + m from by omega, T_split, ← T_rev m fun b => t (m + 1 + b), T_congr (g := fun a => t (2 * m - a)) (f := fun a => t (m + 1 + (m - 1 - a))) (fun a ha => by rw [show m + 1 + (m - 1 - a) = 2 * m - a from by omega])]
    show T m t + T m _ + (t m + 0) = T m t + t m + T m _
    omega
/-- one part of a line's spread -/
def tm (ls : List (List Int)) (n : Nat) (g : Nat → Int) (a : Nat) : Int := (ch (n - 1) a : Int) * S (ls.getD a []) fun i => S (ls.getD (n - 1 - a) []) fun j => g (n - a + i + j)
theorem tm_a {ls : List (List Int)} {n a : Nat} {zs : List Int} {g : Nat → Int} (hz : ∀ g, S zs g = S (ls.getD a []) fun i => S (ls.getD (n - 1 - a) []) fun j => g (i + j)) : (ch (n - 1) a : Int) * S zs (fun l => g (n - a + l)) = tm ls n g a := by
  unfold tm
  rw [hz]
  congr 1
  congr 1
  funext i
  congr 1
  funext j
  rw [Nat.add_assoc]
theorem tm_b {ls : List (List Int)} {n a : Nat} {zs : List Int} {g : Nat → Int} (ha : a < n) (hz : ∀ g, S zs g = S (ls.getD a []) fun i => S (ls.getD (n - 1 - a) []) fun j => g (i + j)) : (ch (n - 1) a : Int) * S zs (fun l => g (n - (n - 1 - a) + l)) = tm ls n g (n - 1 - a) := by
  unfold tm
  rw [hz, S_swap, ← ch_sym (n - 1) a (by omega), show n - 1 - (n - 1 - a) = a from by omega]
  congr 1
  congr 1
  funext i
  congr 1
  funext j
  rw [Nat.add_assoc, Nat.add_comm i j]
theorem Tb.snoc {ls : List (List Int)} {zs : List Int} (t : Tb ls) (l0 : 1 ≤ ls.length) (lz : zs.length = ls.length * (ls.length + 1) / 2 + 1) (p : ∀ x ∈ zs, 0 ≤ x) (s : ∀ g, S zs g = T ls.length (tm ls ls.length g)) : Tb (ls ++ [zs]) := fun m hm => by
  have old : ∀ k, k < ls.length → (ls ++ [zs]).getD k [] = ls.getD k [] := fun k hk => by
    rw [List.getD_eq_getElem?_getD, List.getD_eq_getElem?_getD, List.getElem?_append_left hk]
  rw [List.length_append, List.length_singleton] at hm
  by_cases c : m < ls.length
  · have x := t m c
    refine ⟨by rw [old m c]; exact x.len, by rw [old m c]; exact x.pos, fun z => by rw [old m c]; exact x.zero z, fun m0 g => ?_⟩
    rw [old m c, x.rule m0]
    exact T_congr fun a ha => by rw [old a (by omega), old (m - 1 - a) (by omega)]
  · have e : m = ls.length := by omega
    subst e
    have nw : (ls ++ [zs]).getD ls.length [] = zs := by
      rw [List.getD_eq_getElem?_getD, List.getElem?_append_right (Nat.le_refl _), Nat.sub_self]; rfl
    refine ⟨by rw [nw]; exact lz, by rw [nw]; exact p, fun z => by omega, fun m0 g => ?_⟩
    rw [nw, s]
    exact T_congr fun a ha => by
      unfold tm
      rw [old a ha, old (ls.length - 1 - a) (by omega)]
end Sp

namespace Sp
open Th
/-! ### least and most letters; a table is one -/
def dl (k : Nat) : Nat → Int := fun j => if j = k then 1 else 0
theorem S_z : ∀ (l : List Int) (g : Nat → Int), (∀ j, j < l.length → g j = 0) → S l g = 0
  | [], _, _ => rfl
  | x :: l, g, h => by
    show x * g 0 + S l (fun k => g (k + 1)) = 0
    rw [h 0 (by simp), S_z l _ fun j hj => h (j + 1) (by simp; omega), Int.mul_zero]; rfl
theorem S_dl : ∀ (l : List Int) (k : Nat), S l (dl k) = l.getD k 0
  | [], k => by rw [List.getD_eq_getElem?_getD, List.getElem?_nil]; rfl
  | x :: l, 0 => by
    show x * dl 0 0 + S l (fun k => dl 0 (k + 1)) = x
    have z : (S l fun k => dl 0 (k + 1)) = 0 := S_z l _ fun j _ => if_neg (by omega)
    rw [z]
    show x * 1 + 0 = x
    omega
  | x :: l, k + 1 => by
    show x * dl (k + 1) 0 + S l (fun j => dl (k + 1) (j + 1)) = (x :: l).getD (k + 1) 0
    have e : (fun j => dl (k + 1) (j + 1)) = dl k := funext fun j => by
      unfold dl
      by_cases c : j = k
      · rw [if_pos c, if_pos (by omega)]
      · rw [if_neg c, if_neg (by omega)]
    rw [e, S_dl l k]
    show x * (if (0 : Nat) = k + 1 then 1 else 0) + l.getD k 0 = _
    rw [if_neg (by omega), Int.mul_zero, Int.zero_add]
    rfl
theorem dl_nn (k j : Nat) : 0 ≤ dl k j := by unfold dl; split <;> omega
theorem T_z : ∀ (n : Nat) (f : Nat → Int), (∀ a, a < n → f a = 0) → T n f = 0
  | 0, _, _ => rfl
  | n + 1, f, h => by
    show T n f + f n = 0
    rw [T_z n f fun a ha => h a (by omega), h n (by omega)]; rfl
theorem T_nn : ∀ (n : Nat) (f : Nat → Int), (∀ a, a < n → 0 ≤ f a) → 0 ≤ T n f
  | 0, _, _ => Int.le_refl 0
  | n + 1, f, h => by
    have a := T_nn n f fun a ha => h a (by omega)
    have b := h n (by omega)
    show 0 ≤ T n f + f n
    omega
theorem T_le : ∀ (n : Nat) (f : Nat → Int), (∀ a, a < n → 0 ≤ f a) → ∀ a, a < n → f a ≤ T n f
  | n + 1, f, h, a, ha => by
    have nn := T_nn n f fun a ha => h a (by omega)
    have b := h n (by omega)
    show f a ≤ T n f + f n
    by_cases c : a = n
    · subst c; omega
    · have := T_le n f (fun a ha => h a (by omega)) a (by omega)
      omega
theorem Tb.low {ls : List (List Int)} (t : Tb ls) : ∀ m, m < ls.length → ∀ g : Nat → Int, (∀ k, m ≤ k → g k = 0) → S (ls.getD m []) g = 0 := fun m => by
  induction m using Nat.strongRecOn with
  | _ m ih =>
    intro hm g hg
    by_cases m0 : m = 0
    · subst m0
      exact S_z _ _ fun j _ => hg j (by omega)
    · rw [(t m hm).rule (by omega) g]
      refine T_z _ _ fun a ha => ?_
      rw [ih a ha (by omega) _ fun i hi => ih (m - 1 - a) (by omega) (by omega) _ fun j hj => hg _ (by omega), Int.mul_zero]
theorem Tb.zero_at {ls : List (List Int)} (t : Tb ls) {m : Nat} (hm : m < ls.length) {k : Nat} (hk : k < m) : (ls.getD m []).getD k 0 = 0 := by
  rw [← S_dl]
  exact t.low m hm _ fun j hj => if_neg (by omega)
theorem Tb.term_nn {ls : List (List Int)} (t : Tb ls) {m : Nat} (hm : m < ls.length) (g : Nat → Int) (hg : ∀ k, 0 ≤ g k) (a : Nat) (ha : a < m) : 0 ≤ (ch (m - 1) a : Int) * S (ls.getD a []) fun i => S (ls.getD (m - 1 - a) []) fun j => g (m - a + i + j) := by
  refine Int.mul_nonneg (by omega) (S_nonneg (t a (by omega)).pos fun i => S_nonneg (t (m - 1 - a) (by omega)).pos fun j => hg _)
theorem dl_sh (m k : Nat) : (fun j => dl (m + k) (m + j)) = dl k := funext fun j => by
  unfold dl
  by_cases c : j = k
  · rw [if_pos c, if_pos (by omega)]
  · rw [if_neg c, if_neg (by omega)]
theorem Tb.least {ls : List (List Int)} (t : Tb ls) : ∀ m, m < ls.length → 0 < (ls.getD m []).getD m 0
  | 0, h => by rw [(t 0 h).zero rfl]; decide
  | m + 1, h => by
    have ih := Tb.least t m (by omega)
    rw [← S_dl, (t (m + 1) h).rule (by omega)]
    have := T_le (m + 1) _ (fun a ha => t.term_nn h (dl (m + 1)) (dl_nn _) a ha) m (by omega)
    refine Int.lt_of_lt_of_le ?_ this
    rw [show m + 1 - 1 - m = 0 from by omega, (t 0 (by omega)).zero rfl, show m + 1 - 1 = m from by omega, ch_self, show m + 1 - m = 1 from by omega]
    have e : (fun i => S [1] fun j => dl (m + 1) (1 + i + j)) = dl m := funext fun i => by
      rw [S_one, Int.one_mul, Nat.add_zero, show m + 1 = 1 + m from by omega]
      exact congrFun (dl_sh 1 m) i
    rw [e, S_dl]
    omega
theorem Tb.most {ls : List (List Int)} (t : Tb ls) : ∀ m, m < ls.length → 0 < (ls.getD m []).getD (m * (m + 1) / 2) 0
  | 0, h => by rw [(t 0 h).zero rfl]; decide
  | m + 1, h => by
    have ih := Tb.most t m (by omega)
    rw [← S_dl, (t (m + 1) h).rule (by omega)]
    have := T_le (m + 1) _ (fun a ha => t.term_nn h (dl ((m + 1) * (m + 1 + 1) / 2)) (dl_nn _) a ha) 0 (by omega)
    refine Int.lt_of_lt_of_le ?_ this
    rw [show m + 1 - 1 - 0 = m from by omega, (t 0 (by omega)).zero rfl, ch_zero, S_one, show m + 1 - 0 + 0 = m + 1 from by omega]
    have e2 : (m + 1) * (m + 1 + 1) / 2 = (m + 1) + m * (m + 1) / 2 := by
      have : (m + 1) * (m + 1 + 1) = m * (m + 1) + 2 * (m + 1) := by
        rw [Nat.mul_add, Nat.mul_one, Nat.mul_comm (m + 1) (m + 1), Nat.add_mul, Nat.one_mul, Nat.mul_comm 2]; omega
      rw [this]; omega
    rw [e2, dl_sh, S_dl]
    omega
theorem Tb.uniq {ls ks : List (List Int)} (t : Tb ls) (u : Tb ks) (e : ls.length = ks.length) : ∀ m, m < ls.length → ls.getD m [] = ks.getD m [] := fun m => by
  induction m using Nat.strongRecOn with
  | _ m ih =>
    intro hm
    by_cases m0 : m = 0
    · subst m0
      rw [(t 0 hm).zero rfl, (u 0 (by omega)).zero rfl]
    · have a := (t m hm).len
      have b := (u m (by omega)).len
      refine List.ext_getElem (a.trans b.symm) fun k h1 h2 => ?_
      have c : ∀ g, S (ls.getD m []) g = S (ks.getD m []) g := fun g => by
        rw [(t m hm).rule (by omega), (u m (by omega)).rule (by omega)]
        refine T_congr fun a ha => ?_
        rw [ih a ha (by omega), ih (m - 1 - a) (by omega) (by omega)]
      have d := c (dl k)
      rw [S_dl, S_dl, List.getD_eq_getElem?_getD, List.getD_eq_getElem?_getD (l := ks.getD m []), List.getElem?_eq_getElem h1, List.getElem?_eq_getElem h2] at d
      exact d
/-! modulo -/
theorem tm_pow {ls : List (List Int)} {n a : Nat} (x : Int) (ha : a < n) : tm ls n (fun k => x ^ k) a = (ch (n - 1) a : Int) * ((S (ls.getD a []) fun k => x ^ k) * (S (ls.getD (n - 1 - a) []) fun k => x ^ k)) * x ^ (n - a) := by
  unfold tm
  have e1 : ∀ i : Nat, S (ls.getD (n - 1 - a) []) (fun j => x ^ (n - a + i + j)) = (x ^ (n - a) * S (ls.getD (n - 1 - a) []) fun k => x ^ k) * x ^ i := fun i => by
    have : (fun j : Nat => x ^ (n - a + i + j)) = fun j : Nat => (x ^ (n - a) * x ^ i) * x ^ j := funext fun j => by rw [Int.pow_add, Int.pow_add]
    rw [this, S_mulg]; grind
  have e2 : (fun i => S (ls.getD (n - 1 - a) []) fun j => x ^ (n - a + i + j)) = fun i : Nat => (x ^ (n - a) * S (ls.getD (n - 1 - a) []) fun k => x ^ k) * x ^ i := funext e1
  rw [e2, S_mulg]
  grind
theorem mod3 (u c v w p : Int) : (u % p + c * (v % p) * (w % p)) % p = (u + c * v * w) % p := by
  simp [Int.add_emod, Int.mul_emod]
theorem mod2 (v w p : Int) : ((v % p) * (w % p)) % p = (v * w) % p := by
  simp [Int.mul_emod]
theorem mod1 (v w p : Int) : ((v % p) * w) % p = (v * w) % p := by
  simp [Int.mul_emod]
theorem modS (u o w p : Int) : (u % p + o * (w % p)) % p = (u + o * w) % p := by
  simp [Int.add_emod, Int.mul_emod]
end Sp

namespace Sp
open Th
/-! ### each line stands in the table -/
/-- steps to the next greater one, or past the end -/
def upN (v : Int) : List Int → Nat
  | [] => 1
  | y :: l => if v < y then 1 else upN v l + 1
/-- all steps of a line -/
def lw : List Int → Nat
  | [] => 0
  | x :: l => upN x l + lw l
theorem upN_cut {v m : Int} (h : v < m) : ∀ (a b : List Int), upN v (a ++ m :: b) = upN v a
  | [], b => by show (if v < m then 1 else upN v b + 1) = 1; rw [if_pos h]
  | y :: a, b => by
    show (if v < y then 1 else upN v (a ++ m :: b) + 1) = if v < y then 1 else upN v a + 1
    rw [upN_cut h a b]
theorem upN_top {m : Int} : ∀ {b : List Int}, (∀ x ∈ b, x ≤ m) → upN m b = b.length + 1
  | [], _ => rfl
  | y :: b, h => by
    show (if m < y then 1 else upN m b + 1) = b.length + 1 + 1
    rw [if_neg (by have := h y List.mem_cons_self; omega), upN_top fun x hx => h x (List.mem_cons_of_mem _ hx)]
theorem lw_cut {m : Int} {b : List Int} (hb : ∀ x ∈ b, x ≤ m) : ∀ {a : List Int}, (∀ x ∈ a, x < m) → lw (a ++ m :: b) = lw a + (b.length + 1) + lw b
  | [], _ => by
    show upN m b + lw b = 0 + (b.length + 1) + lw b
    rw [upN_top hb, Nat.zero_add]
  | x :: a, h => by
    show upN x (a ++ m :: b) + lw (a ++ m :: b) = upN x a + lw a + (b.length + 1) + lw b
    rw [upN_cut (h x List.mem_cons_self), lw_cut hb fun y hy => h y (List.mem_cons_of_mem _ hy)]
    omega
theorem split_top : ∀ (l : List Int), l ≠ [] → ∃ a m b, l = a ++ m :: b ∧ (∀ x ∈ a, x < m) ∧ ∀ x ∈ b, x ≤ m
  | [], h => absurd rfl h
  | [x], _ => ⟨[], x, [], rfl, by simp, by simp⟩
  | x :: y :: l, _ => by
    obtain ⟨a, m, b, e, ha, hb⟩ := split_top (y :: l) (by simp)
    by_cases c : x < m
    · refine ⟨x :: a, m, b, by rw [e]; rfl, fun z hz => ?_, hb⟩
      rcases List.mem_cons.mp hz with rfl | hz
      · exact c
      · exact ha z hz
    · refine ⟨[], x, y :: l, rfl, by simp, fun z hz => ?_⟩
      rw [e, List.mem_append, List.mem_cons] at hz
      rcases hz with hz | rfl | hz
      · have := ha z hz; omega
      · omega
      · have := hb z hz; omega
theorem S_ge : ∀ {l : List Int} {g : Nat → Int}, (∀ x ∈ l, 0 ≤ x) → (∀ k, 0 ≤ g k) → ∀ k, l.getD k 0 * g k ≤ S l g
  | [], g, _, _, k => by
    rw [List.getD_eq_getElem?_getD, List.getElem?_nil]
    show (0 : Int) * g k ≤ 0
    rw [Int.zero_mul]; exact Int.le_refl 0
  | x :: l, g, h, hg, 0 => by
    have := S_nonneg (g := fun k => g (k + 1)) (fun y hy => h y (List.mem_cons_of_mem _ hy)) fun k => hg _
    show x * g 0 ≤ x * g 0 + S l fun k => g (k + 1)
    omega
  | x :: l, g, h, hg, k + 1 => by
    have a := S_ge (g := fun k => g (k + 1)) (fun y hy => h y (List.mem_cons_of_mem _ hy)) (fun k => hg _) k
    have b := Int.mul_nonneg (h x List.mem_cons_self) (hg 0)
    show l.getD k 0 * g (k + 1) ≤ x * g 0 + S l fun k => g (k + 1)
    omega
theorem ch_pos {n a : Nat} (h : a ≤ n) : 0 < ch n a := by
  have e := ch_fc n a h
  have p := fc_pos n
  rcases Nat.eq_zero_or_pos (ch n a) with z | z
  · rw [z, Nat.zero_mul, Nat.zero_mul] at e; omega
  · exact z
theorem Tb.stands {ls : List (List Int)} (t : Tb ls) : ∀ (n : Nat) (l : List Int), l.length = n → n < ls.length → 0 < (ls.getD n []).getD (lw l) 0 := fun n => by
  induction n using Nat.strongRecOn with
  | _ n ih =>
    intro l hl hn
    by_cases l0 : l = []
    · subst l0
      obtain rfl : n = 0 := hl.symm
      rw [(t 0 hn).zero rfl]; decide
    · obtain ⟨a, m, b, rfl, ha, hb⟩ := split_top l l0
      rw [List.length_append, List.length_cons] at hl
      have i1 := ih a.length (by omega) a rfl (by omega)
      have i2 := ih b.length (by omega) b rfl (by omega)
      rw [lw_cut hb ha, ← S_dl, (t n hn).rule (by omega)]
      have le := T_le n _ (fun c hc => t.term_nn hn (dl (lw a + (b.length + 1) + lw b)) (dl_nn _) c hc) a.length (by omega)
      refine Int.lt_of_lt_of_le ?_ le
      have cp : 0 < (ch (n - 1) a.length : Int) := by have := ch_pos (show a.length ≤ n - 1 by omega); omega
      refine Int.mul_pos cp ?_
      rw [show n - 1 - a.length = b.length from by omega, show n - a.length = b.length + 1 from by omega]
      have s2 := S_ge (t b.length (by omega)).pos (fun j => dl_nn (lw a + (b.length + 1) + lw b) (b.length + 1 + lw a + j)) (lw b)
      have d1 : dl (lw a + (b.length + 1) + lw b) (b.length + 1 + lw a + lw b) = 1 := if_pos (by omega)
      rw [d1, Int.mul_one] at s2
      have s1 := S_ge (g := fun i => S (ls.getD b.length []) fun j => dl (lw a + (b.length + 1) + lw b) (b.length + 1 + i + j)) (t a.length (by omega)).pos (fun i => S_nonneg (t b.length (by omega)).pos fun j => dl_nn _ _) (lw a)
      refine Int.lt_of_lt_of_le ?_ s1
      exact Int.mul_pos i1 (Int.lt_of_lt_of_le i2 s2)
/-! a ring's steps -/
theorem T_lw (Z : List Int) : ∀ (A : List Int), T A.length (fun i => (upN (A.getD i 0) (A.drop (i + 1) ++ Z) : Int)) + (lw Z : Int) = (lw (A ++ Z) : Int)
  | [] => by show (0 : Int) + lw Z = _; rw [Int.zero_add]; rfl
  | x :: A => by
    have ih := T_lw Z A
    show T (A.length + 1) _ + _ = _
    rw [T_shift]
    have e : (fun a => (upN ((x :: A).getD (a + 1) 0) ((x :: A).drop (a + 1 + 1) ++ Z) : Int)) = fun i => (upN (A.getD i 0) (A.drop (i + 1) ++ Z) : Int) := rfl
    rw [e]
    show ((upN x (A ++ Z) : Nat) : Int) + T A.length _ + _ = ((upN x (A ++ Z) + lw (A ++ Z) : Nat) : Int)
    rw [Int.natCast_add, ← ih]
    omega
/-- steps of the house at i -/
def rs (ring : List Int) (i : Nat) : Nat := upN (ring.getD i 0) (ring.drop (i + 1) ++ ring.take i)
theorem ring_sum {A B : List Int} {M : Int} (ha : ∀ x ∈ A, x < M) (hb : ∀ x ∈ B, x < M) : T (A ++ M :: B).length (fun i => (rs (A ++ M :: B) i : Int)) = ((A ++ M :: B).length : Int) + (lw (B ++ A) : Int) := by
  have el : (A ++ M :: B).length = A.length + (1 + B.length) := by rw [List.length_append, List.length_cons]; omega
  have e1 : T A.length (fun i => (rs (A ++ M :: B) i : Int)) = (lw A : Int) := by
    have := T_lw [] A
    rw [List.append_nil] at this
    rw [← this]
    show _ = _ + 0
    rw [Int.add_zero]
    refine T_congr fun i hi => ?_
    have g : (A ++ M :: B).getD i 0 = A.getD i 0 := by
      rw [List.getD_eq_getElem?_getD, List.getD_eq_getElem?_getD, List.getElem?_append_left hi]
    have gm : A.getD i 0 < M := by
      rw [List.getD_eq_getElem?_getD, List.getElem?_eq_getElem hi]
      exact ha _ (List.getElem_mem hi)
    unfold rs
    rw [g, List.drop_append_of_le_length (by omega), List.append_assoc, List.cons_append, upN_cut gm, List.append_nil]
  have e2 : (rs (A ++ M :: B) A.length : Int) = (A.length : Int) + B.length + 1 := by
    have g : (A ++ M :: B).getD A.length 0 = M := by
      rw [List.getD_eq_getElem?_getD, List.getElem?_append_right (Nat.le_refl _), Nat.sub_self]; rfl
    have d : (A ++ M :: B).drop (A.length + 1) = B := by
      rw [List.drop_append, List.drop_eq_nil_of_le (by omega), show A.length + 1 - A.length = 1 from by omega]; rfl
    have tk : (A ++ M :: B).take A.length = A := by rw [List.take_append_of_le_length (Nat.le_refl _), List.take_length]
    unfold rs
    rw [g, d, tk, upN_top (fun x hx => ?_), List.length_append]
    · omega
    · rcases List.mem_append.mp hx with h | h
      · exact Int.le_of_lt (hb x h)
      · exact Int.le_of_lt (ha x h)
  have e3 : T B.length (fun j => (rs (A ++ M :: B) (A.length + (1 + j)) : Int)) + (lw A : Int) = (lw (B ++ A) : Int) := by
    rw [← T_lw A B]
    congr 1
    refine T_congr fun j hj => ?_
    have g : (A ++ M :: B).getD (A.length + (1 + j)) 0 = B.getD j 0 := by
      rw [List.getD_eq_getElem?_getD, List.getD_eq_getElem?_getD, List.getElem?_append_right (by omega), show A.length + (1 + j) - A.length = j + 1 from by omega]; rfl
    have gm : B.getD j 0 < M := by
      rw [List.getD_eq_getElem?_getD, List.getElem?_eq_getElem hj]
      exact hb _ (List.getElem_mem hj)
    have d : (A ++ M :: B).drop (A.length + (1 + j) + 1) = B.drop (j + 1) := by
      rw [List.drop_append, List.drop_eq_nil_of_le (by omega), show A.length + (1 + j) + 1 - A.length = (j + 1) + 1 from by omega]; rfl
    have tk : (A ++ M :: B).take (A.length + (1 + j)) = A ++ M :: B.take j := by
      rw [List.take_append, List.take_of_length_le (by omega), show A.length + (1 + j) - A.length = j + 1 from by omega]; rfl
    unfold rs
    rw [g, d, tk, ← List.append_assoc, upN_cut gm]
  rw [el, T_split, T_split, e1]
  show _ + (0 + (rs (A ++ M :: B) (A.length + 0) : Int) + T B.length fun j => (rs (A ++ M :: B) (A.length + (1 + j)) : Int)) = _
  rw [Nat.add_zero, e2]
  omega
/-- the line behind the greatest -/
theorem ring_top (ring : List Int) (h0 : ring ≠ []) (nd : ring.Nodup) : ∃ A M B, ring = A ++ M :: B ∧ (∀ x ∈ A, x < M) ∧ ∀ x ∈ B, x < M := by
  obtain ⟨A, M, B, rfl, ha, hb⟩ := split_top ring h0
  refine ⟨A, M, B, rfl, ha, fun x hx => ?_⟩
  have := hb x hx
  rw [List.nodup_append] at nd
  have n2 := (List.nodup_cons.mp nd.2.1).1
  have : x ≠ M := fun e => n2 (e ▸ hx)
  omega
theorem turn_sum {ring : List Int} (h0 : ring ≠ []) (nd : ring.Nodup) {at' : Nat} (h : at' < ring.length) : T ring.length (fun i => (rs (ring.drop at' ++ ring.take at') i : Int)) = T ring.length fun i => (rs ring i : Int) := by
  obtain ⟨A, M, B, rfl, ha, hb⟩ := ring_top ring h0 nd
  rw [ring_sum ha hb]
  have hl : ((A ++ M :: B).drop at' ++ (A ++ M :: B).take at').length = (A ++ M :: B).length := by
    rw [List.length_append, List.length_drop, List.length_take]; omega
  by_cases c : at' ≤ A.length
  · have e : (A ++ M :: B).drop at' ++ (A ++ M :: B).take at' = A.drop at' ++ M :: (B ++ A.take at') := by
      rw [List.drop_append_of_le_length c, List.take_append_of_le_length c, List.append_assoc, List.cons_append]
    have := ring_sum (A := A.drop at') (B := B ++ A.take at') (M := M) (fun x hx => ha x (List.mem_of_mem_drop hx)) fun x hx => by
      rcases List.mem_append.mp hx with h | h
      · exact hb x h
      · exact ha x (List.mem_of_mem_take h)
    rw [← e, hl, List.append_assoc, List.take_append_drop] at this
    exact this
  · obtain ⟨j, rfl⟩ : ∃ j, at' = A.length + (j + 1) := ⟨at' - A.length - 1, by omega⟩
    have e : (A ++ M :: B).drop (A.length + (j + 1)) ++ (A ++ M :: B).take (A.length + (j + 1)) = (B.drop j ++ A) ++ M :: B.take j := by
      rw [List.drop_append, List.drop_eq_nil_of_le (by omega), List.take_append, List.take_of_length_le (by omega), show A.length + (j + 1) - A.length = j + 1 from by omega]
      simp
    have := ring_sum (A := B.drop j ++ A) (B := B.take j) (M := M) (fun x hx => by
      rcases List.mem_append.mp hx with h | h
      · exact hb x (List.mem_of_mem_drop h)
      · exact ha x h) fun x hx => hb x (List.mem_of_mem_take hx)
    rw [← e, hl, ← List.append_assoc, List.take_append_drop] at this
    exact this
end Sp

namespace Sp
open Th
/-! ### all rings of few, one by one -/
def nx1 (ls : List (List Int)) (m : Nat) : List Int := (List.range (m * (m + 1) / 2 + 1)).map fun k => T m fun a => (ch (m - 1) a : Int) * S (ls.getD a []) fun i => S (ls.getD (m - 1 - a) []) fun j => dl k (m - a + i + j)
def tb1 : Nat → List (List Int)
  | 0 => [[1]]
  | m + 1 => tb1 m ++ [nx1 (tb1 m) (m + 1)]
theorem tb1_len : ∀ m, (tb1 m).length = m + 1
  | 0 => rfl
  | m + 1 => by show (tb1 m ++ [_]).length = _; rw [List.length_append, tb1_len m]; rfl
theorem Tb.eq1 {ls : List (List Int)} (t : Tb ls) : ∀ m, m < ls.length → ∀ a, a ≤ m → ls.getD a [] = (tb1 m).getD a []
  | 0, h, a, ha => by
    obtain rfl : a = 0 := by omega
    rw [(t 0 h).zero rfl]; rfl
  | m + 1, h, a, ha => by
    have ih := Tb.eq1 t m (by omega)
    show _ = (tb1 m ++ [nx1 (tb1 m) (m + 1)]).getD a []
    have ln := tb1_len m
    by_cases c : a ≤ m
    · rw [ih a c, List.getD_eq_getElem?_getD, List.getD_eq_getElem?_getD, List.getElem?_append_left (by omega)]
    · obtain rfl : a = m + 1 := by omega
      rw [List.getD_eq_getElem?_getD (l := tb1 m ++ _), List.getElem?_append_right (by omega), ln, Nat.sub_self]
      show _ = nx1 (tb1 m) (m + 1)
      have l1 := (t (m + 1) h).len
      unfold nx1
      refine List.ext_getElem (by rw [l1, List.length_map, List.length_range]) fun k h1 h2 => ?_
      rw [List.getElem_map, List.getElem_range]
      have d := (t (m + 1) h).rule (by omega) (dl k)
      rw [S_dl, List.getD_eq_getElem?_getD, List.getElem?_eq_getElem h1] at d
      have d : (ls.getD (m + 1) [])[k] = _ := d
      rw [d]
      refine T_congr fun a ha => ?_
      rw [ih a (by omega), ih (m + 1 - 1 - a) (by omega)]
/-- a name put in behind each of a row -/
def insR (name : Int) (row : List Int) : List (List Int) := (List.range row.length).map fun i => row.take (i + 1) ++ name :: row.drop (i + 1)
def rowsK (n : Nat) : Nat → List (List Int)
  | 0 => [[(n : Int) - 1]]
  | k + 1 => (rowsK n k).flatMap (insR k)
def unl : List Int → Bool
  | [] => true
  | x :: l => l.all (fun y => !decide (x = y)) && unl l
theorem unl_nodup : ∀ {l : List Int}, unl l = true → l.Nodup
  | [], _ => List.nodup_nil
  | x :: l, h => by
    have h : (l.all (fun y => !decide (x = y)) && unl l) = true := h
    rw [Bool.and_eq_true, List.all_eq_true] at h
    rw [List.nodup_cons]
    refine ⟨fun hx => ?_, unl_nodup h.2⟩
    have := h.1 x hx
    simp at this
def rwOk (n : Nat) (r : List Int) : Bool := decide (r.length = n) && unl r && (r.getD 0 0 == (n : Int) - 1) && (r.drop 1).all (fun x => decide (0 ≤ x) && decide (x < (n : Int) - 1))
def vsN (n : Nat) : List Nat := (rowsK n (n - 1)).map fun r => lw (r.drop 1)
def cntN (k : Nat) : List Nat → Nat
  | [] => 0
  | x :: l => if x = k then cntN k l + 1 else cntN k l
def okN (n : Nat) : Bool := (rowsK n (n - 1)).all (rwOk n) && decide ((tb1 (n - 1)).getD (n - 1) [] = (List.range ((n - 1) * (n - 1 + 1) / 2 + 1)).map fun k => (cntN k (vsN n) : Int)) && (vsN n).all fun v => decide (v < (n - 1) * (n - 1 + 1) / 2 + 1)
theorem ok1 : okN 1 = true := by decide +kernel
theorem ok2 : okN 2 = true := by decide +kernel
theorem ok3 : okN 3 = true := by decide +kernel
theorem ok4 : okN 4 = true := by decide +kernel
theorem ok5 : okN 5 = true := by decide +kernel
theorem ok6 : okN 6 = true := by decide +kernel
theorem ok7 : okN 7 = true := by decide +kernel
theorem ok_all {n : Nat} (h1 : 1 ≤ n) (h7 : n ≤ 7) : okN n = true := by
  rcases n with _ | _ | _ | _ | _ | _ | _ | _ | n
  · omega
  · exact ok1
  · exact ok2
  · exact ok3
  · exact ok4
  · exact ok5
  · exact ok6
  · exact ok7
  · omega
structure RwOk (n : Nat) (r : List Int) : Prop where
  len : r.length = n
  nd : r.Nodup
  hd : ∃ B, r = ((n : Int) - 1) :: B ∧ ∀ x ∈ B, 0 ≤ x ∧ x < (n : Int) - 1
theorem rows_ok {n : Nat} (h1 : 1 ≤ n) (h7 : n ≤ 7) : ∀ r ∈ rowsK n (n - 1), RwOk n r := fun r hr => by
  have h := ok_all h1 h7
  unfold okN at h
  rw [Bool.and_eq_true, Bool.and_eq_true] at h
  have h := List.all_eq_true.mp h.1.1 r hr
  unfold rwOk at h
  rw [Bool.and_eq_true, Bool.and_eq_true, Bool.and_eq_true, decide_eq_true_eq, beq_iff_eq] at h
  obtain ⟨⟨⟨a, b⟩, c⟩, d⟩ := h
  refine ⟨a, unl_nodup b, ?_⟩
  cases r with
  | nil => simp at a; omega
  | cons x B =>
    have c : x = (n : Int) - 1 := c
    subst c
    refine ⟨B, rfl, fun y hy => ?_⟩
    have := List.all_eq_true.mp d y hy
    simpa using this
theorem row_tab {n : Nat} (h1 : 1 ≤ n) (h7 : n ≤ 7) {ls : List (List Int)} (t : Tb ls) (ll : ls.length = n) : ls.getD (n - 1) [] = (List.range ((n - 1) * (n - 1 + 1) / 2 + 1)).map fun k => (cntN k (vsN n) : Int) := by
  have h := ok_all h1 h7
  unfold okN at h
  rw [Bool.and_eq_true, Bool.and_eq_true, decide_eq_true_eq] at h
  rw [t.eq1 (n - 1) (by omega) (n - 1) (Nat.le_refl _)]
  exact h.1.2
theorem vs_lt {n : Nat} (h1 : 1 ≤ n) (h7 : n ≤ 7) : ∀ v ∈ vsN n, v < (n - 1) * (n - 1 + 1) / 2 + 1 := fun v hv => by
  have h := ok_all h1 h7
  unfold okN at h
  rw [Bool.and_eq_true] at h
  simpa using List.all_eq_true.mp h.2 v hv
theorem insR_len (k : Int) (r : List Int) : (insR k r).length = r.length := by unfold insR; rw [List.length_map, List.length_range]
theorem flat_len (k : Int) (m : Nat) : ∀ (l : List (List Int)), (∀ r ∈ l, r.length = m) → (l.flatMap (insR k)).length = l.length * m
  | [], _ => by simp
  | r :: l, h => by
    rw [List.flatMap_cons, List.length_append, insR_len, h r List.mem_cons_self, flat_len k m l fun r hr => h r (List.mem_cons_of_mem _ hr), List.length_cons, Nat.add_mul, Nat.one_mul, Nat.add_comm]
theorem rowsK_row (n : Nat) : ∀ i, ∀ r ∈ rowsK n i, r.length = i + 1
  | 0, r, h => by
    have h : r ∈ [[(n : Int) - 1]] := h
    rw [List.mem_singleton.mp h]; rfl
  | i + 1, r, h => by
    have h : r ∈ (rowsK n i).flatMap (insR i) := h
    obtain ⟨s, hs, hr⟩ := List.mem_flatMap.mp h
    have ls := rowsK_row n i s hs
    unfold insR at hr
    obtain ⟨j, hj, rfl⟩ := List.mem_map.mp hr
    rw [List.mem_range] at hj
    rw [List.length_append, List.length_cons, List.length_take, List.length_drop]
    omega
theorem rowsK_len (n : Nat) : ∀ i, (rowsK n i).length = fc i
  | 0 => rfl
  | i + 1 => by
    show ((rowsK n i).flatMap (insR i)).length = (i + 1) * fc i
    rw [flat_len i (i + 1) _ (rowsK_row n i), rowsK_len n i, Nat.mul_comm]
theorem fc6 {i : Nat} (h : i ≤ 6) : fc i ≤ 720 := Nat.le_trans (fc_le h) (by decide)
/-! told of all names multiplied -/
theorem upN_mul {s : Int} (hs : 0 < s) (v : Int) : ∀ l : List Int, upN (v * s) (l.map (· * s)) = upN v l
  | [] => rfl
  | y :: l => by
    show (if v * s < y * s then 1 else upN (v * s) (l.map (· * s)) + 1) = if v < y then 1 else upN v l + 1
    rw [upN_mul hs v l]
    have : v * s < y * s ↔ v < y := ⟨fun h => Int.lt_of_mul_lt_mul_right h (Int.le_of_lt hs), fun h => Int.mul_lt_mul_of_pos_right h hs⟩
    by_cases c : v < y
    · rw [if_pos c, if_pos (this.mpr c)]
    · rw [if_neg c, if_neg (fun h => c (this.mp h))]
theorem rs_mul {s : Int} (hs : 0 < s) (ring : List Int) (i : Nat) : rs (ring.map (· * s)) i = rs ring i := by
  unfold rs
  have g : (ring.map (· * s)).getD i 0 = ring.getD i 0 * s := by
    rw [List.getD_eq_getElem?_getD, List.getD_eq_getElem?_getD, List.getElem?_map]
    cases ring[i]? with
    | none => show (0 : Int) = 0 * s; rw [Int.zero_mul]
    | some x => rfl
  rw [g, ← List.map_drop, ← List.map_take, ← List.map_append, upN_mul hs]
theorem nodup_bd : ∀ (b : Nat) (l : List Int) (lo : Int), l.Nodup → (∀ z ∈ l, lo ≤ z ∧ z < lo + b) → l.length ≤ b
  | 0, l, lo, _, h => by
    cases l with
    | nil => exact Nat.le_refl 0
    | cons x l => have := h x List.mem_cons_self; omega
  | b + 1, l, lo, nd, h => by
    have ih := nodup_bd b (l.erase (lo + b)) lo (nd.erase _) fun z hz => by
      rw [nd.mem_erase_iff] at hz
      have := h z hz.2
      have := hz.1
      omega
    by_cases c : lo + (b : Int) ∈ l
    · rw [List.length_erase_of_mem c] at ih; omega
    · rw [List.erase_of_not_mem c] at ih; omega
theorem cnt_count (c : Int) : ∀ (vs : List Nat) (k : Nat), (vs.map fun v : Nat => c + (v : Int)).count (c + (k : Int)) = cntN k vs
  | [], _ => rfl
  | v :: vs, k => by
    rw [List.map_cons, List.count_cons, cnt_count c vs k]
    show _ = if v = k then cntN k vs + 1 else cntN k vs
    by_cases e : v = k
    · subst e; simp
    · rw [if_neg e, if_neg (by simp; omega)]
      rfl
theorem cnt_pos : ∀ {vs : List Nat} {k : Nat}, 0 < cntN k vs ↔ k ∈ vs
  | [], k => by simp [cntN]
  | v :: vs, k => by
    show 0 < (if v = k then cntN k vs + 1 else cntN k vs) ↔ _
    rw [List.mem_cons]
    by_cases e : v = k
    · subst e; simp
    · rw [if_neg e, cnt_pos]
      exact ⟨.inr, fun h => h.resolve_left fun z => e z.symm⟩
end Sp

namespace Bd
open Sp
/-! ### bounds -/
theorem sum_erase {x : Int} : ∀ {l : List Int}, x ∈ l → l.sum = x + (l.erase x).sum
  | y :: l, h => by
    by_cases e : y = x
    · subst e; rw [List.erase_cons_head]; rfl
    · rw [List.erase_cons_tail (by simpa using e), List.sum_cons, List.sum_cons, sum_erase ((List.mem_cons.mp h).resolve_left fun z => e z.symm)]
      omega
theorem nodup_sum : ∀ (n : Nat) (l : List Int), l.Nodup → (∀ z ∈ l, 1 ≤ z ∧ z ≤ n) → l.sum * 2 ≤ (n : Int) * ((n : Int) + 1)
  | 0, l, _, h => by
    cases l with
    | nil => exact Int.le_refl 0
    | cons x l => have := h x List.mem_cons_self; omega
  | n + 1, l, nd, h => by
    have ih := nodup_sum n (l.erase ((n : Int) + 1)) (nd.erase _) fun z hz => by
      rw [nd.mem_erase_iff] at hz
      have := h z hz.2
      have := hz.1
      omega
    have e : ((n + 1 : Nat) : Int) * (((n + 1 : Nat) : Int) + 1) = (n : Int) * ((n : Int) + 1) + 2 * ((n : Int) + 1) := by
      rw [show ((n + 1 : Nat) : Int) = (n : Int) + 1 from by omega]; grind
    rw [e]
    by_cases c : (n : Int) + 1 ∈ l
    · rw [sum_erase c]; omega
    · rw [List.erase_of_not_mem c] at ih; omega
/-! names that fall -/
theorem lw_fall : ∀ (l : List Int), l.Pairwise (· > ·) → (lw l : Int) * 2 = (l.length : Int) * ((l.length : Int) + 1)
  | [], _ => rfl
  | x :: l, h => by
    rw [List.pairwise_cons] at h
    have ih := lw_fall l h.2
    show ((upN x l + lw l : Nat) : Int) * 2 = _
    rw [upN_top fun y hy => Int.le_of_lt (h.1 y hy), List.length_cons, Int.natCast_add, Int.add_mul, ih]
    rw [show ((l.length + 1 : Nat) : Int) = (l.length : Int) + 1 from by omega]
    grind
/-! halves -/
theorem T_turn (n : Nat) (hn : 0 < n) (g : Nat → Int) : T n (fun k => g (M.Law.pv n 1 k)) = T n g := by
  obtain ⟨m, rfl⟩ : ∃ m, n = m + 1 := ⟨n - 1, by omega⟩
  rw [T_shift]
  have e0 : M.Law.pv (m + 1) 1 0 = m := by unfold M.Law.pv; rw [show 0 + (m + 1) - 1 = m from by omega, Nat.mod_eq_of_lt (by omega)]
  have e1 : T m (fun a => g (M.Law.pv (m + 1) 1 (a + 1))) = T m g := T_congr fun a ha => by
    have : M.Law.pv (m + 1) 1 (a + 1) = a := by
      unfold M.Law.pv
      rw [show a + 1 + (m + 1) - 1 = a + (m + 1) from by omega, Nat.add_mod_right, Nat.mod_eq_of_lt (by omega)]
    rw [this]
  rw [e0, e1]
  show g m + T m g = T m g + g m
  omega
theorem T_le' : ∀ (n : Nat) (f g : Nat → Int), (∀ a, a < n → f a ≤ g a) → T n f ≤ T n g
  | 0, _, _, _ => Int.le_refl 0
  | n + 1, f, g, h => by
    have a := T_le' n f g fun a ha => h a (by omega)
    have b := h n (by omega)
    show T n f + f n ≤ T n g + g n
    omega
theorem cnt_T (c : Nat → Bool) : ∀ n : Nat, (((List.range n).filter c).length : Int) = T n fun k => if c k = true then 1 else 0
  | 0 => rfl
  | n + 1 => by
    rw [List.range_succ, List.filter_append, List.length_append, Int.natCast_add, cnt_T c n]
    show _ = T n _ + _
    cases e : c n <;> simp [e]
theorem half_cnt {n : Nat} (hn : 0 < n) (c : Nat → Bool) (h : ∀ k, k < n → ¬ (c k = true ∧ c (M.Law.pv n 1 k) = true)) : ((List.range n).filter c).length * 2 ≤ n := by
  have a := cnt_T c n
  have b := T_turn n hn fun k => if c k = true then 1 else 0
  have d := T_le' n (fun k => (if c k = true then (1 : Int) else 0) + if c (M.Law.pv n 1 k) = true then 1 else 0) (fun _ => 1) fun k hk => by
    have := h k hk
    show (if c k = true then (1 : Int) else 0) + (if c (M.Law.pv n 1 k) = true then 1 else 0) ≤ 1
    cases e : c k <;> cases e2 : c (M.Law.pv n 1 k) <;> simp_all
  rw [T_add, b, ← a, T_const] at d
  omega
theorem nxr_half {row : List (Int × Int)} (h : 1 < row.length) : (M.Law.nxr row).length * 2 ≤ row.length := by
  have e : (M.Law.nxr row).length = ((List.range row.length).filter (M.Law.nkeep row)).length := by
    unfold M.Law.nxr M.Law.nxf
    rw [M.Law.fm_if, List.length_map]
  rw [e]
  refine half_cnt (by omega) _ fun k hk => ?_
  unfold M.Law.nkeep
  rintro ⟨a, b⟩
  simp only [Bool.and_eq_true, decide_eq_true_eq] at a b
  have e2 : M.Law.pv row.length 1 (M.Law.pv row.length 1 k) = M.Law.pv row.length 2 k := by
    unfold M.Law.pv
    by_cases k1 : 1 ≤ k
    · rw [show k + row.length - 1 = (k - 1) + row.length from by omega, Nat.add_mod_right, Nat.mod_eq_of_lt (show k - 1 < row.length by omega), show k - 1 + row.length - 1 = k + row.length - 2 from by omega]
    · obtain rfl : k = 0 := by omega
      rw [show 0 + row.length - 1 = row.length - 1 from by omega, Nat.mod_eq_of_lt (show row.length - 1 < row.length by omega), show row.length - 1 + row.length - 1 = (row.length - 2) + row.length from by omega, Nat.add_mod_right, show 0 + row.length - 2 = row.length - 2 from by omega]
  rw [e2] at b
  omega
theorem phs_log : ∀ (f : Nat) (row : List (Int × Int)), (M.Law.phs f row).length ≤ Nat.log2 row.length + 1
  | 0, row => by
    show [row].length ≤ _
    simp
  | f + 1, row => by
    by_cases h : 1 < row.length
    · rw [M.Law.phs_more h, List.length_cons]
      have ih := phs_log f (M.Law.nxr row)
      have hf := nxr_half h
      have l2 : Nat.log2 row.length = Nat.log2 (row.length / 2) + 1 := by rw [Nat.log2_def, if_pos (by omega)]
      have mono : Nat.log2 (M.Law.nxr row).length ≤ Nat.log2 (row.length / 2) := by
        by_cases z : (M.Law.nxr row).length = 0
        · rw [z]; exact Nat.zero_le _
        · rw [Nat.le_log2 (by omega)]
          exact Nat.le_trans (Nat.log2_self_le z) (by omega)
      omega
    · rw [M.Law.phs_one (by omega)]
      simp
/-! reach -/
theorem arcs {n d : Nat} (hn : 0 < n) (hd : d < n) (S : List Int) (nd : S.Nodup) (sb : ∀ x ∈ S, 0 ≤ x ∧ x < n) (far : ∀ x ∈ S, ∀ y ∈ S, x ≠ y → (d : Int) < (y - x) % n) : S.length * (d + 1) ≤ n := by
  have key : (S.flatMap fun x => (List.range (d + 1)).map fun i : Nat => (x + (i : Int)) % n).length = S.length * (d + 1) := by
    induction S with
    | nil => simp
    | cons x S ih =>
      rw [List.flatMap_cons, List.length_append, List.length_map, List.length_range, ih (List.nodup_cons.mp nd).2 (fun y hy => sb y (List.mem_cons_of_mem _ hy)) fun a ha b hb => far a (List.mem_cons_of_mem _ ha) b (List.mem_cons_of_mem _ hb), List.length_cons, Nat.add_mul, Nat.one_mul, Nat.add_comm]
  have key2 : ∀ x y : Int, ∀ i j : Nat, i ≤ d → j ≤ d → i ≤ j → x ∈ S → y ∈ S → (x + (i : Int)) % n = (y + (j : Int)) % n → x = y ∧ i = j := fun x y i j hi hj hij hx hy e => by
    have hx' := sb x hx
    have hy' := sb y hy
    have e2 : (x - y) % n = ((j - i : Nat) : Int) := by
      have : (x - y) % n = (((x + (i : Int)) - (y + (j : Int))) + ((j : Int) - (i : Int))) % n := by congr 1; omega
      rw [this, Int.add_emod, Int.emod_eq_emod_iff_emod_sub_eq_zero.mp e, Int.zero_add, Int.emod_emod_of_dvd _ (Int.dvd_refl _)]
      rw [show ((j : Int) - (i : Int)) = ((j - i : Nat) : Int) from by omega]
      exact Int.emod_eq_of_lt (by omega) (by omega)
    by_cases c : x = y
    · subst c
      refine ⟨rfl, ?_⟩
      rw [Int.sub_self, Int.zero_emod] at e2
      omega
    · have := far y hy x hx fun z => c z.symm
      omega
  have nd2 : (S.flatMap fun x => (List.range (d + 1)).map fun i : Nat => (x + (i : Int)) % n).Nodup := by
    unfold List.Nodup
    rw [List.pairwise_flatMap]
    refine ⟨fun x hx => ?_, ?_⟩
    · rw [List.pairwise_map]
      refine List.Pairwise.imp_of_mem ?_ (List.pairwise_lt_range (n := d + 1))
      intro i j hi hj ij e
      rw [List.mem_range] at hi hj
      have := (key2 x x i j (by omega) (by omega) (by omega) hx hx e).2
      omega
    · refine List.Pairwise.imp_of_mem ?_ nd
      intro x y hx hy ne a ha b hb e
      obtain ⟨i, hi, rfl⟩ := List.mem_map.mp ha
      obtain ⟨j, hj, rfl⟩ := List.mem_map.mp hb
      rw [List.mem_range] at hi hj
      by_cases c : i ≤ j
      · exact ne (key2 x y i j (by omega) (by omega) c hx hy e).1
      · exact ne (key2 y x j i (by omega) (by omega) (by omega) hy hx e.symm).1.symm
  have := nodup_bd n _ 0 nd2 fun z hz => by
    obtain ⟨x, hx, hz⟩ := List.mem_flatMap.mp hz
    obtain ⟨i, hi, rfl⟩ := List.mem_map.mp hz
    have a := Int.emod_nonneg (x + (i : Int)) (show (n : Int) ≠ 0 by omega)
    have b := Int.emod_lt_of_pos (x + (i : Int)) (show (0 : Int) < n by omega)
    omega
  omega
end Bd
namespace M
open PySem L2
local macro_rules | `(tactic| walk_at "m") => `(tactic| simp only [mVar, mC, mOp, mUn, mNil, mCons, mTup, mLst, mCa, mTest, mAnd, mOr, mNot, mAndV, mOrV, mNotV, mIfE, mChain, mSl, mNo, mPart, mBM, mCall, mCallV, mIsi, mLc, mIter, mRange1, mRange2, mRange3, mEnum, mZip, mZipM,
  q_add1, q_add2, q_add3, q_add4, q_sub, q_mul1, q_mul2, q_fdiv, q_fdivN, q_mod, q_modN, q_pow, q_shl, q_neg, q_lt, q_le, q_gt, q_ge, q_eq1, q_eq2, q_eq3, q_eq4, q_eq5, q_eq6, q_eq7, q_eq8, q_eq9, q_ne1, q_ne2, q_ne3, q_ne4, q_ne5, q_ne6, q_ne7, q_ne8, q_ne9, q_iadd, q_ix1, q_ix2, q_ix3, q_ix4, q_sl1, q_sl2, q_sl3, q_len1, q_len2, q_len3, q_len4, q_abs, q_max2, q_min2, q_int1, q_int2, q_tuple1, q_tuple2, q_tuple3, q_list1, q_list2, q_list3, q_sum, q_all, q_any, q_maxL, q_minL, q_maxA1, q_maxA2, q_minA1, q_minA2, q_sorted, q_is1, q_is2, q_is3, q_is4, q_in1, q_in2, q_in3, q_nin1, q_nin2, q_nin3, q_setL, q_app, q_ext, q_popAt, q_pop, q_ty1, q_ty2, q_ty3, q_ty4, q_ty5, q_ty6, q_ty7, q_tym1, q_isN1, q_isN2, q_isN3, q_isN4, q_isN5, q_isN6, q_step1, q_step2, inF_ints, flat_ints, mDisp0, mDisp1, mDispN, mDisp1V, mLstZip, mPairs, mDGetT, mDGet2T, mBMT, q_count, q_index, q_inP, q_indexL, q_sortedTp, q_sortedPs, mGetN, mGet2N, mDisp0N, mKeysN, mLockE, mDGet2K, q_dictN, q_dictKT, q_dictKL, q_lenN, q_sortedDI, MO.dN.injEq, mDisp0T, mDisp1T, mKeysF, mLC, q_dget, q_dgetS, q_dgetI, q_putS, q_putI, dV_cons, q_gtT1, q_gtT2, q_ltT1, q_ltT2, Sum.inr.injEq, kn_cells_at, kn_cells_digits, kn_cells_turn, kn_at_cells, kn_at_digits, kn_at_turn, kn_digits_cells, kn_digits_at, kn_digits_turn, kn_turn_cells, kn_turn_at, kn_turn_digits, Sum.inl.injEq, q_ty8, q_mulT, q_maxTup, q_strI, q_split, q_join, q_inSg, q_mulS, q_intT, q_slT, q_tymS, mTupR1, mLstR1, mLstR2, mLenSet, mSortSet, mSumR1, mSumR2, mSortRev, mRev, mYes, mwipe, flatD, asg, asgs, at0, at1, at2, at3, at4, at5, ixN,
  mstart, List.length_map, List.map_cons, List.map_nil, List.length_cons, List.length_nil, List.cons_append, List.nil_append, List.append_nil, List.replicate_succ, List.replicate_zero, Nat.reduceAdd, Nat.reduceSub, Nat.zero_add, Nat.sub_zero, Int.cast_ofNat_Int, Int.reduceLE, Int.reduceLT, Int.reduceToNat, Int.toNat_zero, Int.toNat_one,
  List.getElem?_cons_zero, List.getElem?_cons_succ, List.set_cons_zero, List.set_cons_succ, Option.some.injEq, exists_eq_left', exists_eq_left, exists_eq_right, D.int.injEq, D.bl.injEq, D.str.injEq, D.ref.injEq, D.tup.injEq, MO.lst.injEq, MO.dK.injEq, MO.dT.injEq, true_and, and_true, if_true, if_false, ite_true, ite_false, reduceIte, Bool.not_true, Bool.not_false, Bool.false_eq_true, exists_and_left, and_assoc, ne_eq, not_false_eq_true, not_true_eq_false, List.cons.injEq, exists_const, exists_eq, exists_eq', srcR_item, srcR_n, srcD_n, srcD_item, srcE_n, srcE_item, srcZ_n, srcZ_item, Int.zero_add, Int.mul_one, isTy, String.reduceEq, String.reduceBEq, Bool.or_true, Bool.true_or, Bool.or_false, Bool.false_or, Bool.and_false, Bool.false_and, Bool.and_true, Bool.true_and, decide_true, decide_false, sizeLine_eq, up_same, up_up, Nat.reduceLeDiff, Nat.reduceLT, *])
local macro_rules | `(tactic| walk_at "n") => `(tactic| ((repeat (with_reducible refine seq_ ?_)); (with_reducible first | refine set_ ?_ | refine put_ ?_ | refine put2_ ?_ | refine putD_ ?_ | refine putDT_ ?_ | refine putN_ ?_ | refine lockT_ ?_ | refine drop_ ?_ | refine ret_ ?_ | refine if_ ?_ | refine par_ ?_ | refine par3_ ?_ | refine for_ ?_ | refine aug_ ?_ | refine asg_ ?_ | refine asgL_ ?_ | refine next_ ?_ | refine retN_ ?_ | refine brk_ ?_ | refine ct_ ?_); (try walk_at "m")))
local macro_rules | `(tactic| walk_at "r") => `(tactic| (walk_at "n"; repeat walk_at "n"))
local macro_rules | `(tactic| walk_at "w") => `(tactic| ((try walk_at "m"); walk_at "n"))
local macro_rules | `(tactic| walk_at "g") => `(tactic| repeat (first | walk_at "n" | walk_at "m"))
namespace Law
/-! ### contracts -/
def Hand (h : MH) (a : Addr) (t : Nat) : Prop := ∃ s0 s1 s2 : Int, h a = some (.lst [.int s0, .int s1, .int s2]) ∧ 0 ≤ s1 ∧ s1 < 2 ^ 62 ∧ 0 ≤ s2 ∧ s2 + t ≤ 2 ^ 60
theorem Hand.less {h : MH} {a : Addr} {t u : Nat} (x : Hand h a t) (l : u ≤ t) : Hand h a u := let ⟨s0, s1, s2, e, a1, a2, a3, a4⟩ := x; ⟨s0, s1, s2, e, a1, a2, a3, by omega⟩
theorem Hand.fr {h h' : MH} {a : Addr} {t : Nat} (x : Hand h a t) (f : Fr [] h h') : Hand h' a t := let ⟨s0, s1, s2, e, r⟩ := x; ⟨s0, s1, s2, f.at0 e, r⟩
theorem Hand.put {h : MH} {a p : Addr} {t : Nat} {o : MO} (x : Hand h a t) (n : a ≠ p) : Hand (up h p o) a t := let ⟨s0, s1, s2, e, r⟩ := x; ⟨s0, s1, s2, by rw [up_ne n]; exact e, r⟩
theorem Hand.ne {h : MH} {a p : Addr} {t : Nat} (x : Hand h a t) (n : h p = none) : a ≠ p := let ⟨_, _, _, e, _⟩ := x; ne_of e n
theorem Hand.some {h : MH} {a : Addr} {t : Nat} (x : Hand h a t) : h a ≠ none := let ⟨_, _, _, e, _⟩ := x; fun z => by rw [z] at e; cases e
def c_law_hand : MSp := fun ds h Q _ => ∃ (ns : List Int) (k : Nat), ds = [.rl (ns.map .int), .int k] ∧ k ≤ 1000 ∧ ∀ p h', Fr [] h h' → h p = none → Hand h' p (2 ^ 59) → Q (.ref p) h'
def c_law_take : MSp := fun ds h Q _ => ∃ (a : Addr) (many : Int) (t : Nat), ds = [.ref a, .int many] ∧ Hand h a (t + 1) ∧ 0 < many ∧ many < 2 ^ 200 ∧ ∀ r h', 0 ≤ r → r < many → Hand h' a t → Fr [a] h h' → Q (.int r) h'
/-! ### rings, some houses, stops -/
abbrev tI (xs : List Int) : D := .tup (xs.map .int)
def fst (c : Nat → Bool) : Nat → Nat → Nat
  | f, 0 => f
  | f, k + 1 => if c f = true then f else fst c (f + 1) k
/-- the house far steps to the side is of some, and greater -/
def stC (ring some : List Int) (house side : Int) (far : Nat) : Bool := decide ((house + side * far) % ring.length ∈ some) && decide (ring.getD house.toNat 0 < ring.getD ((house + side * far) % ring.length).toNat 0)
def stV (ring some : List Int) (house side : Int) : Nat := fst (stC ring some house side) 1 (ring.length - 1)
def Sds (n : Nat) (some : List Int) : Prop := some.length ≤ 1000 ∧ ∀ x ∈ some, 0 ≤ x ∧ x < n
def RgK (ring : List Int) : Prop := 1 ≤ ring.length ∧ ring.length ≤ 1000
def c_law_order : MSp := fun ds h Q _ => ∃ (a : Addr) (many t : Nat), ds = [.ref a, .int many] ∧ 1 ≤ many ∧ many ≤ 1000 ∧ Hand h a (t + 2 + many) ∧ ∀ p h' (xs : List Int), xs.length = many → (∀ x ∈ xs, 0 ≤ x ∧ x < many) → xs.Nodup → Hand h' a t → Fr [a] h h' → h' p = some (.lst (xs.map .int)) → h p = none → Q (.ref p) h'
def c_law_ring : MSp := fun ds h Q _ => ∃ (a : Addr) (many t : Nat), ds = [.ref a, .int many] ∧ 1 ≤ many ∧ many ≤ 1000 ∧ Hand h a (t + 3 + 2 * many) ∧ ∀ h' (xs : List Int), xs.length = many → (∀ x ∈ xs, 0 ≤ x ∧ x < 2 ^ 50) → xs.Nodup → Hand h' a t → Fr [a] h h' → Q (tI xs) h'
def c_law_some : MSp := fun ds h Q _ => ∃ (a : Addr) (many t : Nat), ds = [.ref a, .int many] ∧ 1 ≤ many ∧ many ≤ 1000 ∧ Hand h a (t + 2 + many) ∧ ∀ h' (xs : List Int), Sds many xs → xs.Nodup → 1 ≤ xs.length → xs.length ≤ many → Hand h' a t → Fr [a] h h' → Q (tI xs) h'
def c_law_size : MSp := fun ds h Q _ => ∃ (a : Addr) (t : Nat), ds = [.ref a] ∧ Hand h a (t + 2) ∧ ∀ (n : Nat) h', 1 ≤ n → n ≤ 64 → Hand h' a t → Fr [a] h h' → Q (.int n) h'
def c_stop_of : MSp := fun ds h Q _ => ∃ (ring some : List Int) (house side : Int), ds = [tI ring, tI some, .int house, .int side] ∧ RgK ring ∧ 0 ≤ house ∧ house < ring.length ∧ (side = 1 ∨ side = -1) ∧ Q (.int (stV ring some house side)) h
def c_law_stop : MSp := fun ds h Q _ => ∃ (ring some : List Int) (house side : Int), ds = [tI ring, tI some, .int house, .int side] ∧ RgK ring ∧ 0 ≤ house ∧ house < ring.length ∧ (side = 1 ∨ side = -1) ∧ Q (.int (stV ring some house side)) h
/-! ### phases by halves -/
abbrev prD (p : Int × Int) : D := .tup [.int p.1, .int p.2]
abbrev rwD (row : List (Int × Int)) : D := .tup (row.map prD)
def row0 (ring some : List Int) : List (Int × Int) := some.map fun x => (x, ring.getD x.toNat 0)
def phV (ring some : List Int) : List (List (Int × Int)) := phs some.length (row0 ring some)
def c_next_row : MSp := fun ds h Q _ => ∃ row : List (Int × Int), ds = [rwD row] ∧ 1 < row.length ∧ row.length ≤ 100000 ∧ ∀ h', Fr [] h h' → Q (rwD (nxr row)) h'
def c_phases : MSp := fun ds h Q _ => ∃ (ring some : List Int), ds = [tI ring, tI some] ∧ RgK ring ∧ Sds ring.length some ∧ ∀ h', Fr [] h h' → Q (.tup ((phV ring some).map rwD)) h'
def c_law_phases : MSp := fun ds h Q _ => ∃ (ring some : List Int), ds = [tI ring, tI some] ∧ RgK ring ∧ Sds ring.length some ∧ ∀ h', Fr [] h h' → Q (.tup ((phV ring some).map rwD)) h'
def reS (r s : Int) : Int := if r < s then 2 * r else s
def reV (l r : Int) : Nat → Nat → Int
  | 0, _ => 0
  | f + 1, k => reS (2 ^ k) l + reS (2 ^ k) r + (if (decide ((2 : Int) ^ k < l) && decide ((2 : Int) ^ k < r)) = true then reV l r f (k + 1) else 0)
def reT (ring some : List Int) (x : Int) : Int := reV (stV ring some x (-1)) (stV ring some x 1) 7 0
def trV (ring some : List Int) : Int := ring.length + (some.map (reT ring some)).sum
def c_side_letters : MSp := fun ds h Q _ => ∃ r s : Int, ds = [.int r, .int s] ∧ 0 ≤ r ∧ r ≤ 1000 ∧ Q (.int (reS r s)) h
def c_reach_letters : MSp := fun ds h Q _ => ∃ l r : Int, ds = [.int l, .int r] ∧ l ≤ 64 ∧ r ≤ 64 ∧ Q (.int (reV l r 7 0)) h
def c_law_reach : MSp := fun ds h Q _ => ∃ l r : Int, ds = [.int l, .int r] ∧ Q (.int (reV l r 7 0)) h
/-- the ways -/
inductive Way where
  | round | halves | reach | whole
def Way.s : Way → Str
  | .round => "round"
  | .halves => "halves"
  | .reach => "reach"
  | .whole => "whole"
def papV (w : Way) (ring some : List Int) : D := match w with
  | .round => .tup (some.map fun x => .tup [.int x, .int (stV ring some x 1)])
  | .halves => .tup ((phV ring some).map rwD)
  | .reach => .tup (some.map fun x => .tup [.int x, .int (stV ring some x (-1)), .int (stV ring some x 1)])
  | .whole => .tup []
def rlV (ring some : List Int) : Int := (some.map fun x => (stV ring some x 1 : Int)).sum + ring.length
def toldV (w : Way) (ring some : List Int) : Int := match w with
  | .round => rlV ring some
  | .halves => 2 * ring.length * (phV ring some).length
  | .reach => trV ring some
  | .whole => ring.length * (ring.length - 1)
/-- a ring and some of its houses -/
structure Gd (w : Way) (ring some : List Int) : Prop where
  rk : RgK ring
  l64 : ring.length ≤ 64
  sk : Sds ring.length some
  nd : some.Nodup
  s1 : 1 ≤ some.length
  rn : w = .halves → ring.Nodup
def c_sum_paper : MSp := fun ds h Q _ => ∃ (w : Way) (ring some : List Int), ds = [.str w.s, tI ring, tI some] ∧ RgK ring ∧ Sds ring.length some ∧ ∀ h', Fr [] h h' → Q (papV w ring some) h'
def c_law_paper : MSp := fun ds h Q _ => ∃ (w : Way) (ring some : List Int), ds = [.str w.s, tI ring, tI some] ∧ RgK ring ∧ Sds ring.length some ∧ ∀ h', Fr [] h h' → Q (papV w ring some) h'
def c_round_letters : MSp := fun ds h Q _ => ∃ (ring some : List Int), ds = [tI ring, tI some] ∧ RgK ring ∧ Sds ring.length some ∧ ∀ h', Fr [] h h' → Q (.int (rlV ring some)) h'
def c_told_letters : MSp := fun ds h Q _ => ∃ (w : Way) (ring some : List Int), ds = [.str w.s, tI ring, tI some] ∧ RgK ring ∧ ring.length ≤ 64 ∧ Sds ring.length some ∧ ∀ h', Fr [] h h' → Q (.int (toldV w ring some)) h'
def c_law_told : MSp := fun ds h Q _ => ∃ (w : Way) (ring some : List Int), ds = [.str w.s, tI ring, tI some] ∧ RgK ring ∧ ring.length ≤ 64 ∧ Sds ring.length some ∧ ∀ h', Fr [] h h' → Q (.int (toldV w ring some)) h'
def c_law_word : MSp := fun ds h Q _ => ∃ (a : Addr) (many t : Nat), ds = [.ref a, .int many] ∧ 1 ≤ many ∧ many ≤ 1000 ∧ Hand h a (t + 2 + many) ∧ ∀ h' (xs : List Int), xs.length = many → Hand h' a t → Fr [a] h h' → Q (tI xs) h'
/-! ### spreads of letters -/
open Sp
def ways (m : Nat) : List Int := (List.range (m + 1)).map fun k => (Th.ch m k : Int)
def c_chosen_ways : MSp := fun ds h Q _ => ∃ m : Nat, ds = [.int m] ∧ m ≤ 64 ∧ ∀ p h', Fr [] h h' → h p = none → h' p = some (.lst ((ways m).map .int)) → Q (.ref p) h'
def c_laid_together : MSp := fun ds h Q _ => ∃ (a b : Addr) (xs ys : List Int), ds = [.ref a, .ref b] ∧ h a = some (.lst (xs.map .int)) ∧ h b = some (.lst (ys.map .int)) ∧ 1 ≤ xs.length ∧ 1 ≤ ys.length ∧ xs.length ≤ 3000 ∧ ys.length ≤ 3000 ∧ (∀ x ∈ xs, 0 ≤ x ∧ x < 2 ^ 1000) ∧ (∀ x ∈ ys, 0 ≤ x ∧ x < 2 ^ 1000) ∧
  ∀ p h' (zs : List Int), Fr [] h h' → h p = none → h' p = some (.lst (zs.map .int)) → zs.length = xs.length + ys.length - 1 → (∀ x ∈ zs, 0 ≤ x) → (∀ g, S zs g = S xs fun i => S ys fun j => g (i + j)) → Q (.ref p) h'
def LsAt (h : MH) (a : Addr) (ls : List (List Int)) : Prop := ∃ as : List Addr, h a = some (.lst (as.map .ref)) ∧ as.length = ls.length ∧ ∀ (n : Nat) (b : Addr), as[n]? = some b → h b = some (.lst ((ls.getD n []).map .int))
theorem LsAt.fr {h h' : MH} {a : Addr} {ls : List (List Int)} (x : LsAt h a ls) (f : Fr [] h h') : LsAt h' a ls := let ⟨as, e, l, r⟩ := x; ⟨as, f.at0 e, l, fun n b hb => f.at0 (r n b hb)⟩
def c_line_spread : MSp := fun ds h Q _ => ∃ (a : Addr) (ls : List (List Int)), ds = [.ref a, .int (ls.length : Nat)] ∧ LsAt h a ls ∧ Tb ls ∧ 1 ≤ ls.length ∧ ls.length ≤ 64 ∧
  ∀ p h' (zs : List Int), Fr [] h h' → h p = none → h' p = some (.lst (zs.map .int)) → Tb (ls ++ [zs]) → Q (.ref p) h'
/-- letters and how many -/
def spP (n : Nat) (L : List Int) : List (Int × Int) := (List.range L.length).filterMap fun k => if 0 < L.getD k 0 then some (((k + 2 * n : Nat) : Int), L.getD k 0) else none
def c_round_spread : MSp := fun ds h Q _ => ∃ n : Nat, ds = [.int n] ∧ 1 ≤ n ∧ n ≤ 64 ∧ ∀ h' (ls : List (List Int)), Fr [] h h' → Tb ls → ls.length = n → Q (.tup ((spP n (ls.getD (n - 1) [])).map pD)) h'
/-! ### bounds -/
def rtm (n k : Nat) : Int := if 2 ^ k < n then 8 * 2 ^ k * ((n : Int) / (2 ^ k + 1)) else 0
def rpV (n : Nat) : Nat → Int
  | 0 => 5 * n
  | k + 1 => rpV n k + rtm n k
def bdV : Way → Nat → Int
  | .round, n => (n : Int) * ((n : Int) + 1) / 2 + n
  | .halves, n => 2 * (n : Int) * ((Nat.log2 n : Int) + 1)
  | .reach, n => rpV n 7
  | .whole, n => (n : Int) * ((n : Int) - 1)
/-- ints, tuples of these -/
def Dt : Nat → D → Prop
  | 0, _ => False
  | n + 1, d => match d with
    | .int _ => True
    | .tup ds => ds.length ≤ 100000 ∧ ∀ x ∈ ds, Dt n x
    | _ => False
/-! ### k39: bounds -/
def c_halvings : MSp := fun ds h Q _ => ∃ n : Nat, ds = [.int n] ∧ 1 ≤ n ∧ n ≤ 64 ∧ Q (.int (Nat.log2 n : Nat)) h
def c_reach_bound : MSp := fun ds h Q _ => ∃ n : Nat, ds = [.int n] ∧ 1 ≤ n ∧ n ≤ 64 ∧ Q (.int (rpV n 7)) h
def c_bound : MSp := fun ds h Q _ => ∃ (w : Way) (n : Nat), ds = [.str w.s, .int n] ∧ 1 ≤ n ∧ n ≤ 64 ∧ Q (.int (bdV w n)) h
def c_law_bound : MSp := fun ds h Q _ => ∃ (w : Way) (n : Nat), ds = [.str w.s, .int n] ∧ 1 ≤ n ∧ n ≤ 64 ∧ ∀ h', Fr [] h h' → Q (.int (bdV w n)) h'
def c_law_is : MSp := fun ds h Q _ => ∃ i j : Int, ds = [.int i, .int j] ∧ Q (.bl (decide (i = j))) h
def c_law_from_behind : MSp := fun ds h Q _ => ∃ p : Nat, ds = [.int p] ∧ p ≤ 6 ∧ ∀ h' (xs : List Int), Fr [] h h' → xs.length = 2 ^ p → Q (tI xs) h'
def c_law : MSp := fun ds h Q _ => ∃ ns : List Int, ds = [.rl (ns.map .int)] ∧ ns.length ≤ 63 ∧ ∀ h', Q (.bl true) h'
abbrev k_LEFT : D := .int (-1)
abbrev k_RIGHT : D := .int 1
-- stop_of: ['ring', 'some', 'house', 'side', 'many', 'far', 'other']
abbrev m_stop_of : MTS :=
 (mSeq (mSet 4 (mCa rLen (mCons (mVar 0) mNil)))
 (mSeq (mFor (mRange2 (mC (.int 1)) (mVar 4)) (.nm 5) (mSeq (mSet 6 (mOp rMod (mOp rAdd (mVar 2) (mOp rMul (mVar 3) (mVar 5))) (mVar 4)))
 (mIf (mAnd (mTest (mOp (rIn false) (mVar 6) (mVar 1))) (mTest (mOp rGtI (mOp rIx (mVar 0) (mVar 6)) (mOp rIx (mVar 0) (mVar 2))))) (mRet (mVar 5)) mNext)))
 (mRet (mVar 4))))
abbrev N_stop_of : List Str := ["ring", "some", "house", "side", "many", "far", "other"]
-- round_letters: ['ring', 'some', 'house']
abbrev m_round_letters : MTS :=
 (mRet (mOp rAdd (mCa rSum (mCons (mLc (mIter (mVar 1)) (.nm 2) mYes (mCall c_stop_of noE (mCons (mVar 0) (mCons (mVar 1) (mCons (mVar 2) (mCons (mC (.int 1)) mNil))))) [2]) mNil)) (mCa rLen (mCons (mVar 0) mNil))))
abbrev N_round_letters : List Str := ["ring", "some", "house"]
-- next_row: ['row', 'found', 'place', 'house', 'held', 'near']
abbrev m_next_row : MTS :=
 (mSeq (mSet 1 (mLst mNil))
 (mSeq (mFor (mEnum (mVar 0)) (.tp [(.nm 2), (.tp [(.nm 3), (.nm 4)])]) (mSeq (mSet 5 (mOp rIx (mOp rIx (mVar 0) (mOp rSub (mVar 2) (mC (.int 1)))) (mC (.int 1))))
 (mIf (mAnd (mTest (mOp rGtI (mVar 5) (mVar 4))) (mTest (mOp rGtI (mVar 5) (mOp rIx (mOp rIx (mVar 0) (mOp rSub (mVar 2) (mC (.int 2)))) (mC (.int 1)))))) (mDrop (mBM "list" rAppend (mVar 1) (mCons (mTup (mCons (mVar 3) (mCons (mVar 5) mNil))) mNil))) mNext)))
 (mRet (mCa rTuple (mCons (mVar 1) mNil)))))
abbrev N_next_row : List Str := ["row", "found", "place", "house", "held", "near"]
-- phases: ['ring', 'some', 'row', 'rows', 'house']
abbrev m_phases : MTS :=
 (mSeq (mSet 2 (mCa rTuple (mCons (mLc (mIter (mVar 1)) (.nm 4) mYes (mTup (mCons (mVar 4) (mCons (mOp rIx (mVar 0) (mVar 4)) mNil))) [4]) mNil)))
 (mSeq (mSet 3 (mLst (mCons (mVar 2) mNil)))
 (mSeq (mWhile (mTest (mOp rGtI (mCa rLen (mCons (mVar 2) mNil)) (mC (.int 1)))) (mSeq (mSet 2 (mCall c_next_row noE (mCons (mVar 2) mNil)))
 (mDrop (mBM "list" rAppend (mVar 3) (mCons (mVar 2) mNil)))))
 (mRet (mCa rTuple (mCons (mVar 3) mNil))))))
abbrev N_phases : List Str := ["ring", "some", "row", "rows", "house"]
-- side_letters: ['reach', 'stop']
abbrev m_side_letters : MTS :=
 (mSeq (mIf (mTest (mOp rGtI (mVar 1) (mVar 0))) (mRet (mOp rMul (mC (.int 2)) (mVar 0))) mNext)
 (mRet (mVar 1)))
abbrev N_side_letters : List Str := ["reach", "stop"]
-- reach_letters: ['left', 'right', 'total', 'reach', 'is_on']
abbrev m_reach_letters : MTS :=
 (mSeq (mSet 2 (mC (.int 0)))
 (mSeq (mSet 3 (mC (.int 1)))
 (mSeq (mSet 4 (mC (.bl true)))
 (mSeq (mWhile (mTest (mVar 4)) (mSeq (mAug 2 rIAdd (mOp rAdd (mCall c_side_letters noE (mCons (mVar 3) (mCons (mVar 0) mNil))) (mCall c_side_letters noE (mCons (mVar 3) (mCons (mVar 1) mNil)))))
 (mSeq (mSet 4 (mAndV (mOp rGtI (mVar 0) (mVar 3)) (mOp rGtI (mVar 1) (mVar 3))))
 (mSet 3 (mOp rMul (mC (.int 2)) (mVar 3))))))
 (mRet (mVar 2))))))
abbrev N_reach_letters : List Str := ["left", "right", "total", "reach", "is_on"]
-- told_letters: ['way', 'ring', 'some', 'many', 'total', 'house']
abbrev m_told_letters : MTS :=
 (mSeq (mSet 3 (mCa rLen (mCons (mVar 1) mNil)))
 (mSeq (mIf (mTest (mOp rEq (mVar 0) (mC (.str "round")))) (mRet (mCall c_round_letters noE (mCons (mVar 1) (mCons (mVar 2) mNil)))) mNext)
 (mSeq (mIf (mTest (mOp rEq (mVar 0) (mC (.str "halves")))) (mRet (mOp rMul (mOp rMul (mC (.int 2)) (mVar 3)) (mCa rLen (mCons (mCall c_phases noE (mCons (mVar 1) (mCons (mVar 2) mNil))) mNil)))) mNext)
 (mSeq (mIf (mTest (mOp rEq (mVar 0) (mC (.str "whole")))) (mRet (mOp rMul (mVar 3) (mOp rSub (mVar 3) (mC (.int 1))))) mNext)
 (mSeq (mSet 4 (mVar 3))
 (mSeq (mFor (mIter (mVar 2)) (.nm 5) (mAug 4 rIAdd (mCall c_reach_letters noE (mCons (mCall c_stop_of noE (mCons (mVar 1) (mCons (mVar 2) (mCons (mVar 5) (mCons (mC (.int (-1))) mNil))))) (mCons (mCall c_stop_of noE (mCons (mVar 1) (mCons (mVar 2) (mCons (mVar 5) (mCons (mC (.int 1)) mNil))))) mNil)))))
 (mRet (mVar 4))))))))
abbrev N_told_letters : List Str := ["way", "ring", "some", "many", "total", "house"]
-- halvings: ['many', 'times']
abbrev m_halvings : MTS :=
 (mSeq (mSet 1 (mC (.int 0)))
 (mSeq (mWhile (mTest (mOp rGtI (mVar 0) (mC (.int 1)))) (mSeq (mSet 0 (mOp rFdiv (mVar 0) (mC (.int 2))))
 (mAug 1 rIAdd (mC (.int 1)))))
 (mRet (mVar 1))))
abbrev N_halvings : List Str := ["many", "times"]
-- reach_bound: ['many', 'total', 'reach']
abbrev m_reach_bound : MTS :=
 (mSeq (mSet 1 (mOp rMul (mC (.int 5)) (mVar 0)))
 (mSeq (mSet 2 (mC (.int 2)))
 (mSeq (mWhile (mTest (mOp rLtI (mOp rFdiv (mVar 2) (mC (.int 2))) (mVar 0))) (mSeq (mAug 1 rIAdd (mOp rMul (mOp rMul (mC (.int 4)) (mVar 2)) (mOp rFdiv (mVar 0) (mOp rAdd (mOp rFdiv (mVar 2) (mC (.int 2))) (mC (.int 1))))))
 (mSet 2 (mOp rMul (mC (.int 2)) (mVar 2)))))
 (mRet (mVar 1)))))
abbrev N_reach_bound : List Str := ["many", "total", "reach"]
-- bound: ['way', 'many']
abbrev m_bound : MTS :=
 (mSeq (mIf (mTest (mOp rEq (mVar 0) (mC (.str "round")))) (mRet (mOp rAdd (mOp rFdiv (mOp rMul (mVar 1) (mOp rAdd (mVar 1) (mC (.int 1)))) (mC (.int 2))) (mVar 1))) mNext)
 (mSeq (mIf (mTest (mOp rEq (mVar 0) (mC (.str "halves")))) (mRet (mOp rMul (mOp rMul (mC (.int 2)) (mVar 1)) (mOp rAdd (mCall c_halvings noE (mCons (mVar 1) mNil)) (mC (.int 1))))) mNext)
 (mSeq (mIf (mTest (mOp rEq (mVar 0) (mC (.str "whole")))) (mRet (mOp rMul (mVar 1) (mOp rSub (mVar 1) (mC (.int 1))))) mNext)
 (mRet (mCall c_reach_bound noE (mCons (mVar 1) mNil))))))
abbrev N_bound : List Str := ["way", "many"]
-- _law_hand: ['_law_script', '_law_k', '_law_cell']
abbrev m_law_hand : MTS :=
 (mSeq (mSet 2 (mC (.int 0)))
 (mSeq (mIf (mTest (mOp rLtI (mVar 1) (mCa rLen (mCons (mVar 0) mNil)))) (mSet 2 (mOp rIx (mVar 0) (mVar 1))) mNext)
 (mRet (mLst (mCons (mOp rMul (mVar 2) (mCa rInt1 (mCons (mOp rGeI (mVar 2) (mOp rPow (mC (.int 10)) (mC (.int 18)))) mNil))) (mCons (mOp rAdd (mOp rAdd (mOp rMod (mVar 2) (mC (.int 2305843009213693951))) (mOp rMul (mC (.int 7919)) (mVar 1))) (mC (.int 3))) (mCons (mC (.int 0)) mNil)))))))
abbrev N_law_hand : List Str := ["_law_script", "_law_k", "_law_cell"]
-- _law_take: ['_law_from', '_law_many', '_law_turn', '_law_mixed', '_law_digit']
abbrev m_law_take : MTS :=
 (mSeq (mIf (mTest (mOp rGtI (mOp rIx (mVar 0) (mC (.int 0))) (mC (.int 0)))) (mSeq (mSet 4 (mOp rMod (mOp rIx (mVar 0) (mC (.int 0))) (mVar 1)))
 (mSeq (mPut rSetL (mOp rFdiv (mOp rIx (mVar 0) (mC (.int 0))) (mVar 1)) (mVar 0) (mC (.int 0)))
 (mRet (mVar 4)))) mNext)
 (mSeq (mPut rSetL (mOp rAdd (mOp rIx (mVar 0) (mC (.int 2))) (mC (.int 1))) (mVar 0) (mC (.int 2)))
 (mSeq (mSet 2 (mOp rIx (mVar 0) (mC (.int 2))))
 (mSeq (mSet 3 (mOp rMod (mOp rAdd (mOp rMul (mOp rIx (mVar 0) (mC (.int 1))) (mOp rAdd (mC (.int 48271)) (mOp rMul (mOp rMul (mC (.int 2)) (mVar 2)) (mVar 2)))) (mOp rMul (mC (.int 65537)) (mVar 2))) (mC (.int 2305843009213693921))))
 (mSeq (mSet 3 (mOp rMod (mOp rMul (mVar 3) (mOp rAdd (mOp rAdd (mOp rMod (mVar 3) (mC (.int 1000003))) (mOp rMul (mC (.int 99991)) (mVar 2))) (mC (.int 11)))) (mC (.int 2305843009213693907))))
 (mRet (mOp rMod (mOp rAdd (mOp rFdiv (mVar 3) (mC (.int 97))) (mOp rFdiv (mVar 3) (mC (.int 1000033)))) (mVar 1))))))))
abbrev N_law_take : List Str := ["_law_from", "_law_many", "_law_turn", "_law_mixed", "_law_digit"]
-- _law_order: ['_law_from', '_law_many', '_law_way', '_law_turn', '_law_left', '_law_k']
abbrev m_law_order : MTS :=
 (mSeq (mSet 2 (mCall c_law_take noE (mCons (mVar 0) (mCons (mC (.int 6)) mNil))))
 (mSeq (mSet 3 (mCall c_law_take noE (mCons (mVar 0) (mCons (mVar 1) mNil))))
 (mSeq (mSet 4 (mLc (mRange1 (mVar 1)) (.nm 5) mYes (mOp rMod (mOp rAdd (mVar 3) (mVar 5)) (mVar 1)) [5]))
 (mSeq (mIf (mTest (mOp rEq (mVar 2) (mC (.int 0)))) (mRet (mVar 4)) mNext)
 (mSeq (mIf (mTest (mOp rEq (mVar 2) (mC (.int 1)))) (mRet (mOp rStep (mVar 4) (mUn rNeg (mC (.int 1))))) mNext)
 (mRet (mLc (mRange1 (mVar 1)) (.nm 5) mYes (mBM "list" rPopAt (mVar 4) (mCons (mCall c_law_take noE (mCons (mVar 0) (mCons (mCa rLen (mCons (mVar 4) mNil)) mNil))) mNil)) [5])))))))
abbrev N_law_order : List Str := ["_law_from", "_law_many", "_law_way", "_law_turn", "_law_left", "_law_k"]
-- _law_ring: ['_law_from', '_law_many', '_law_order_here', '_law_k']
abbrev m_law_ring : MTS :=
 (mSeq (mSet 2 (mCall c_law_order noE (mCons (mVar 0) (mCons (mVar 1) mNil))))
 (mSeq (mIf (mTest (mOp rEq (mCall c_law_take noE (mCons (mVar 0) (mCons (mC (.int 3)) mNil))) (mC (.int 0)))) (mRet (mCa rTuple (mCons (mLc (mIter (mVar 2)) (.nm 3) mYes (mOp rAdd (mOp rMul (mVar 3) (mC (.int 15625000000))) (mCall c_law_take noE (mCons (mVar 0) (mCons (mOp rPow (mC (.int 10)) (mC (.int 10))) mNil)))) [3]) mNil))) mNext)
 (mRet (mCa rTuple (mCons (mVar 2) mNil)))))
abbrev N_law_ring : List Str := ["_law_from", "_law_many", "_law_order_here", "_law_k"]
-- _law_some: ['_law_from', '_law_many', '_law_way', '_law_one', '_law_k']
abbrev m_law_some : MTS :=
 (mSeq (mSet 2 (mCall c_law_take noE (mCons (mVar 0) (mCons (mC (.int 4)) mNil))))
 (mSeq (mIf (mTest (mOp rEq (mVar 2) (mC (.int 0)))) (mRet (mTupR1 (mVar 1))) mNext)
 (mSeq (mSet 3 (mCall c_law_take noE (mCons (mVar 0) (mCons (mVar 1) mNil))))
 (mSeq (mIf (mTest (mOp rEq (mVar 2) (mC (.int 1)))) (mRet (mTup (mCons (mVar 3) mNil))) mNext)
 (mRet (mCa rTuple (mCons (mLc (mRange1 (mVar 1)) (.nm 4) (mOr (mTest (mOp rEq (mVar 4) (mVar 3))) (mTest (mOp rEq (mCall c_law_take noE (mCons (mVar 0) (mCons (mVar 2) mNil))) (mC (.int 0))))) (mVar 4) [4]) mNil)))))))
abbrev N_law_some : List Str := ["_law_from", "_law_many", "_law_way", "_law_one", "_law_k"]
-- _law_size: ['_law_from']
abbrev m_law_size : MTS :=
 (mRet (mOp rAdd (mC (.int 1)) (mCall c_law_take noE (mCons (mVar 0) (mCons (mOp rIx (mLst (mCons (mC (.int 12)) (mCons (mC (.int 12)) (mCons (mC (.int 12)) (mCons (mC (.int 12)) (mCons (mC (.int 64)) mNil)))))) (mCall c_law_take noE (mCons (mVar 0) (mCons (mC (.int 5)) mNil)))) mNil)))))
abbrev N_law_size : List Str := ["_law_from"]
-- _law_word: ['_law_from', '_law_many', '_law_most', '_law_k']
abbrev m_law_word : MTS :=
 (mSeq (mSet 2 (mOp rIx (mLst (mCons (mC (.int 1)) (mCons (mC (.int 2)) (mCons (mC (.int 3)) (mCons (mC (.int 100)) mNil))))) (mCall c_law_take noE (mCons (mVar 0) (mCons (mC (.int 4)) mNil)))))
 (mRet (mCa rTuple (mCons (mLc (mRange1 (mVar 1)) (.nm 3) mYes (mCall c_law_take noE (mCons (mVar 0) (mCons (mVar 2) mNil))) [3]) mNil))))
abbrev N_law_word : List Str := ["_law_from", "_law_many", "_law_most", "_law_k"]
-- _law_bound: ['_law_way', '_law_many', '_law_total', '_law_k']
abbrev m_law_bound : MTS :=
 (mSeq (mIf (mTest (mOp rEq (mVar 0) (mC (.str "round")))) (mRet (mOp rAdd (mSumR1 (mOp rAdd (mVar 1) (mC (.int 1)))) (mVar 1))) mNext)
 (mSeq (mIf (mTest (mOp rEq (mVar 0) (mC (.str "whole")))) (mRet (mOp rSub (mOp rMul (mVar 1) (mVar 1)) (mVar 1))) mNext)
 (mSeq (mIf (mTest (mOp rEq (mVar 0) (mC (.str "halves")))) (mRet (mOp rMul (mOp rMul (mC (.int 2)) (mVar 1)) (mCa rLen (mCons (mLc (mRange1 (mC (.int 8))) (.nm 3) (mTest (mOp rLeI (mOp rShl (mC (.int 1)) (mVar 3)) (mVar 1))) (mVar 3) [3]) mNil)))) mNext)
 (mSeq (mSet 2 (mOp rMul (mC (.int 5)) (mVar 1)))
 (mSeq (mFor (mRange1 (mC (.int 7))) (.nm 3) (mIf (mTest (mOp rLtI (mOp rShl (mC (.int 1)) (mVar 3)) (mVar 1))) (mSet 2 (mOp rAdd (mVar 2) (mOp rMul (mOp rShl (mC (.int 8)) (mVar 3)) (mOp rFdiv (mVar 1) (mOp rAdd (mOp rShl (mC (.int 1)) (mVar 3)) (mC (.int 1))))))) mNext))
 (mRet (mVar 2)))))))
abbrev N_law_bound : List Str := ["_law_way", "_law_many", "_law_total", "_law_k"]
-- _law_is: ['_law_found', '_law_due']
abbrev m_law_is : MTS :=
 (mRet (mAndV (mIsi "int" (mVar 0)) (mAndV (mNotV (mTest (mIsi "bool" (mVar 0)))) (mOp rEq (mVar 0) (mVar 1)))))
abbrev N_law_is : List Str := ["_law_found", "_law_due"]
-- _law_from_behind: ['_law_power', '_law_names', '_law_k', '_law_name']
abbrev m_law_from_behind : MTS :=
 (mSeq (mSet 1 (mLst (mCons (mC (.int 0)) mNil)))
 (mSeq (mFor (mRange1 (mVar 0)) (.nm 2) (mSet 1 (mOp rAdd (mLc (mIter (mVar 1)) (.nm 3) mYes (mOp rMul (mC (.int 2)) (mVar 3)) [3]) (mLc (mIter (mVar 1)) (.nm 3) mYes (mOp rAdd (mOp rMul (mC (.int 2)) (mVar 3)) (mC (.int 1))) [3]))))
 (mRet (mCa rTuple (mCons (mVar 1) mNil)))))
abbrev N_law_from_behind : List Str := ["_law_power", "_law_names", "_law_k", "_law_name"]
-- law: ['_law_script', '_law_k', '_law_from', '_law_many', '_law_here', '_law_begun', '_law_way', '_law_falling', '_law_other', '_law_dear', '_law_due', '_law_word_here']
abbrev m_law : MTS :=
 (mSeq (mFor (mRange1 (mCa rMax2 (mCons (mC (.int 2)) (mCons (mCa rMin2 (mCons (mC (.int 10)) (mCons (mCa rLen (mCons (mVar 0) mNil)) mNil))) mNil)))) (.nm 1) (mSeq (mSet 2 (mCall c_law_hand noE (mCons (mVar 0) (mCons (mVar 1) mNil))))
 (mSeq (mSet 3 (mCall c_law_size noE (mCons (mVar 2) mNil)))
 (mSeq (mSet 4 (mCall c_law_ring noE (mCons (mVar 2) (mCons (mVar 3) mNil))))
 (mSeq (mSet 5 (mCall c_law_some noE (mCons (mVar 2) (mCons (mVar 3) mNil))))
 (mSeq (mFor (mIter (mTup (mCons (mC (.str "round")) (mCons (mC (.str "halves")) (mCons (mC (.str "reach")) (mCons (mC (.str "whole")) mNil)))))) (.nm 6) (mSeq (mSet 10 (mCall c_law_bound noE (mCons (mVar 6) (mCons (mVar 3) mNil))))
 (mSeq (mSet 11 (mIfE (mTest (mOp rNe (mVar 6) (mC (.str "whole")))) (mVar 4) (mCall c_law_word noE (mCons (mVar 2) (mCons (mVar 3) mNil)))))
 (mSeq (mIf (mNot (mTest (mCall c_law_is noE (mCons (mCall c_bound noE (mCons (mVar 6) (mCons (mVar 3) mNil))) (mCons (mVar 10) mNil))))) (mRet (mC (.bl false))) mNext)
 (mIf (mTest (mOp rGtI (mCall c_told_letters noE (mCons (mVar 6) (mCons (mVar 11) (mCons (mVar 5) mNil)))) (mVar 10))) (mRet (mC (.bl false))) mNext)))))
 (mSeq (mSet 7 (mCa rTuple (mCons (mSortRev (mVar 4)) mNil)))
 (mSeq (mIf (mTest (mOp rNe (mCall c_told_letters noE (mCons (mC (.str "round")) (mCons (mVar 7) (mCons (mTupR1 (mVar 3)) mNil)))) (mCall c_bound noE (mCons (mC (.str "round")) (mCons (mVar 3) mNil))))) (mRet (mC (.bl false))) mNext)
 (mSeq (mSet 8 (mOp rAdd (mC (.int 1)) (mCall c_law_take noE (mCons (mVar 2) (mCons (mC (.int 64)) mNil)))))
 (mSeq (mFor (mIter (mTup (mCons (mC (.str "round")) (mCons (mC (.str "halves")) (mCons (mC (.str "reach")) (mCons (mC (.str "whole")) mNil)))))) (.nm 6) (mIf (mNot (mTest (mCall c_law_is noE (mCons (mCall c_bound noE (mCons (mVar 6) (mCons (mVar 8) mNil))) (mCons (mCall c_law_bound noE (mCons (mVar 6) (mCons (mVar 8) mNil))) mNil))))) (mRet (mC (.bl false))) mNext))
 (mSeq (mSet 9 (mCall c_law_from_behind noE (mCons (mCall c_law_take noE (mCons (mVar 2) (mCons (mC (.int 7)) mNil))) mNil)))
 (mIf (mTest (mOp rGtI (mCall c_told_letters noE (mCons (mC (.str "halves")) (mCons (mVar 9) (mCons (mTupR1 (mCa rLen (mCons (mVar 9) mNil))) mNil)))) (mCall c_bound noE (mCons (mC (.str "halves")) (mCons (mCa rLen (mCons (mVar 9) mNil)) mNil))))) (mRet (mC (.bl false))) mNext))))))))))))
 (mRet (mC (.bl true))))
abbrev N_law : List Str := ["_law_script", "_law_k", "_law_from", "_law_many", "_law_here", "_law_begun", "_law_way", "_law_falling", "_law_other", "_law_dear", "_law_due", "_law_word_here"]
theorem cut_to {xs : List D} {k : Nat} : cutD xs none (some (k : Int)) = xs.take k := by
  unfold cutD
  have e1 : HT.sIx xs.length 0 none = 0 := rfl
  have e2 : HT.sIx xs.length xs.length (some (k : Int)) = min k xs.length := by
    show (if (k : Int) < 0 then ((k : Int) + (xs.length : Int)).toNat else min (k : Int).toNat xs.length) = _
    rw [if_neg (by omega), Int.toNat_natCast]
  rw [e1, e2, List.drop_zero, Nat.sub_zero]
  by_cases h : k ≤ xs.length
  · rw [Nat.min_eq_left h]
  · rw [Nat.min_eq_right (by omega), List.take_of_length_le (Nat.le_refl _), List.take_of_length_le (by omega)]
theorem cut_from {xs : List D} {k : Nat} : cutD xs (some (k : Int)) none = xs.drop k := by
  unfold cutD
  have e1 : HT.sIx xs.length 0 (some (k : Int)) = min k xs.length := by
    show (if (k : Int) < 0 then ((k : Int) + (xs.length : Int)).toNat else min (k : Int).toNat xs.length) = _
    rw [if_neg (by omega), Int.toNat_natCast]
  have e2 : HT.sIx xs.length xs.length none = xs.length := rfl
  rw [e1, e2]
  by_cases h : k ≤ xs.length
  · rw [Nat.min_eq_left h, List.take_of_length_le (by rw [List.length_drop]; omega)]
  · rw [Nat.min_eq_right (by omega), List.drop_eq_nil_of_le (Nat.le_refl _), List.drop_eq_nil_of_le (by omega), List.take_nil]
theorem memI {x : D} {xs : List Int} (h : x ∈ xs.map D.int) : ∃ i, x = .int i ∧ i ∈ xs := let ⟨i, a, b⟩ := List.mem_map.mp h; ⟨i, b.symm, a⟩
theorem Fr.wk {S : List Addr} {h h1 : MH} (a : Fr [] h h1) : Fr S h h1 := a.mono (by simp)
/-! ### the hand -/
theorem len_law_hand : ∀ ds h Q E, c_law_hand ds h Q E → ds.length = 2 := by rintro ds h Q E ⟨a, b, rfl, _⟩; rfl
theorem len_law_take : ∀ ds h Q E, c_law_take ds h Q E → ds.length = 2 := by rintro ds h Q E ⟨a, b, c, rfl, _⟩; rfl
theorem p_law_hand : ∀ ds h Q E, c_law_hand ds h Q E → m_law_hand { nx := fun _ h' => Q .non h', rt := Q } (mstart N_law_hand ds) h := by
  rintro ds h Q E ⟨ns, k, rfl, hk, q⟩
  walk_at "n"
  have fin : ∀ cell : Int, mRet (mLst (mCons (mOp rMul (mVar 2) (mCa rInt1 (mCons (mOp rGeI (mVar 2) (mOp rPow (mC (.int 10)) (mC (.int 18)))) mNil))) (mCons (mOp rAdd (mOp rAdd (mOp rMod (mVar 2) (mC (.int 2305843009213693951))) (mOp rMul (mC (.int 7919)) (mVar 1))) (mC (.int 3))) (mCons (mC (.int 0)) mNil)))) { nx := fun _ h' => Q .non h', rt := Q } [some (.rl (ns.map .int)), some (.int k), some (.int cell)] h := fun cell => by
    walk_at "n"
    have h1 := Int.emod_nonneg cell (show (2305843009213693951 : Int) ≠ 0 by decide)
    have h2 := Int.emod_lt_of_pos cell (show (0 : Int) < 2305843009213693951 by decide)
    refine ⟨⟨by decide, by decide, by decide⟩, mulOkR (by split <;> decide) (by split <;> decide), mulOkL (by decide) (by decide), fun p np => ?_⟩
    refine q p _ (.new np) np ⟨_, _, _, up_same, by omega, by omega, by omega, by omega⟩
  walk_at "n"
  refine ite_ (fun c => ?_) (fun c => ?_)
  · have hl : k < ns.length := by simpa using c
    have e : atI (ns.map D.int) (k : Int) = some (.int ns[k]) := atI_nat (by rw [List.getElem?_map, List.getElem?_eq_getElem hl]; rfl)
    walk_at "n"
  · walk_at "n"

theorem p_law_take : ∀ ds h Q E, c_law_take ds h Q E → m_law_take { nx := fun _ h' => Q .non h', rt := Q } (mstart N_law_take ds) h := by
  rintro ds h Q E ⟨a, many, t, rfl, ⟨s0, s1, s2, e, a1, a2, a3, a4⟩, hm, hm2, q⟩
  have dv : DivOk many := divOk hm hm2
  have r0 : ∀ x : Int, 0 ≤ x % many := fun x => Int.emod_nonneg x (by omega)
  have r1 : ∀ x : Int, x % many < many := fun x => Int.emod_lt_of_pos x hm
  walk_at "n"
  refine ite_ (fun c => ?_) (fun c => ?_)
  · walk_at "n"
    walk_at "n"
    walk_at "n"
    exact q _ _ (r0 _) (r1 _) ⟨_, _, _, up_same, a1, a2, a3, by omega⟩ (.put (by simp))
  · walk_at "n"
    walk_at "n"
    walk_at "n"
    walk_at "n"
    have dd : ∀ d : Int, 0 < d → d < 2 ^ 62 → DivOk d := fun d h1 h2 => divOk h1 (by omega)
    refine ⟨mulOkL (by decide) (by decide), mulOkL (by omega) (by omega), mulOkL (by omega) (by omega), mulOkL (by decide) (by decide), ?_⟩
    generalize hx : (s1 * (48271 + 2 * (s2 + 1) * (s2 + 1)) + 65537 * (s2 + 1)) % 2305843009213693921 = x
    have hx0 : 0 ≤ x := by rw [← hx]; exact Int.emod_nonneg _ (by decide)
    have hx1 : x < 2305843009213693921 := by rw [← hx]; exact Int.emod_lt_of_pos _ (by decide)
    walk_at "n"
    refine ⟨mulOkL (by decide) (by decide), mulOkL (by omega) (by omega), ?_⟩
    walk_at "n"
    exact ⟨dd _ (by decide) (by decide), dd _ (by decide) (by decide), q _ _ (r0 _) (r1 _) ⟨_, _, _, up_same, a1, a2, by omega, by omega⟩ (.put (by simp))⟩
theorem len_law_word : ∀ ds h Q E, c_law_word ds h Q E → ds.length = 2 := by rintro ds h Q E ⟨a, b, c, rfl, _⟩; rfl
theorem p_law_word : ∀ ds h Q E, c_law_word ds h Q E → m_law_word { nx := fun _ h' => Q .non h', rt := Q } (mstart N_law_word ds) h := by
  rintro ds h Q E ⟨a, many, t, rfl, m1, m2, hd, q⟩
  walk_at "n"
  intro p np
  refine ⟨a, 4, t + 1 + many, rfl, (hd.put (hd.ne np)).less (by omega), by decide, by decide, fun r h1 r0 r1 hd1 f1 => ?_⟩
  have ep := f1.at1 up_same (Ne.symm (hd.ne np))
  obtain ⟨d, e1, e2⟩ := atI_lt (ds := [.int 1, .int 2, .int 3, .int 100]) r0 r1
  have hd5 : ∃ v : Int, d = .int v ∧ 1 ≤ v ∧ v ≤ 100 := by
    obtain ⟨v, rfl, hv⟩ := memI (xs := [1, 2, 3, 100]) e2
    refine ⟨v, rfl, ?_⟩
    simp only [List.mem_cons, List.not_mem_nil, or_false] at hv
    omega
  obtain ⟨v, rfl, v1, v2⟩ := hd5
  refine ⟨_, ep, _, e1, ?_⟩
  walk_at "n"
  refine ⟨by omega, by omega, ?_⟩
  refine lcS [a] (fun k acc h' => ∃ zs : List Int, acc = zs.map .int ∧ zs.length = k ∧ Hand h' a (t + 1 + many - k)) (by simpa using hd1.some) ?_ ⟨[], rfl, rfl, hd1⟩ (fun _ _ => trivial) (by rw [srcR_n]; omega) ?_ ?_
  · rintro k acc h' p2 o np2 ⟨zs, e3, e4, e6⟩
    exact ⟨zs, e3, e4, e6.put (hd1.ne np2)⟩
  · rintro k acc h' hk fr ⟨zs, rfl, e4, e6⟩ _
    have hk : k < many := by rw [srcR_n] at hk; omega
    refine ⟨_, rfl, fun R _ r => ?_⟩
    walk_at "m"
    refine ⟨a, v, t + many - k, rfl, e6.less (by omega), by omega, by omega, fun u h5 u0 u1 hd5 f5 => ?_⟩
    exact r _ h5 f5 ⟨zs ++ [u], by rw [List.map_append]; rfl, by rw [List.length_append, e4]; rfl, hd5.less (by omega)⟩
  · rintro p2 h' acc fr np2 e9 ⟨zs, rfl, e4, e6⟩
    have hn : (srcR 0 (many : Int).toNat 1).n = many := by rw [srcR_n]; omega
    rw [hn] at e4 e6
    walk_at "m"
    exact q h' zs e4 (e6.less (by omega)) (Fr.trans (Fr.new np) (f1.trans fr))
/-! ### rings, some houses, stops -/
theorem len_law_order : ∀ ds h Q E, c_law_order ds h Q E → ds.length = 2 := by rintro ds h Q E ⟨a, b, c, rfl, _⟩; rfl
theorem len_law_ring : ∀ ds h Q E, c_law_ring ds h Q E → ds.length = 2 := by rintro ds h Q E ⟨a, b, c, rfl, _⟩; rfl
theorem len_law_some : ∀ ds h Q E, c_law_some ds h Q E → ds.length = 2 := by rintro ds h Q E ⟨a, b, c, rfl, _⟩; rfl
theorem len_law_size : ∀ ds h Q E, c_law_size ds h Q E → ds.length = 1 := by rintro ds h Q E ⟨a, b, rfl, _⟩; rfl
theorem row_atI {row : List Int} {x : Int} (h0 : 0 ≤ x) (h : x < row.length) : atI (row.map D.int) x = some (.int (row.getD x.toNat 0)) := by
  have e : x = (x.toNat : Int) := by omega
  have hl : x.toNat < row.length := by omega
  have := atI_ints (xs := row) (i := x.toNat) (x := row.getD x.toNat 0) (by rw [List.getD_eq_getElem?_getD, List.getElem?_eq_getElem hl]; rfl)
  rw [← e] at this
  exact this
theorem rgI0m (n : Nat) : rgI 0 (n : Int) = List.map (fun i : Nat => (i : Int)) (List.range n) := by
  unfold rgI
  rw [Int.sub_zero, Int.toNat_natCast]
  refine List.map_congr_left fun i _ => ?_
  rw [Int.zero_add]
theorem erase_map {α β : Type} (f : α → β) : ∀ (xs : List α) (i : Nat), (xs.map f).eraseIdx i = (xs.eraseIdx i).map f
  | [], _ => rfl
  | _ :: _, 0 => rfl
  | x :: xs, i + 1 => by show f x :: (xs.map f).eraseIdx i = f x :: (xs.eraseIdx i).map f; rw [erase_map f xs i]
theorem fst_step {c : Nat → Bool} {f k : Nat} : fst c f (k + 1) = if c f = true then f else fst c (f + 1) k := rfl
theorem perm_idx {α : Type} : ∀ {l : List α} {i : Nat} (h : i < l.length), (l[i] :: l.eraseIdx i).Perm l
  | [], i, h => by simp at h
  | x :: l, 0, h => List.Perm.refl _
  | x :: l, i + 1, h => by
    have h' : i < l.length := by simpa using h
    show (l[i] :: x :: l.eraseIdx i).Perm (x :: l)
    exact (List.Perm.swap _ _ _).trans ((perm_idx h').cons x)
theorem p_law_size : ∀ ds h Q E, c_law_size ds h Q E → m_law_size { nx := fun _ h' => Q .non h', rt := Q } (mstart N_law_size ds) h := by
  rintro ds h Q E ⟨a, t, rfl, hd, q⟩
  walk_at "n"
  intro p np
  refine ⟨a, 5, t + 1, rfl, hd.put (hd.ne np), by decide, by decide, fun r h1 r0 r1 hd1 f1 => ?_⟩
  have ep := f1.at1 up_same (Ne.symm (hd.ne np))
  obtain ⟨d, e1, e2⟩ := atI_lt (ds := [.int 12, .int 12, .int 12, .int 12, .int 64]) r0 r1
  have hd5 : ∃ v : Int, d = .int v ∧ 1 ≤ v ∧ v ≤ 64 := by
    obtain ⟨v, rfl, hv⟩ := memI (xs := [12, 12, 12, 12, 64]) e2
    refine ⟨v, rfl, ?_⟩
    simp only [List.mem_cons, List.not_mem_nil, or_false] at hv
    omega
  obtain ⟨v, rfl, v1, v2⟩ := hd5
  refine ⟨_, ep, _, e1, ?_⟩
  refine ⟨a, v, t, rfl, hd1, by omega, by omega, fun s h2 s0 s1 hd2 f2 => ?_⟩
  walk_at "m"
  obtain ⟨n, en⟩ : ∃ n : Nat, 1 + s = (n : Int) := ⟨(1 + s).toNat, by omega⟩
  rw [en]
  exact q n h2 (by omega) (by omega) hd2 (Fr.trans (Fr.new np) (f1.trans f2))
theorem p_law_order : ∀ ds h Q E, c_law_order ds h Q E → m_law_order { nx := fun _ h' => Q .non h', rt := Q } (mstart N_law_order ds) h := by
  rintro ds h Q E ⟨a, many, t, rfl, m1, m2, hd, q⟩
  walk_at "n"
  refine ⟨a, 6, t + 1 + many, rfl, hd.less (by omega), by decide, by decide, fun w h1 w0 w1 hd1 f1 => ?_⟩
  walk_at "n"
  refine ⟨a, many, t + many, rfl, hd1.less (by omega), by omega, by omega, fun u h2 u0 u1 hd2 f2 => ?_⟩
  walk_at "n"
  refine ⟨by omega, by omega, ?_⟩
  refine lcP (fun k => some (.int ((u + (k : Int)) % many))) (fun _ _ => trivial) (by rw [srcR_n]; omega) (fun k h3 hk fr => ⟨_, rfl, fun R r => ?_⟩) (fun p h3 fr np ep => ?_)
  · have : (0 : Int) < many := by omega
    walk_at "m"
    exact r h3 .refl
  have hn : (srcR 0 (many : Int).toNat 1).n = many := by rw [srcR_n]; omega
  have ex : (List.range many).filterMap (fun k : Nat => some (D.int ((u + (k : Int)) % many))) = ((List.range many).map fun k : Nat => (u + (k : Int)) % many).map D.int := by
    rw [fm_some, List.map_map]; rfl
  rw [hn, ex] at ep
  generalize hxs : ((List.range many).map fun k : Nat => (u + (k : Int)) % many) = xs at ep
  have lx : xs.length = many := by rw [← hxs, List.length_map, List.length_range]
  have bx : ∀ x ∈ xs, 0 ≤ x ∧ x < many := by
    intro x hx
    rw [← hxs] at hx
    obtain ⟨k, _, rfl⟩ := List.mem_map.mp hx
    exact ⟨Int.emod_nonneg _ (by omega), Int.emod_lt_of_pos _ (by omega)⟩
  have nx : xs.Nodup := by
    rw [← hxs]
    refine List.Pairwise.map _ (R := fun i j : Nat => i < j ∧ j < many) (fun i j q z => ?_) ?_
    · have z2 : (u + (i : Int)) % many = (u + (j : Int)) % many := z
      have z3 : (many : Int) ∣ ((u + (j : Int)) - (u + (i : Int))) := Int.dvd_of_emod_eq_zero (by rw [Int.sub_emod, z2, Int.sub_self, Int.zero_emod])
      have z4 : (many : Int) ∣ (((j - i : Nat)) : Int) := by
        rw [show ((j - i : Nat) : Int) = (u + (j : Int)) - (u + (i : Int)) by omega]; exact z3
      have z5 := Nat.le_of_dvd (by omega) (Int.natCast_dvd_natCast.mp z4)
      omega
    · refine (List.pairwise_lt_range (n := many)).imp_of_mem fun {i j} hi hj q => ⟨q, List.mem_range.mp hj⟩
  have hd3 := hd2.fr fr
  have np0 : h p = none := by
    cases c : h p with
    | none => rfl
    | some o =>
      have : a ≠ p := hd2.ne np
      rw [f2 p o (by simpa using Ne.symm this) (f1 p o (by simpa using Ne.symm this) c)] at np
      cases np
  have frh : Fr [a] h h3 := f1.trans (f2.trans (fr.mono (by simp)))
  have ap : a ≠ p := hd2.ne np
  clear hxs ex
  walk_at "n"
  refine ite_ (fun c => ?_) (fun c => ?_)
  · walk_at "n"
    exact q p h3 xs lx bx nx (hd3.less (by omega)) frh ep np0
  walk_at "n"
  walk_at "n"
  refine ite_ (fun c => ?_) (fun c => ?_)
  · walk_at "n"
    intro p2 np2
    refine q p2 _ xs.reverse (by rw [List.length_reverse, lx]) (fun x hx => bx x (List.mem_reverse.mp hx)) (List.pairwise_reverse.mpr (nx.imp Ne.symm)) ((hd3.put (hd3.ne np2)).less (by omega)) (frh.trans (.new np2)) (by rw [up_same, List.map_reverse]) ?_
    cases c : h p2 with
    | none => rfl
    | some o =>
      have : a ≠ p2 := hd3.ne np2
      rw [frh p2 o (by simpa using Ne.symm this) c] at np2
      cases np2
  walk_at "n"
  walk_at "n"
  refine ⟨by omega, by omega, ?_⟩
  refine lcS [a, p] (fun k acc h' => ∃ zs ys : List Int, acc = zs.map .int ∧ zs.length = k ∧ (∀ x ∈ zs, 0 ≤ x ∧ x < many) ∧ (∀ x ∈ ys, 0 ≤ x ∧ x < many) ∧ (zs ++ ys).Nodup ∧ ys.length + k = many ∧ h' p = some (.lst (ys.map .int)) ∧ Hand h' a (t + many - k)) (by
      intro b hb
      simp only [List.mem_cons, List.not_mem_nil, or_false] at hb
      rcases hb with rfl | rfl
      · exact hd3.some
      · rw [ep]; exact fun z => by cases z) ?_ ⟨[], xs, rfl, rfl, by simp, bx, nx, by omega, ep, hd3⟩ (fun _ _ => trivial) (by rw [srcR_n]; omega) ?_ ?_
  · rintro k acc h' p2 o np2 ⟨zs, ys, e1, e2, e3, e4, nd, e5, e6, e7⟩
    exact ⟨zs, ys, e1, e2, e3, e4, nd, e5, by rw [up_ne (ne_of ep np2)]; exact e6, e7.put (hd3.ne np2)⟩
  · rintro k acc h' hk f4 ⟨zs, ys, rfl, e2, e3, e4, nd, e5, e6, e7⟩ _
    have hk : k < many := by rw [srcR_n] at hk; omega
    refine ⟨_, rfl, fun R _ r => ?_⟩
    walk_at "m"
    refine ⟨a, ys.length, t + many - k - 1, rfl, e7.less (by omega), by omega, by omega, fun v h5 v0 v1 hd5 f5 => ?_⟩
    have e8 := f5.at1 e6 (Ne.symm ap)
    have hv : v.toNat < ys.length := by omega
    refine ⟨_, e8, v0, by rw [List.length_map]; exact v1, by rw [List.length_map]; omega, _, by rw [List.getElem?_map, List.getElem?_eq_getElem hv]; rfl, ?_⟩
    refine r _ _ ((f5.mono (by simp)).trans (.put (by simp))) ⟨zs ++ [ys[v.toNat]], ys.eraseIdx v.toNat, by rw [List.map_append]; rfl, by rw [List.length_append, e2]; rfl, ?_, fun x hx => e4 x (List.mem_of_mem_eraseIdx hx), (by rw [List.append_assoc]; exact ((List.Perm.append_left zs (perm_idx hv)).nodup_iff).mpr nd), by rw [List.length_eraseIdx_of_lt hv]; omega, by rw [up_same, erase_map], (hd5.put ap).less (by omega)⟩
    intro x hx
    rcases List.mem_append.mp hx with h | h
    · exact e3 x h
    · rw [List.mem_singleton.mp h]; exact e4 _ (List.getElem_mem hv)
  · rintro p2 h' acc f4 np2 e9 ⟨zs, ys, rfl, e2, e3, e4, nd, e5, e6, e7⟩
    rw [hn] at e2
    have fr4 : Fr [a] h h' := fun b o nb e => by
      have nbp : b ≠ p := ne_of e np0
      exact f4 b o (by simp only [List.mem_cons, List.not_mem_nil, or_false] at nb ⊢; exact fun z => z.elim nb nbp) (frh b o nb e)
    refine q p2 h' zs e2 e3 (List.nodup_append.mp nd).1 (e7.less (by omega)) fr4 e9 ?_
    cases c : h p2 with
    | none => rfl
    | some o =>
      have : a ≠ p2 := hd3.ne np2
      rw [frh p2 o (by simpa using Ne.symm this) c] at np2
      cases np2
theorem p_law_ring : ∀ ds h Q E, c_law_ring ds h Q E → m_law_ring { nx := fun _ h' => Q .non h', rt := Q } (mstart N_law_ring ds) h := by
  rintro ds h Q E ⟨a, many, t, rfl, m1, m2, hd, q⟩
  walk_at "n"
  refine ⟨a, many, t + 1 + many, rfl, m1, m2, hd.less (by omega), fun p h1 xs lx bx nx hd1 f1 e1 np => ?_⟩
  have ap : a ≠ p := by
    intro z; subst z
    exact hd.some np
  walk_at "n"
  refine ⟨a, 3, t + many, rfl, hd1.less (by omega), by decide, by decide, fun w h2 w0 w1 hd2 f2 => ?_⟩
  have e2 := f2.at1 e1 (Ne.symm ap)
  walk_at "m"
  refine ite_ (fun c => ?_) (fun c => ?_)
  · walk_at "n"
    refine lcS [a] (fun k acc h' => ∃ zs : List Int, acc = zs.map .int ∧ zs.length = k ∧ (∀ x ∈ zs, 0 ≤ x ∧ x < 2 ^ 50) ∧ zs.map (fun x => x / 15625000000) = xs.take k ∧ Hand h' a (t + many - k)) (by simpa using hd2.some) ?_ ⟨[], rfl, rfl, by simp, rfl, hd2⟩ (fun h' f => f.at1 e2 (Ne.symm ap)) (by rw [srcD_n, List.length_map]; omega) ?_ ?_
    · rintro k acc h' p2 o np2 ⟨zs, e3, e4, e5, ez, e6⟩
      exact ⟨zs, e3, e4, e5, ez, e6.put (hd2.ne np2)⟩
    · rintro k acc h' hk fr ⟨zs, rfl, e4, e5, ez, e6⟩ _
      have hk : k < xs.length := by rw [srcD_n, List.length_map] at hk; exact hk
      have bk := bx _ (List.getElem_mem hk)
      refine ⟨_, rfl, fun R _ r => ?_⟩
      rw [srcD_item, getD_map hk]
      have et := List.take_succ_eq_append_getElem hk
      generalize xs[k] = x at bk et ⊢
      walk_at "m"
      refine ⟨mulOkL (by omega) (by omega), ⟨by decide, by decide, by decide⟩, ?_⟩
      refine ⟨a, _, t + many - k - 1, rfl, e6.less (by omega), by decide, by decide, fun v h5 v0 v1 hd5 f5 => ?_⟩
      walk_at "m"
      refine r _ h5 f5 ⟨zs ++ [x * 15625000000 + v], by rw [List.map_append]; rfl, by rw [List.length_append, e4]; rfl, ?_, (by rw [et, List.map_append, ez]; show _ ++ [(x * 15625000000 + v) / 15625000000] = _; have v1 : v < 10000000000 := v1; rw [show (x * 15625000000 + v) / 15625000000 = x by omega]), hd5.less (by omega)⟩
      intro y hy
      rcases List.mem_append.mp hy with h | h
      · exact e5 y h
      · rw [List.mem_singleton.mp h]
        have v1 : v < 10000000000 := v1
        omega
    · rintro p2 h' acc fr np2 e9 ⟨zs, rfl, e4, e5, ez, e6⟩
      rw [srcD_n, List.length_map] at e4 e6 ez
      rw [List.take_length] at ez
      have nz : zs.Nodup := by
        rw [← ez] at nx
        exact (List.Pairwise.of_map (f := fun x : Int => x / 15625000000) (S := fun a b => a ≠ b) (fun a b q z => q (congrArg (fun x : Int => x / 15625000000) z)) nx)
      clear ez
      walk_at "m"
      exact q h' zs (by omega) e5 nz (e6.less (by omega)) (f1.trans (f2.trans fr))
  · walk_at "n"
    walk_at "n"
    exact q h2 xs lx (fun x hx => by have := bx x hx; omega) nx (hd2.less (by omega)) (f1.trans f2)
theorem p_law_some : ∀ ds h Q E, c_law_some ds h Q E → m_law_some { nx := fun _ h' => Q .non h', rt := Q } (mstart N_law_some ds) h := by
  rintro ds h Q E ⟨a, many, t, rfl, m1, m2, hd, q⟩
  walk_at "n"
  refine ⟨a, 4, t + 1 + many, rfl, hd.less (by omega), by decide, by decide, fun w h1 w0 w1 hd1 f1 => ?_⟩
  walk_at "n"
  refine ite_ (fun c => ?_) (fun c => ?_)
  · walk_at "n"
    refine ⟨⟨by omega, by omega, by omega, by omega, by omega⟩, ?_⟩
    rw [rgI0m]
    refine q h1 _ ⟨by rw [List.length_map, List.length_range]; omega, fun x hx => ?_⟩ (List.Pairwise.map _ (R := fun i j : Nat => i < j) (fun i j q z => by have : (i : Int) = j := z; omega) List.pairwise_lt_range) (by rw [List.length_map, List.length_range]; omega) (by rw [List.length_map, List.length_range]; omega) (hd1.less (by omega)) f1
    obtain ⟨i, hi, rfl⟩ := List.mem_map.mp hx
    have := List.mem_range.mp hi
    omega
  walk_at "n"
  walk_at "n"
  refine ⟨a, many, t + many, rfl, hd1.less (by omega), by omega, by omega, fun one h2 o0 o1 hd2 f2 => ?_⟩
  walk_at "n"
  refine ite_ (fun c2 => ?_) (fun c2 => ?_)
  · walk_at "n"
    exact q h2 [one] ⟨by simp, fun x hx => by rw [List.mem_singleton.mp hx]; omega⟩ (by simp) (by simp) (by simpa using m1) (hd2.less (by omega)) (f1.trans f2)
  walk_at "n"
  walk_at "n"
  refine ⟨by omega, by omega, ?_⟩
  refine lcS [a] (fun k acc h' => ∃ zs : List Int, acc = zs.map .int ∧ zs.length ≤ k ∧ (∀ x ∈ zs, 0 ≤ x ∧ x < k) ∧ zs.Nodup ∧ (one < k → 1 ≤ zs.length) ∧ Hand h' a (t + many - k)) (by simpa using hd2.some) ?_ ⟨[], rfl, Nat.le_refl _, by simp, List.nodup_nil, fun z => by omega, hd2⟩ (fun _ _ => trivial) (by rw [srcR_n]; omega) ?_ ?_
  · rintro k acc h' p2 o np2 ⟨zs, e3, e4, e5, nd, e6, e7⟩
    exact ⟨zs, e3, e4, e5, nd, e6, e7.put (hd2.ne np2)⟩
  · rintro k acc h' hk fr ⟨zs, rfl, e4, e5, nd, e6, e7⟩ _
    have hk : k < many := by rw [srcR_n] at hk; omega
    refine ⟨_, rfl, fun R r0 r => ?_⟩
    have yes : ∀ h5, Fr [a] h' h5 → Hand h5 a (t + many - (k + 1)) → R (some (.int k)) h5 := fun h5 f5 hd5 => by
      refine r _ h5 f5 ⟨zs ++ [(k : Int)], by rw [List.map_append]; rfl, by rw [List.length_append, List.length_singleton]; omega, ?_, List.nodup_append.mpr ⟨nd, by simp, fun a ha b hb z => by rw [List.mem_singleton.mp hb] at z; have := e5 a ha; omega⟩, fun _ => by rw [List.length_append, List.length_singleton]; omega, hd5⟩
      intro y hy
      rcases List.mem_append.mp hy with h | h
      · have := e5 y h; omega
      · rw [List.mem_singleton.mp h]; omega
    walk_at "m"
    refine ite_ (fun c3 => ?_) (fun c3 => ?_)
    · exact yes h' .refl (e7.less (by omega))
    · refine ⟨a, w, t + many - k - 1, rfl, e7.less (by omega), by omega, by omega, fun v h5 v0 v1 hd5 f5 => ?_⟩
      walk_at "m"
      refine ite_ (fun c4 => ?_) (fun c4 => ?_)
      · exact yes h5 f5 (hd5.less (by omega))
      · exact r0 h5 f5 ⟨zs, rfl, by omega, fun x hx => by have := e5 x hx; omega, nd, fun z => e6 (by omega), hd5.less (by omega)⟩
  · rintro p2 h' acc fr np2 e9 ⟨zs, rfl, e4, e5, nd, e6, e7⟩
    have hn : (srcR 0 (many : Int).toNat 1).n = many := by rw [srcR_n]; omega
    rw [hn] at e4 e5 e6 e7
    walk_at "m"
    exact q h' zs ⟨by omega, e5⟩ nd (e6 o1) e4 (e7.less (by omega)) (f1.trans (f2.trans fr))
theorem len_stop_of : ∀ ds h Q E, c_stop_of ds h Q E → ds.length = 4 := by rintro ds h Q E ⟨a, b, c, d, rfl, _⟩; rfl
theorem p_stop_of : ∀ ds h Q E, c_stop_of ds h Q E → m_stop_of { nx := fun _ h' => Q .non h', rt := Q } (mstart N_stop_of ds) h := by
  rintro ds h Q E ⟨ring, some', house, side, rfl, ⟨r1, r2⟩, h0, h1, hs, q⟩
  walk_at "n"
  walk_at "n"
  refine ⟨by omega, by omega, ?_⟩
  have en : ((ring.length : Int) - 1).toNat = ring.length - 1 := by omega
  rw [en]
  refine ⟨by omega, by omega, ?_⟩
  refine forW (fun k env h' => h' = h ∧ ∃ x y, env = [some (tI ring), some (tI some'), some (.int house), some (.int side), some (.int ring.length), x, y] ∧ fst (stC ring some' house side) (1 + k) (ring.length - 1 - k) = stV ring some' house side) ⟨rfl, _, _, rfl, rfl⟩ (fun _ _ _ _ => trivial) ?_ ?_
  · rintro k env h' hk ⟨rfl, x, y, rfl, ef⟩
    have hk : k < ring.length - 1 := hk
    obtain ⟨m, em⟩ : ∃ m, ring.length - 1 - k = m + 1 := ⟨ring.length - 1 - k - 1, by omega⟩
    rw [em, fst_step] at ef
    refine ⟨_, rfl, ?_⟩
    have ec : stC ring some' house side (1 + k) = (decide ((house + side * (1 + (k : Int))) % ring.length ∈ some') && decide (ring.getD house.toNat 0 < ring.getD ((house + side * (1 + (k : Int))) % ring.length).toNat 0)) := by
      unfold stC
      rw [show ((1 + k : Nat) : Int) = 1 + (k : Int) from by omega]
    have b0 := Int.emod_nonneg (house + side * (1 + (k : Int))) (show (ring.length : Int) ≠ 0 by omega)
    have b1 := Int.emod_lt_of_pos (house + side * (1 + (k : Int))) (show (0 : Int) < ring.length by omega)
    have mo : MulOk side (1 + (k : Int)) := mulOkL (by omega) (by omega)
    have e1 := row_atI (row := ring) h0 h1
    have lp : (0 : Int) < ring.length := by omega
    generalize hm : (house + side * (1 + (k : Int))) % ring.length = w at b0 b1 ec ⊢
    have e2 := row_atI (row := ring) b0 b1
    have em2 : ring.length - 1 - (k + 1) = m := by omega
    rw [ec] at ef
    walk_at "n"
    walk_at "n"
    refine ite_ (fun c1 => ?_) (fun c1 => ?_)
    · refine ite_ (fun c2 => ?_) (fun c2 => ?_)
      · rw [decide_eq_true c1, decide_eq_true c2, Bool.true_and, if_pos rfl] at ef
        walk_at "n"
        rw [show (1 + (k : Int)) = ((1 + k : Nat) : Int) from by omega, ef]
        exact q
      · rw [decide_eq_false c2, Bool.and_false, if_neg Bool.false_ne_true] at ef
        walk_at "n"
        exact ef
    · rw [decide_eq_false c1, Bool.false_and, if_neg Bool.false_ne_true] at ef
      walk_at "n"
      exact ef
  · rintro env h' ⟨rfl, x, y, rfl, ef⟩
    rw [srcR_n, Nat.sub_self] at ef
    have ef : 1 + (ring.length - 1) = stV ring some' house side := ef
    walk_at "n"
    rw [show ((ring.length : Nat) : Int) = ((stV ring some' house side : Nat) : Int) from by omega]
    exact q
theorem len_next_row : ∀ ds h Q E, c_next_row ds h Q E → ds.length = 1 := by rintro ds h Q E ⟨a, rfl, _⟩; rfl
theorem len_phases : ∀ ds h Q E, c_phases ds h Q E → ds.length = 2 := by rintro ds h Q E ⟨a, b, rfl, _⟩; rfl
theorem prD_getD {row : List (Int × Int)} {k : Nat} (h : k < row.length) : (row.map prD).getD k .non = prD (row.getD k (0, 0)) := by
  rw [List.getD_eq_getElem?_getD, List.getElem?_map, List.getD_eq_getElem?_getD, List.getElem?_eq_getElem h]; rfl
/-- the place d ahead, by Python's count from behind -/
theorem row_back {row : List (Int × Int)} {k d : Nat} (hk : k < row.length) (hd : d ≤ row.length) (d1 : 1 ≤ d) : atI (row.map prD) ((k : Int) - (d : Int)) = some (prD (row.getD (pv row.length d k) (0, 0))) := by
  have hn : 0 < row.length := by omega
  have hp : pv row.length d k < row.length := pv_lt hn
  unfold atI ixN
  rw [List.length_map]
  by_cases c : (0 : Int) ≤ (k : Int) - (d : Int)
  · have e : pv row.length d k = k - d := by
      unfold pv
      rw [show k + row.length - d = (k - d) + row.length by omega, Nat.add_mod_right, Nat.mod_eq_of_lt (by omega)]
    rw [if_pos c, if_pos (by omega)]
    show (row.map prD)[((k : Int) - (d : Int)).toNat]? = _
    rw [show ((k : Int) - (d : Int)).toNat = k - d by omega, List.getElem?_map, List.getElem?_eq_getElem (by omega), e, List.getD_eq_getElem?_getD, List.getElem?_eq_getElem (by omega)]
    rfl
  · have e : pv row.length d k = k + row.length - d := by
      unfold pv
      rw [Nat.mod_eq_of_lt (by omega)]
    rw [if_neg c, if_pos (by omega)]
    show (row.map prD)[((k : Int) - (d : Int) + row.length).toNat]? = _
    rw [show ((k : Int) - (d : Int) + row.length).toNat = k + row.length - d by omega, List.getElem?_map, List.getElem?_eq_getElem (by omega), e, List.getD_eq_getElem?_getD, List.getElem?_eq_getElem (by omega)]
    rfl
theorem fm_succ {α : Type} {f : Nat → Option α} {k : Nat} : (List.range (k + 1)).filterMap f = (List.range k).filterMap f ++ (f k).toList := by
  rw [List.range_succ, List.filterMap_append]
  cases h : f k <;> simp [h]
theorem p_next_row : ∀ ds h Q E, c_next_row ds h Q E → m_next_row { nx := fun _ h' => Q .non h', rt := Q } (mstart N_next_row ds) h := by
  rintro ds h Q E ⟨row, rfl, l1, l2, q⟩
  walk_at "n"
  intro p np
  unfold rwD
  walk_at "n"
  refine forW (fun k env h' => Fr [] h h' ∧ ∃ x2 x3 x4 x5, env = [some (.tup (row.map prD)), some (.ref p), x2, x3, x4, x5] ∧ h' p = some (.lst (((List.range k).filterMap (nxf row)).map prD))) ⟨.new np, _, _, _, _, rfl, up_same⟩ (fun _ _ _ _ => trivial) ?_ ?_
  · rintro k env h' hk ⟨fr, x2, x3, x4, x5, rfl, ep⟩
    rw [srcE_n, List.length_map] at hk
    rw [srcE_item, prD_getD hk]
    refine ⟨_, rfl, ?_⟩
    have a1 : atI (row.map prD) ((k : Int) - 1) = some (.tup [.int (row.getD (pv row.length 1 k) (0, 0)).1, .int (hv row (pv row.length 1 k))]) := row_back (d := 1) hk (by omega) (by omega)
    have a2 : atI (row.map prD) ((k : Int) - 2) = some (.tup [.int (row.getD (pv row.length 2 k) (0, 0)).1, .int (hv row (pv row.length 2 k))]) := row_back (d := 2) hk (by omega) (by omega)
    rw [fm_succ]
    have ef : nxf row k = if (decide (hv row k < hv row (pv row.length 1 k)) && decide (hv row (pv row.length 2 k) < hv row (pv row.length 1 k))) = true then some ((row.getD k (0, 0)).1, hv row (pv row.length 1 k)) else none := rfl
    show mSeq _ _ _ [some (.tup (row.map prD)), some (.ref p), some (.int k), some (.int (row.getD k (0, 0)).1), some (.int (hv row k)), x5] h'
    rw [ef]
    generalize hv row (pv row.length 1 k) = near at a1 ⊢
    generalize hv row (pv row.length 2 k) = far at a2 ⊢
    generalize (row.getD (pv row.length 2 k) (0, 0)).1 = g1 at a2
    generalize (row.getD (pv row.length 1 k) (0, 0)).1 = g2 at a1
    generalize hv row k = held
    generalize (row.getD k (0, 0)).1 = house
    have ll : ((List.range k).filterMap (nxf row)).length < 16777216 := by
      have := List.length_filterMap_le (nxf row) (List.range k)
      rw [List.length_range] at this
      omega
    clear ef
    walk_at "n"
    walk_at "n"
    refine ite_ (fun c1 => ?_) (fun c1 => ?_)
    · refine ite_ (fun c2 => ?_) (fun c2 => ?_)
      · rw [decide_eq_true c1, decide_eq_true c2, Bool.true_and, if_pos rfl]
        walk_at "n"
        exact ⟨Fr.over np fr, by rw [List.map_append]; rfl⟩
      · rw [decide_eq_false c2, Bool.and_false, if_neg Bool.false_ne_true]
        walk_at "n"
        rw [Option.toList_none, List.append_nil]
    · rw [decide_eq_false c1, Bool.false_and, if_neg Bool.false_ne_true]
      walk_at "n"
      rw [Option.toList_none, List.append_nil]
  · rintro env h' ⟨fr, x2, x3, x4, x5, rfl, ep⟩
    rw [srcE_n, List.length_map] at ep
    walk_at "n"
    exact q h' fr
theorem nxr_bd {row : List (Int × Int)} : (nxr row).length ≤ row.length := by
  have := List.length_filterMap_le (nxf row) (List.range row.length)
  rw [List.length_range] at this
  exact this
theorem p_phases : ∀ ds h Q E, c_phases ds h Q E → m_phases { nx := fun _ h' => Q .non h', rt := Q } (mstart N_phases ds) h := by
  rintro ds h Q E ⟨ring, some', rfl, rk, sk, q⟩
  walk_at "n"
  refine lcL some' .int (fun x => some (prD (x, ring.getD x.toNat 0))) (fun _ _ => trivial) (by have := sk.1; omega) (fun x h2 hx f2 => ⟨_, rfl, fun R r => ?_⟩) (fun p h2 f2 np e0 => ?_)
  · have hx' := sk.2 x hx
    have a1 := row_atI (row := ring) hx'.1 hx'.2
    walk_at "m"
    exact r h2 .refl
  have e2 : h2 p = some (.lst ((row0 ring some').map prD)) := by
    rw [e0, fm_some]
    unfold row0
    rw [List.map_map]; rfl
  clear e0
  walk_at "m"
  walk_at "n"
  intro p2 np2
  have f3 : Fr [] h (up h2 p2 (.lst [.tup ((row0 ring some').map prD)])) := f2.trans (.new np2)
  have e3 : (up h2 p2 (.lst [.tup ((row0 ring some').map prD)])) p2 = some (.lst [.tup ((row0 ring some').map prD)]) := up_same
  generalize up h2 p2 (.lst [.tup ((row0 ring some').map prD)]) = h3 at f3 e3 ⊢
  have np0 : h p2 = none := f2.free np2
  have hl0 : (row0 ring some').length = some'.length := List.length_map ..
  have l0 := sk.1
  refine seq_ ?_
  refine while_ (fun m env h' => Fr [] h h' ∧ ∃ row rs x4, env = [some (tI ring), some (tI some'), some (rwD row), some (.ref p2), x4] ∧ h' p2 = some (.lst ((rs ++ [row]).map rwD)) ∧ row.length ≤ m + 1 ∧ m ≤ some'.length ∧ rs ++ phs m row = phV ring some' ∧ rs.length + m ≤ some'.length ∧ row.length ≤ some'.length) some'.length ⟨f3, row0 ring some', [], _, rfl, e3, by omega, Nat.le_refl _, rfl, by simp, by omega⟩ ?_
  rintro m env h' ⟨fr, row, rs, x4, rfl, e4, l1, l2, ep, l3, l6⟩
  walk_at "m"
  by_cases c : (row.length : Int) > 1
  · rw [decide_eq_true c, if_pos rfl]
    obtain ⟨m, rfl⟩ : ∃ k, m = k + 1 := ⟨m - 1, by omega⟩
    rw [phs_more (by omega)] at ep
    have l4 := nxr_lt (row := row) (by omega)
    have l5 := (phs_len m (nxr row)).1
    walk_at "n"
    refine ⟨row, rfl, by omega, by omega, fun h5 f5 => ?_⟩
    have e5 := f5.at0 e4
    have fr5 := fr.trans f5
    clear e4 e3 e2
    walk_at "n"
    refine ⟨by rw [List.length_append]; show rs.length + 1 < _; omega, m, by omega, Fr.over np0 fr5, nxr row, rfl, rs ++ [row], (List.map_append (f := rwD) (l₁ := rs ++ [row]) (l₂ := [nxr row])).symm, by omega, by omega, by rw [List.append_assoc]; exact ep, by rw [List.length_append]; show rs.length + 1 + m ≤ _; omega, by omega⟩
  · rw [decide_eq_false c, if_neg Bool.false_ne_true]
    rw [phs_one (by omega)] at ep
    rw [ep] at e4
    clear e3 e2
    walk_at "n"
theorem getD_map2 {α : Type} {f : α → Int} {xs : List α} {k : Nat} (h : k < xs.length) (d : Int) : (xs.map f).getD k d = f xs[k] := by
  rw [List.getD_eq_getElem?_getD, List.getElem?_map, List.getElem?_eq_getElem h]; rfl
theorem zip_rows {row : List (Int × Int)} : List.zipWith (fun d e => D.tup [d, e]) ((row.map (·.1)).map D.int) ((row.map (·.2)).map D.int) = row.map prD := by
  induction row with
  | nil => rfl
  | cons p r ih =>
    show D.tup [.int p.1, .int p.2] :: _ = _
    rw [ih]; rfl
theorem fst_at {row : List (Int × Int)} {k : Nat} (h : k < row.length) : atI ((row.map (·.1)).map D.int) (k : Int) = some (.int (row.getD k (0, 0)).1) := by
  refine atI_ints ?_
  rw [List.getElem?_map, List.getD_eq_getElem?_getD, List.getElem?_eq_getElem h]; rfl
theorem snd_at {row : List (Int × Int)} {k : Nat} (h : k < row.length) : atI ((row.map (·.2)).map D.int) (k : Int) = some (.int (hv row k)) := by
  refine atI_ints ?_
  unfold hv
  rw [List.getElem?_map, List.getD_eq_getElem?_getD, List.getElem?_eq_getElem h]; rfl
theorem back_mod {n d k : Nat} (hk : k < n) (hd : d ≤ n) : ((k : Int) + n - d) % n = (pv n d k : Nat) := by
  unfold pv
  rw [show (k : Int) + n - d = ((k + n - d : Nat) : Int) by omega, ← Int.natCast_emod]
theorem len_side_letters : ∀ ds h Q E, c_side_letters ds h Q E → ds.length = 2 := by rintro ds h Q E ⟨a, b, rfl, _⟩; rfl
theorem len_reach_letters : ∀ ds h Q E, c_reach_letters ds h Q E → ds.length = 2 := by rintro ds h Q E ⟨a, b, rfl, _⟩; rfl
theorem p_side_letters : ∀ ds h Q E, c_side_letters ds h Q E → m_side_letters { nx := fun _ h' => Q .non h', rt := Q } (mstart N_side_letters ds) h := by
  rintro ds h Q E ⟨r, s, rfl, r0, r1, q⟩
  unfold reS at q
  walk_at "n"
  refine ite_ (fun c => ?_) (fun c => ?_)
  · rw [if_pos c] at q
    walk_at "n"
    exact mulOkL (by decide) (by decide)
  · rw [if_neg c] at q
    walk_at "n"
    walk_at "n"
theorem p2le {k : Nat} (h : k ≤ 6) : (1 : Int) ≤ 2 ^ k ∧ (2 : Int) ^ k ≤ 64 := by
  have : k = 0 ∨ k = 1 ∨ k = 2 ∨ k = 3 ∨ k = 4 ∨ k = 5 ∨ k = 6 := by omega
  rcases this with rfl | rfl | rfl | rfl | rfl | rfl | rfl <;> decide
theorem p2last {k : Nat} {l : Int} (h : k ≤ 6) (hl : l ≤ 64) (c : (2 : Int) ^ k < l) : k ≤ 5 := by
  by_cases e : k = 6
  · subst e
    have : (2 : Int) ^ 6 = 64 := rfl
    omega
  · omega
theorem p_reach_letters : ∀ ds h Q E, c_reach_letters ds h Q E → m_reach_letters { nx := fun _ h' => Q .non h', rt := Q } (mstart N_reach_letters ds) h := by
  rintro ds h Q E ⟨l, r, rfl, hl, hr, q⟩
  obtain ⟨R, hR⟩ : ∃ R, R = reV l r 7 0 := ⟨_, rfl⟩
  rw [← hR] at q
  walk_at "n"
  walk_at "n"
  walk_at "n"
  refine seq_ (while_ (fun m env h' => h' = h ∧ ∃ (k : Nat) (tot : Int) (on : Bool), env = [some (.int l), some (.int r), some (.int tot), some (.int (2 ^ k)), some (.bl on)] ∧ ((on = true ∧ k ≤ 6 ∧ m = 8 - k ∧ tot + reV l r (7 - k) k = R) ∨ (on = false ∧ m = 0 ∧ tot = R))) 8 ⟨rfl, 0, 0, true, rfl, .inl ⟨rfl, by omega, rfl, by rw [hR]; exact Int.zero_add _⟩⟩ ?_)
  clear hR
  rintro m env h' ⟨rfl, k, tot, on, rfl, st⟩
  rcases st with ⟨rfl, hk, rfl, et⟩ | ⟨rfl, rfl, et⟩
  · obtain ⟨f, ef⟩ : ∃ f, 7 - k = f + 1 := ⟨6 - k, by omega⟩
    have b := p2le hk
    have ep : (2 : Int) ^ (k + 1) = 2 * 2 ^ k := by rw [Int.pow_succ, Int.mul_comm]
    rw [ef] at et
    unfold reV at et
    have ek : 7 - (k + 1) = f := by omega
    have ls1 := fun c => p2last (l := l) hk hl c
    have ls2 := fun c => p2last (l := r) hk hr c
    generalize hpw : (2 : Int) ^ k = pw at b ep et ls1 ls2 ⊢
    have mo : MulOk 2 pw := mulOkL (by decide) (by decide)
    walk_at "m"
    walk_at "n"
    refine ⟨pw, l, rfl, by omega, by omega, ?_⟩
    refine ⟨pw, r, rfl, by omega, by omega, ?_⟩
    walk_at "m"
    walk_at "n"
    refine ite_ (fun c1 => ?_) (fun c1 => ?_)
    · have := ls1 c1
      walk_at "n"
      rw [decide_eq_true c1, Bool.true_and] at et
      by_cases c2 : pw < r
      · rw [if_pos (decide_eq_true c2)] at et
        refine ⟨8 - (k + 1), by omega, k + 1, ep.symm, .inl ⟨decide_eq_true c2, by omega, rfl, by rw [ek]; omega⟩⟩
      · rw [if_neg (by simpa using c2)] at et
        exact ⟨0, by omega, k + 1, ep.symm, .inr ⟨decide_eq_false c2, rfl, by omega⟩⟩
    · rw [decide_eq_false c1, Bool.false_and, if_neg Bool.false_ne_true] at et
      walk_at "n"
      exact ⟨0, by omega, k + 1, ep.symm, .inr ⟨rfl, by omega⟩⟩
  · walk_at "m"
    walk_at "n"
theorem reS_eq {r s : Int} : (if s < r then s else r) + (if r < s then r else 0) = reS r s := by
  unfold reS; split <;> split <;> omega
theorem fst_le (c : Nat → Bool) : ∀ (k f : Nat), fst c f k ≤ f + k
  | 0, f => Nat.le_refl _
  | k + 1, f => by
    rw [fst_step]
    have := fst_le c k (f + 1)
    split <;> omega
theorem stV_le {ring some' : List Int} {x s : Int} (h : 1 ≤ ring.length) : stV ring some' x s ≤ ring.length := by
  have := fst_le (stC ring some' x s) (ring.length - 1) 1
  unfold stV; omega
theorem len_round_letters : ∀ ds h Q E, c_round_letters ds h Q E → ds.length = 2 := by rintro ds h Q E ⟨a, b, rfl, _⟩; rfl
theorem len_told_letters : ∀ ds h Q E, c_told_letters ds h Q E → ds.length = 3 := by rintro ds h Q E ⟨a, b, c, rfl, _⟩; rfl
theorem p_round_letters : ∀ ds h Q E, c_round_letters ds h Q E → m_round_letters { nx := fun _ h' => Q .non h', rt := Q } (mstart N_round_letters ds) h := by
  rintro ds h Q E ⟨ring, some', rfl, rk, sk, q⟩
  walk_at "n"
  refine lcL some' .int (fun x => some (.int (stV ring some' x 1))) (fun _ _ => trivial) (by have := sk.1; omega) (fun x h2 hx f2 => ⟨_, rfl, fun R r => ?_⟩) (fun p2 h2 f2 np2 e2 => ?_)
  · walk_at "m"
    exact ⟨ring, some', x, 1, rfl, rk, (sk.2 x hx).1, (sk.2 x hx).2, .inl rfl, r h2 .refl⟩
  · refine sum_fin e2 ?_
    walk_at "m"
    exact q h2 f2
theorem w_rh : decide (("halves" : Str) = "round") = false := by decide +kernel
theorem w_rr : decide (("reach" : Str) = "round") = false := by decide +kernel
theorem w_rw : decide (("whole" : Str) = "round") = false := by decide +kernel
theorem w_hr : decide (("reach" : Str) = "halves") = false := by decide +kernel
theorem w_hw : decide (("whole" : Str) = "halves") = false := by decide +kernel
theorem w_wr : decide (("reach" : Str) = "whole") = false := by decide +kernel
theorem w_wo : decide (("round" : Str) = "whole") = false := by decide +kernel
theorem w_wh : decide (("halves" : Str) = "whole") = false := by decide +kernel
theorem w_er : decide (("round" : Str) = "reach") = false := by decide +kernel
theorem w_ho : decide (("round" : Str) = "halves") = false := by decide +kernel
theorem rows_of_phV {ring some' : List Int} : (phV ring some').length ≤ some'.length + 1 ∧ ∀ r ∈ phV ring some', r.length ≤ some'.length := by
  obtain ⟨a, b⟩ := phs_len some'.length (row0 ring some')
  have hl0 : (row0 ring some').length = some'.length := List.length_map ..
  rw [hl0] at b
  exact ⟨a, b⟩
theorem dt_pap {w : Way} {ring some' : List Int} (h : some'.length ≤ 1000) : Dt 5 (papV w ring some') := by
  cases w with
  | round =>
    refine ⟨by rw [List.length_map]; omega, fun x hx => ?_⟩
    obtain ⟨i, _, rfl⟩ := List.mem_map.mp hx
    refine ⟨by show 2 ≤ _; omega, fun y hy => ?_⟩
    simp only [List.mem_cons, List.not_mem_nil, or_false] at hy
    rcases hy with rfl | rfl <;> exact trivial
  | reach =>
    refine ⟨by rw [List.length_map]; omega, fun x hx => ?_⟩
    obtain ⟨i, _, rfl⟩ := List.mem_map.mp hx
    refine ⟨by show 3 ≤ _; omega, fun y hy => ?_⟩
    simp only [List.mem_cons, List.not_mem_nil, or_false] at hy
    rcases hy with rfl | rfl | rfl <;> exact trivial
  | whole => exact ⟨by show 0 ≤ _; omega, fun x hx => nomatch hx⟩
  | halves =>
    obtain ⟨a, b⟩ := rows_of_phV (ring := ring) (some' := some')
    refine ⟨by rw [List.length_map]; omega, fun x hx => ?_⟩
    obtain ⟨r, hr, rfl⟩ := List.mem_map.mp hx
    have := b r hr
    refine ⟨by rw [List.length_map]; omega, fun y hy => ?_⟩
    obtain ⟨z, _, rfl⟩ := List.mem_map.mp hy
    refine ⟨by show 2 ≤ _; omega, fun y hy => ?_⟩
    simp only [List.mem_cons, List.not_mem_nil, or_false] at hy
    rcases hy with rfl | rfl <;> exact trivial
theorem stb {ring some' : List Int} (rk : RgK ring) (l64 : ring.length ≤ 64) (x s : Int) : ((stV ring some' x s : Nat) : Int) ≤ 64 := by
  have := stV_le (some' := some') (x := x) (s := s) rk.1; omega
theorem sum_succ {f : Int → Int} {xs : List Int} {j : Nat} (hj : j < xs.length) : ((xs.take (j + 1)).map f).sum = ((xs.take j).map f).sum + f xs[j] := by
  rw [List.take_succ_eq_append_getElem hj, List.map_append, List.sum_append]
  simp
theorem p_told_letters : ∀ ds h Q E, c_told_letters ds h Q E → m_told_letters { nx := fun _ h' => Q .non h', rt := Q } (mstart N_told_letters ds) h := by
  rintro ds h Q E ⟨w, ring, some', rfl, rk, l64, sk, q⟩
  have h1 := w_rh
  have h2 := w_rr
  have h3 := w_rw
  have h4 := w_hr
  have h5 := w_hw
  have h6 := w_wr
  have l0 := sk.1
  obtain ⟨a, b⟩ := rows_of_phV (ring := ring) (some' := some')
  have r2 := rk.2
  cases w with
  | round =>
    unfold Way.s
    walk_at "r"
    exact ⟨ring, some', rfl, rk, sk, q⟩
  | halves =>
    unfold Way.s
    walk_at "r"
    refine ⟨mulOkL (by omega) (by omega), ring, some', rfl, rk, sk, fun h5 f5 => ?_⟩
    have := q h5 f5
    walk_at "m"
    exact ⟨mulOkL (by omega) (by omega), this⟩
  | whole =>
    unfold Way.s
    walk_at "r"
    exact ⟨mulOkL (by omega) (by omega), q h .refl⟩
  | reach =>
    unfold Way.s
    have hb := stb (some' := some') rk l64
    walk_at "n"
    walk_at "n"
    walk_at "n"
    walk_at "n"
    walk_at "n"
    walk_at "n"
    walk_at "n"
    walk_at "n"
    walk_at "n"
    refine forW (fun j env h' => h' = h ∧ ∃ z, env = [some (.str "reach"), some (tI ring), some (tI some'), some (.int ring.length), some (.int (ring.length + ((some'.take j).map (reT ring some')).sum)), z]) ⟨rfl, none, by simp⟩ (fun _ _ _ _ => trivial) ?_ ?_
    · rintro j env h' hj ⟨rfl, z, rfl⟩
      have hj : j < some'.length := by rw [srcD_n, List.length_map] at hj; exact hj
      refine ⟨_, rfl, ?_⟩
      rw [srcD_item, getD_map hj, sum_succ hj]
      have hx := sk.2 _ (List.getElem_mem hj)
      refine aug_ ?_
      walk_at "m"
      refine ⟨ring, some', _, -1, rfl, rk, hx.1, hx.2, .inr rfl, ?_⟩
      refine ⟨ring, some', _, 1, rfl, rk, hx.1, hx.2, .inl rfl, ?_⟩
      refine ⟨_, _, rfl, hb _ _, hb _ _, ?_⟩
      walk_at "m"
      rw [Int.add_assoc]; rfl
    · rintro env h' ⟨rfl, z, rfl⟩
      rw [srcD_n, List.length_map, List.take_length]
      walk_at "n"
      exact q _ .refl
/-! ### rows of a spread -/
theorem spP_sum (n : Nat) (L : List Int) (nn : ∀ x ∈ L, 0 ≤ x) (G : Int × Int → Int) (g : Nat → Int) (hG : ∀ (k : Nat) (t : Int), G (((k + 2 * n : Nat) : Int), t) = t * g k) : ((spP n L).map G).sum = S L g := by
  have key : ∀ m, m ≤ L.length → (((List.range m).filterMap fun k => if 0 < L.getD k 0 then some (((k + 2 * n : Nat) : Int), L.getD k 0) else none).map G).sum = S (L.take m) g := by
    intro m
    induction m with
    | zero => intro _; rfl
    | succ m ih =>
      intro hm
      have hm' : m < L.length := by omega
      have e0 : L[m]? = some L[m] := List.getElem?_eq_getElem hm'
      have e1 : L.getD m 0 = L[m] := by rw [List.getD_eq_getElem?_getD, e0]; rfl
      have p := nn _ (List.getElem_mem hm')
      rw [List.range_succ, List.filterMap_append, List.map_append, List.sum_append, ih (by omega), S_take e0, List.filterMap_cons, List.filterMap_nil, e1]
      generalize L[m] = x at *
      by_cases c : 0 < x
      · rw [if_pos c]
        simp only [List.map_cons, List.map_nil, List.sum_cons, List.sum_nil, Int.add_zero]
        rw [hG]
      · rw [if_neg c]
        simp only [List.map_nil, List.sum_nil]
        rw [show x = 0 from by omega, Int.zero_mul]
  have := key L.length (Nat.le_refl _)
  rw [List.take_length] at this
  exact this
theorem spP_mem {n : Nat} {L : List Int} {x : Int × Int} (h : x ∈ spP n L) : ∃ k, k < L.length ∧ x = (((k + 2 * n : Nat) : Int), L.getD k 0) ∧ 0 < L.getD k 0 ∧ L.getD k 0 ∈ L := by
  unfold spP at h
  rw [List.mem_filterMap] at h
  obtain ⟨k, hk, e⟩ := h
  rw [List.mem_range] at hk
  by_cases c : 0 < L.getD k 0
  · rw [if_pos c] at e
    refine ⟨k, hk, (Option.some.inj e).symm, c, ?_⟩
    rw [List.getD_eq_getElem?_getD, List.getElem?_eq_getElem hk]
    exact List.getElem_mem hk
  · rw [if_neg c] at e; cases e
theorem spP_len (n : Nat) (L : List Int) : (spP n L).length ≤ L.length := by
  unfold spP
  have := List.length_filterMap_le (fun k => if 0 < L.getD k 0 then some (((k + 2 * n : Nat) : Int), L.getD k 0) else none) (List.range L.length)
  rw [List.length_range] at this
  exact this
theorem spP_asc (n : Nat) (L : List Int) : ((spP n L).map (·.1)).Pairwise (· < ·) := by
  unfold spP
  rw [List.pairwise_map, List.pairwise_filterMap]
  refine List.Pairwise.imp ?_ (List.pairwise_lt_range (n := L.length))
  intro a b ab x hx y hy
  by_cases c : 0 < L.getD a 0
  · rw [if_pos c] at hx
    by_cases d : 0 < L.getD b 0
    · rw [if_pos d] at hy
      rw [← Option.some.inj hx, ← Option.some.inj hy]
      show ((a + 2 * n : Nat) : Int) < ((b + 2 * n : Nat) : Int)
      omega
    · rw [if_neg d] at hy; cases hy
  · rw [if_neg c] at hx; cases hx
theorem spP_head {n k : Nat} {L : List Int} (hk : k < L.length) (p : 0 < L.getD k 0) (z : ∀ j, j < k → L.getD j 0 = 0) : ∃ r, spP n L = (((k + 2 * n : Nat) : Int), L.getD k 0) :: r := by
  unfold spP
  have e : List.range L.length = List.range k ++ (k :: (List.range (L.length - k - 1)).map fun x => k + 1 + x) := by
    have e1 : L.length = k + (1 + (L.length - k - 1)) := by omega
    conv => lhs; rw [e1, List.range_add, List.range_add]
    simp [List.range_succ, Nat.add_assoc]
  rw [e, List.filterMap_append, List.filterMap_cons, if_pos p]
  have e2 : ((List.range k).filterMap fun k => if 0 < L.getD k 0 then some (((k + 2 * n : Nat) : Int), L.getD k 0) else none) = [] := by
    rw [List.filterMap_eq_nil_iff]
    intro a ha
    rw [List.mem_range] at ha
    rw [if_neg (by rw [z a ha]; omega)]
  rw [e2]
  exact ⟨_, rfl⟩
theorem spP_end {n k : Nat} {L : List Int} (hk : L.length = k + 1) (p : 0 < L.getD k 0) : ∃ r, spP n L = r ++ [(((k + 2 * n : Nat) : Int), L.getD k 0)] := by
  unfold spP
  rw [hk, List.range_succ, List.filterMap_append, List.filterMap_cons, if_pos p, List.filterMap_nil]
  exact ⟨_, rfl⟩
theorem asc_uniq : ∀ {xs ys : List Int}, xs.Pairwise (· < ·) → ys.Pairwise (· < ·) → (∀ z, z ∈ xs ↔ z ∈ ys) → xs = ys
  | [], [], _, _, _ => rfl
  | [], y :: ys, _, _, h => absurd ((h y).mpr List.mem_cons_self) (by simp)
  | x :: xs, [], _, _, h => absurd ((h x).mp List.mem_cons_self) (by simp)
  | x :: xs, y :: ys, p, q, h => by
    rw [List.pairwise_cons] at p q
    have a := (h x).mp List.mem_cons_self
    have b := (h y).mpr List.mem_cons_self
    have e : x = y := by
      rcases List.mem_cons.mp a with e | a
      · exact e
      · rcases List.mem_cons.mp b with e | b
        · exact e.symm
        · have := p.1 _ b; have := q.1 _ a; omega
    subst e
    rw [asc_uniq p.2 q.2 fun z => ?_]
    constructor
    · intro hz
      rcases List.mem_cons.mp ((h z).mp (List.mem_cons_of_mem _ hz)) with e | c
      · have := p.1 z hz; omega
      · exact c
    · intro hz
      rcases List.mem_cons.mp ((h z).mpr (List.mem_cons_of_mem _ hz)) with e | c
      · have := q.1 z hz; omega
      · exact c
theorem neD_pl {a b : Addr} {xs ys : List D} {h : MH} {Q : MQ} (ea : h a = some (.lst xs)) (eb : h b = some (.lst ys)) (px : ∀ x ∈ xs, Pu 9 x) (py : ∀ x ∈ ys, Pu 9 x) (q : ∀ b, (b = true ↔ xs ≠ ys) → Q (.bl b) h) : rNeD (.ref a) (.ref b) h Q := by
  obtain ⟨p1, a1, a2, _⟩ := dps_pu (h := h) px
  obtain ⟨p2, b1, b2, _⟩ := dps_pu (h := h) py
  refine ⟨_, _, .lst ea a1, .lst eb b1, a2, b2, q _ ?_⟩
  rw [Bool.not_eq_true', ← Bool.not_eq_true, PyData.eqv]
  exact not_congr (pu_eqvs (pu_eqv 9) xs ys _ _ px py a1 b1)
theorem rg_sum : ∀ k : Nat, (rgI 0 (k : Int)).sum * 2 = (k : Int) * ((k : Int) - 1)
  | 0 => rfl
  | k + 1 => by
    have ih := rg_sum k
    unfold rgI at *
    rw [show (((k + 1 : Nat) : Int) - 0).toNat = k + 1 from by omega, List.range_succ, List.map_append, List.sum_append]
    rw [show ((k : Int) - 0).toNat = k from by omega] at ih
    simp only [List.map_cons, List.map_nil, List.sum_cons, List.sum_nil]
    rw [Int.add_mul, ih]
    have : ((k + 1 : Nat) : Int) = (k : Int) + 1 := by omega
    rw [this]
    grind
/-! ### a ring's letters and the table -/
theorem mrgK_nodup {α : Type} (f : α → Key) (g : α → D) : ∀ (xs : List α) (acc : List (Key × D)), (acc.map (·.1) ++ xs.map f).Nodup → mrgK (xs.map fun x => (f x, g x)) acc = acc ++ xs.map fun x => (f x, g x)
  | [], acc, _ => by simp [mrgK]
  | x :: xs, acc, h => by
    have h0 : (acc.any fun kv => decide (kv.1 = f x)) = false := by
      rw [List.any_eq_false]
      intro kv hk e
      have e : kv.1 = f x := by simpa using e
      rw [List.nodup_append] at h
      exact h.2.2 kv.1 (List.mem_map.mpr ⟨kv, hk, rfl⟩) (f x) (by simp) e
    have : dPutK acc (f x) (g x) = acc ++ [(f x, g x)] := by
      unfold dPutK
      rw [h0]; rfl
    show mrgK (xs.map fun x => (f x, g x)) (dPutK acc (f x) (g x)) = _
    rw [this, mrgK_nodup f g xs _ (by simpa using h)]
    simp
theorem pw_nodup {xs : List Int} (h : xs.Pairwise (· < ·)) : xs.Nodup := h.imp (by intro a b h e; omega)
theorem nodup_map {α β : Type} {f : α → β} (fi : ∀ x y, f x = f y → x = y) {xs : List α} (h : xs.Nodup) : (xs.map f).Nodup := List.Pairwise.map f (fun a b h e => h (fi a b e)) h
theorem mrg_b {b : List (Int × Int)} (h : (b.map (·.1)).Pairwise (· < ·)) : mrgK (b.map fun p => (Sum.inl p.1, D.int p.2)) [] = b.map fun p => (Sum.inl p.1, D.int p.2) := by
  have := mrgK_nodup (fun p : Int × Int => (Sum.inl p.1 : Key)) (fun p => D.int p.2) b [] (by
    rw [List.map_nil, List.nil_append]
    have := nodup_map (f := fun i : Int => (Sum.inl i : Key)) (fun x y e => Sum.inl.inj e) (pw_nodup h)
    rwa [List.map_map] at this)
  simpa using this
theorem dV_in {b : List (Int × Int)} (h : (b.map (·.1)).Nodup) {p : Int × Int} (hp : p ∈ b) : dV (b.map fun p => (Sum.inl p.1, D.int p.2)) (Sum.inl p.1) = some (.int p.2) := by
  induction b with
  | nil => simp at hp
  | cons x b ih =>
    rw [List.map_cons, dV_cons]
    rw [List.map_cons, List.nodup_cons] at h
    rcases List.mem_cons.mp hp with rfl | hp
    · rw [if_pos rfl]
    · have ne : ¬ (Sum.inl x.1 : Key) = Sum.inl p.1 := fun e => h.1 (by rw [Sum.inl.inj e]; exact List.mem_map_of_mem hp)
      rw [if_neg ne]
      exact ih h.2 hp
theorem fst_up (v : Int) : ∀ (l : List Int) (c : Nat → Bool) (f : Nat), 1 ≤ f → (∀ k, k < l.length → c (f + k) = decide (v < l.getD k 0)) → fst c f l.length = f - 1 + upN v l
  | [], c, f, hf, _ => by show f = f - 1 + 1; omega
  | y :: l, c, f, hf, h => by
    have h0 := h 0 (by simp)
    show (if c f = true then f else fst c (f + 1) l.length) = f - 1 + if v < y then 1 else upN v l + 1
    rw [Nat.add_zero] at h0
    have h0 : c f = decide (v < y) := h0
    rw [h0]
    by_cases k : v < y
    · rw [if_pos (by simpa using k), if_pos k]; omega
    · rw [if_neg (by simpa using k), if_neg k, fst_up v l c (f + 1) (by omega) fun k hk => by
        have := h (k + 1) (by simpa using hk)
        rw [show f + 1 + k = f + (k + 1) from by omega, this]; rfl]
      omega
theorem rgI_mem {n : Nat} {x : Int} : x ∈ rgI 0 (n : Int) ↔ 0 ≤ x ∧ x < n := by
  unfold rgI
  rw [List.mem_map]
  constructor
  · rintro ⟨i, hi, rfl⟩
    rw [List.mem_range] at hi
    omega
  · rintro ⟨a, b⟩
    exact ⟨x.toNat, List.mem_range.mpr (by omega), by omega⟩
theorem getD_at {l : List Int} {i : Nat} (h : i < l.length) : l.getD i 0 = l[i] := by rw [List.getD_eq_getElem?_getD, List.getElem?_eq_getElem h]; rfl
theorem stV_rs {ring : List Int} {i : Nat} (hi : i < ring.length) : stV ring (rgI 0 (ring.length : Int)) (i : Int) 1 = rs ring i := by
  have ll : (ring.drop (i + 1) ++ ring.take i).length = ring.length - 1 := by
    rw [List.length_append, List.length_drop, List.length_take]; omega
  unfold stV rs
  rw [← ll, fst_up (ring.getD i 0) _ _ 1 (Nat.le_refl _) fun k hk => ?_, Nat.sub_self, Nat.zero_add]
  have e : ((i : Int) + 1 * ((1 + k : Nat) : Int)) % (ring.length : Int) = (((i + 1 + k) % ring.length : Nat) : Int) := by
    rw [show (i : Int) + 1 * ((1 + k : Nat) : Int) = ((i + 1 + k : Nat) : Int) from by omega]; rfl
  have lt := Nat.mod_lt (i + 1 + k) (show 0 < ring.length by omega)
  unfold stC
  rw [e, Int.toNat_natCast, Int.toNat_natCast, decide_eq_true (rgI_mem.mpr ⟨by omega, by omega⟩), Bool.true_and]
  rw [ll] at hk
  have g : ring.getD ((i + 1 + k) % ring.length) 0 = (ring.drop (i + 1) ++ ring.take i).getD k 0 := by
    by_cases c : i + 1 + k < ring.length
    · rw [Nat.mod_eq_of_lt c, List.getD_eq_getElem?_getD, List.getD_eq_getElem?_getD, List.getElem?_append_left (by rw [List.length_drop]; omega), List.getElem?_drop]
    · have em : (i + 1 + k) % ring.length = i + 1 + k - ring.length := by
        rw [Nat.mod_eq_sub_mod (by omega), Nat.mod_eq_of_lt (by omega)]
      rw [em, List.getD_eq_getElem?_getD, List.getD_eq_getElem?_getD, List.getElem?_append_right (by rw [List.length_drop]; omega), List.length_drop, List.getElem?_take_of_lt (by omega), show k - (ring.length - (i + 1)) = i + 1 + k - ring.length from by omega]
  rw [g]
theorem T_list (f : Nat → Int) : ∀ n : Nat, ((List.range n).map f).sum = T n f
  | 0 => rfl
  | n + 1 => by
    rw [List.range_succ, List.map_append, List.sum_append, T_list f n]
    show _ = T n f + f n
    simp
theorem rlV_T (ring : List Int) : rlV ring (rgI 0 (ring.length : Int)) = T ring.length (fun i => (rs ring i : Int)) + ring.length := by
  have e : ((rgI 0 (ring.length : Int)).map fun x => (stV ring (rgI 0 (ring.length : Int)) x 1 : Int)).sum = T ring.length fun i => (rs ring i : Int) := by
    rw [← T_list]
    have : rgI 0 (ring.length : Int) = (List.range ring.length).map fun i : Nat => (i : Int) := by
      unfold rgI
      rw [Int.sub_zero, Int.toNat_natCast]
      refine List.map_congr_left fun i _ => ?_
      rw [Int.zero_add]
    conv => lhs; rw [this]
    rw [List.map_map]
    congr 1
    refine List.map_congr_left fun i hi => ?_
    rw [List.mem_range] at hi
    show (stV ring _ (i : Int) 1 : Int) = _
    rw [← this, stV_rs hi]
  unfold rlV
  rw [e]
/-- the letters stand in the table -/
theorem rl_stands {ring : List Int} {ls : List (List Int)} (r1 : 1 ≤ ring.length) (nd : ring.Nodup) (t : Tb ls) (ll : ls.length = ring.length) : ∃ v, (rlV ring (rgI 0 (ring.length : Int)), v) ∈ spP ring.length (ls.getD (ring.length - 1) []) ∧ 0 < v := by
  have h0 : ring ≠ [] := fun e => by rw [e] at r1; simp at r1
  obtain ⟨A, M, B, e, ha, hb⟩ := ring_top ring h0 nd
  have el : ring.length = A.length + (1 + B.length) := by rw [e, List.length_append, List.length_cons]; omega
  have st := t.stands (ring.length - 1) (B ++ A) (by rw [List.length_append]; omega) (by omega)
  refine ⟨_, ?_, st⟩
  have er : rlV ring (rgI 0 (ring.length : Int)) = ((lw (B ++ A) + 2 * ring.length : Nat) : Int) := by
    rw [rlV_T]
    have := ring_sum ha hb
    rw [← e] at this
    rw [this]
    omega
  rw [er]
  unfold spP
  rw [List.mem_filterMap]
  have hk : lw (B ++ A) < (ls.getD (ring.length - 1) []).length := by
    by_cases c : lw (B ++ A) < (ls.getD (ring.length - 1) []).length
    · exact c
    · rw [List.getD_eq_getElem?_getD, List.getElem?_eq_none (by omega)] at st
      exact absurd st (by decide)
  exact ⟨lw (B ++ A), List.mem_range.mpr hk, by rw [if_pos st]⟩
theorem rl_turned {ring : List Int} (nd : ring.Nodup) {at' : Nat} (h : at' < ring.length) : rlV (ring.drop at' ++ ring.take at') (rgI 0 (ring.length : Int)) = rlV ring (rgI 0 (ring.length : Int)) := by
  have hl : (ring.drop at' ++ ring.take at').length = ring.length := by
    rw [List.length_append, List.length_drop, List.length_take]; omega
  have e := rlV_T (ring.drop at' ++ ring.take at')
  rw [hl] at e
  rw [e, rlV_T, turn_sum (fun e => by rw [e] at h; simp at h) nd h]
/-! ### never more than the bound -/
open Sp
theorem bd_fst_le {c : Nat → Bool} : ∀ {k f g : Nat}, f ≤ g → g < f + k → c g = true → fst c f k ≤ g
  | 0, f, g, h1, h2, _ => by omega
  | k + 1, f, g, h1, h2, h => by
    show (if c f = true then f else fst c (f + 1) k) ≤ g
    by_cases e : c f = true
    · rw [if_pos e]; exact h1
    · rw [if_neg e]
      have : f ≠ g := fun z => e (z ▸ h)
      exact bd_fst_le (by omega) (by omega) h
theorem bd_fst_top {c : Nat → Bool} : ∀ {k f : Nat}, fst c f k ≤ f + k
  | 0, f => Nat.le_refl _
  | k + 1, f => by
    show (if c f = true then f else fst c (f + 1) k) ≤ _
    by_cases e : c f = true
    · rw [if_pos e]; omega
    · rw [if_neg e]; have := bd_fst_top (c := c) (k := k) (f := f + 1); omega
theorem bd_top {ring some' : List Int} {x s : Int} (r1 : 1 ≤ ring.length) : stV ring some' x s ≤ ring.length := by
  unfold stV
  have := bd_fst_top (c := stC ring some' x s) (k := ring.length - 1) (f := 1)
  omega
theorem bd_at {ring some' : List Int} {x s y : Int} {d : Nat} (d1 : 1 ≤ d) (dn : d < ring.length) (e : (x + s * (d : Int)) % ring.length = y) (hy : y ∈ some') (lt : ring.getD x.toNat 0 < ring.getD y.toNat 0) : stV ring some' x s ≤ d := by
  unfold stV
  refine bd_fst_le d1 (by omega) ?_
  unfold stC
  rw [e, decide_eq_true hy, decide_eq_true lt]; rfl
theorem ring_inj {ring : List Int} (nd : ring.Nodup) {x y : Int} (hx : 0 ≤ x ∧ x < ring.length) (hy : 0 ≤ y ∧ y < ring.length) (e : ring.getD x.toNat 0 = ring.getD y.toNat 0) : x = y := by
  have h1 : x.toNat < ring.length := by omega
  have h2 : y.toNat < ring.length := by omega
  rw [getD_at h1, getD_at h2] at e
  have := (List.getElem_inj nd (h₀ := h1) (h₁ := h2)).mp e
  omega
theorem sum_le_map {α : Type} (f g : α → Int) : ∀ (l : List α), (∀ x ∈ l, f x ≤ g x) → (l.map f).sum ≤ (l.map g).sum
  | [], _ => Int.le_refl _
  | x :: l, h => by
    have a := h x List.mem_cons_self
    have b := sum_le_map f g l fun y hy => h y (List.mem_cons_of_mem _ hy)
    rw [List.map_cons, List.map_cons, List.sum_cons, List.sum_cons]
    omega
theorem max_of (g : Int → Int) : ∀ (l : List Int), l ≠ [] → ∃ m ∈ l, ∀ x ∈ l, g x ≤ g m
  | [], h => absurd rfl h
  | [x], _ => ⟨x, List.mem_cons_self, fun y hy => by rw [List.mem_singleton.mp hy]; exact Int.le_refl _⟩
  | x :: y :: l, _ => by
    obtain ⟨m, hm, h⟩ := max_of g (y :: l) (by simp)
    by_cases c : g x ≤ g m
    · refine ⟨m, List.mem_cons_of_mem _ hm, fun z hz => ?_⟩
      rcases List.mem_cons.mp hz with rfl | hz
      · exact c
      · exact h z hz
    · refine ⟨x, List.mem_cons_self, fun z hz => ?_⟩
      rcases List.mem_cons.mp hz with rfl | hz
      · exact Int.le_refl _
      · have := h z hz; omega
theorem le_round {ring some' : List Int} (r1 : 1 ≤ ring.length) (nd : ring.Nodup) (sd : ∀ x ∈ some', 0 ≤ x ∧ x < ring.length) (sn : some'.Nodup) : rlV ring some' ≤ bdV .round ring.length := by
  have key : (some'.map fun x => (stV ring some' x 1 : Int)).sum * 2 ≤ (ring.length : Int) * ((ring.length : Int) + 1) := by
    by_cases s0 : some' = []
    · subst s0
      show (0 : Int) * 2 ≤ _
      rw [Int.zero_mul]
      exact Int.mul_nonneg (by omega) (by omega)
    obtain ⟨M, hM, top⟩ := max_of (fun x => ring.getD x.toNat 0) some' s0
    have hM' := sd M hM
    have n0 : (ring.length : Int) ≠ 0 := by omega
    have np : (0 : Int) < ring.length := by omega
    have le := sum_le_map (fun x => (stV ring some' x 1 : Int)) (fun x => (M - x - 1) % ring.length + 1) some' fun x hx => by
      have hx' := sd x hx
      have m0 := Int.emod_nonneg (M - x - 1) n0
      have m1 := Int.emod_lt_of_pos (M - x - 1) np
      show (stV ring some' x 1 : Int) ≤ _
      by_cases e : x = M
      · subst e
        have := bd_top (ring := ring) (some' := some') (x := x) (s := 1) r1
        have e2 : (x - x - 1) % (ring.length : Int) = ring.length - 1 := by
          rw [show x - x - 1 = (ring.length - 1 : Int) + (ring.length : Int) * (-1) from by omega, Int.add_mul_emod_self_left]
          exact Int.emod_eq_of_lt (by omega) (by omega)
        rw [e2]; omega
      · obtain ⟨d, hd⟩ : ∃ d : Nat, (M - x - 1) % ring.length + 1 = (d : Int) := ⟨((M - x - 1) % ring.length + 1).toNat, by omega⟩
        rw [hd]
        have e2 : (x + 1 * (d : Int)) % ring.length = M := by
          have : x + 1 * (d : Int) = (x + 1) + (M - x - 1) % ring.length := by omega
          rw [this, Int.add_emod_emod, show x + 1 + (M - x - 1) = M from by omega]
          exact Int.emod_eq_of_lt hM'.1 hM'.2
        have dn : d < ring.length := by
          by_cases z : d = ring.length
          · rw [z, Int.one_mul, Int.add_emod_right, Int.emod_eq_of_lt hx'.1 hx'.2] at e2
            exact absurd e2 e
          · omega
        have := bd_at (by omega) dn e2 hM (by
          have a := top x hx
          have b : ring.getD x.toNat 0 ≠ ring.getD M.toNat 0 := fun z => e (ring_inj nd hx' hM' z)
          omega)
        omega
    have nds : (some'.map fun x => (M - x - 1) % ring.length + 1).Nodup := by
      unfold List.Nodup
      rw [List.pairwise_map]
      refine List.Pairwise.imp_of_mem ?_ sn
      intro x y hx hy ne e
      have hx' := sd x hx
      have hy' := sd y hy
      have e1 : (M - x - 1) % (ring.length : Int) = (M - y - 1) % ring.length := by omega
      have e2 := Int.emod_eq_emod_iff_emod_sub_eq_zero.mp e1
      rw [show M - x - 1 - (M - y - 1) = y - x from by omega] at e2
      have dv := Int.dvd_of_emod_eq_zero e2
      obtain ⟨k, hk⟩ := dv
      have : k = 0 := by
        have k1 : k < 1 := by
          by_cases c : k < 1
          · exact c
          · have := Int.mul_le_mul_of_nonneg_left (show (1 : Int) ≤ k by omega) (show (0 : Int) ≤ ring.length by omega)
            omega
        have k2 : -1 < k := by
          by_cases c : -1 < k
          · exact c
          · have := Int.mul_le_mul_of_nonneg_left (show k ≤ (-1 : Int) by omega) (show (0 : Int) ≤ ring.length by omega)
            omega
        omega
      subst this
      omega
    have := Bd.nodup_sum ring.length _ nds fun z hz => by
      obtain ⟨x, _, rfl⟩ := List.mem_map.mp hz
      have m0 := Int.emod_nonneg (M - x - 1) n0
      have m1 := Int.emod_lt_of_pos (M - x - 1) np
      omega
    omega
  unfold rlV
  show _ ≤ (ring.length : Int) * ((ring.length : Int) + 1) / 2 + ring.length
  generalize (ring.length : Int) * ((ring.length : Int) + 1) = z at *
  omega
theorem le_halves {ring some' : List Int} (sl : some'.length ≤ ring.length) : toldV .halves ring some' ≤ bdV .halves ring.length := by
  have a := Bd.phs_log some'.length (row0 ring some')
  have e : (row0 ring some').length = some'.length := by unfold row0; rw [List.length_map]
  rw [e] at a
  have b : Nat.log2 some'.length ≤ Nat.log2 ring.length := by
    by_cases z : some'.length = 0
    · rw [z]; exact Nat.zero_le _
    · rw [Nat.le_log2 (by omega)]
      exact Nat.le_trans (Nat.log2_self_le z) sl
  show 2 * (ring.length : Int) * ((phs some'.length (row0 ring some')).length : Int) ≤ 2 * (ring.length : Int) * ((Nat.log2 ring.length : Int) + 1)
  exact Int.mul_le_mul_of_nonneg_left (by omega) (by omega)
def alB (l r : Int) (j : Nat) : Bool := decide ((2 : Int) ^ j < l) && decide ((2 : Int) ^ j < r)
theorem reS_le {r s : Int} : reS r s ≤ 2 * r ∨ r < 0 := by
  unfold reS
  by_cases c : r < s
  · rw [if_pos c]; omega
  · rw [if_neg c]; omega
theorem reV_le (l r : Int) : ∀ (f k : Nat), reV l r f k ≤ 4 * 2 ^ k + Sp.T f fun j => if alB l r (k + j) = true then 8 * 2 ^ (k + j) else 0
  | 0, k => by
    show (0 : Int) ≤ 4 * 2 ^ k + 0
    have := Int.pow_pos (n := 2) (m := k) (by decide)
    omega
  | f + 1, k => by
    have ih := reV_le l r f (k + 1)
    have p := Int.pow_pos (n := 2) (m := k) (by decide)
    have s1 := reS_le (r := 2 ^ k) (s := l)
    have s2 := reS_le (r := 2 ^ k) (s := r)
    have nn : 0 ≤ Sp.T f fun a => if alB l r (k + (a + 1)) = true then (8 : Int) * 2 ^ (k + (a + 1)) else 0 := by
      have z := Bd.T_le' f (fun _ => 0) (fun a => if alB l r (k + (a + 1)) = true then (8 : Int) * 2 ^ (k + (a + 1)) else 0) fun a _ => by
        have := Int.pow_pos (n := 2) (m := k + (a + 1)) (by decide)
        show (0 : Int) ≤ if alB l r (k + (a + 1)) = true then (8 : Int) * 2 ^ (k + (a + 1)) else 0
        split <;> omega
      rw [Sp.T_const] at z
      omega
    rw [Sp.T_shift]
    have e : (fun j => if alB l r (k + 1 + j) = true then (8 : Int) * 2 ^ (k + 1 + j) else 0) = fun a => if alB l r (k + (a + 1)) = true then (8 : Int) * 2 ^ (k + (a + 1)) else 0 := funext fun j => by rw [show k + 1 + j = k + (j + 1) from by omega]
    rw [e] at ih
    show reS (2 ^ k) l + reS (2 ^ k) r + (if alB l r k = true then reV l r f (k + 1) else 0) ≤ 4 * 2 ^ k + ((if alB l r k = true then 8 * 2 ^ k else 0) + _)
    have p2 : (2 : Int) ^ (k + 1) = 2 ^ k * 2 := Int.pow_succ ..
    rw [p2] at ih
    generalize (Sp.T f fun a => if alB l r (k + (a + 1)) = true then (8 : Int) * 2 ^ (k + (a + 1)) else 0) = t at *
    by_cases c : alB l r k = true
    · rw [if_pos c, if_pos c]; omega
    · rw [if_neg c, if_neg c]; omega
theorem sum_T {α : Type} (n : Nat) (f : α → Nat → Int) : ∀ (l : List α), (l.map fun x => Sp.T n (f x)).sum = Sp.T n fun j => (l.map fun x => f x j).sum
  | [] => by
    show 0 = Sp.T n fun _ => 0
    rw [Sp.T_const]; omega
  | x :: l => by
    rw [List.map_cons, List.sum_cons, sum_T n f l, ← Sp.T_add]
    rfl
theorem sum_cnt {α : Type} (c : α → Bool) (v : Int) : ∀ (l : List α), (l.map fun x => if c x = true then v else 0).sum = v * ((l.filter c).length : Int)
  | [] => by show (0 : Int) = v * 0; rw [Int.mul_zero]
  | x :: l => by
    rw [List.map_cons, List.sum_cons, sum_cnt c v l, List.filter_cons]
    cases e : c x with
    | true => rw [if_pos rfl, if_pos rfl, List.length_cons, show ((((l.filter c).length + 1 : Nat) : Int)) = ((l.filter c).length : Int) + 1 from by omega, Int.mul_add]; omega
    | false => rw [if_neg (by simp), if_neg (by simp)]; omega
theorem rpV_T (n : Nat) : ∀ k, rpV n k = 5 * n + Sp.T k (rtm n)
  | 0 => by show 5 * (n : Int) = 5 * n + 0; omega
  | k + 1 => by
    show rpV n k + rtm n k = 5 * n + (Sp.T k (rtm n) + rtm n k)
    rw [rpV_T n k]; omega
theorem le_reach {ring some' : List Int} (r1 : 1 ≤ ring.length) (nd : ring.Nodup) (sd : ∀ x ∈ some', 0 ≤ x ∧ x < ring.length) (sn : some'.Nodup) (sl : some'.length ≤ ring.length) : trV ring some' ≤ bdV .reach ring.length := by
  have le1 := sum_le_map (reT ring some') (fun x => 4 + Sp.T 7 fun j => if alB (stV ring some' x (-1)) (stV ring some' x 1) j = true then 8 * 2 ^ j else 0) some' fun x hx => by
    have := reV_le (stV ring some' x (-1)) (stV ring some' x 1) 7 0
    have e : (fun j => if alB (stV ring some' x (-1)) (stV ring some' x 1) (0 + j) = true then (8 : Int) * 2 ^ (0 + j) else 0) = fun j => if alB (stV ring some' x (-1)) (stV ring some' x 1) j = true then (8 : Int) * 2 ^ j else 0 := funext fun j => by rw [Nat.zero_add]
    rw [e] at this
    exact this
  have split : (some'.map fun x => 4 + Sp.T 7 fun j => if alB (stV ring some' x (-1)) (stV ring some' x 1) j = true then (8 : Int) * 2 ^ j else 0).sum = 4 * some'.length + Sp.T 7 fun j => (some'.map fun x => if alB (stV ring some' x (-1)) (stV ring some' x 1) j = true then (8 : Int) * 2 ^ j else 0).sum := by
    rw [← sum_T 7 fun x j => if alB (stV ring some' x (-1)) (stV ring some' x 1) j = true then (8 : Int) * 2 ^ j else 0]
    clear le1
    generalize hg : (fun x => Sp.T 7 fun j => if alB (stV ring some' x (-1)) (stV ring some' x 1) j = true then (8 : Int) * 2 ^ j else 0) = g
    have : (fun x => 4 + Sp.T 7 fun j => if alB (stV ring some' x (-1)) (stV ring some' x 1) j = true then (8 : Int) * 2 ^ j else 0) = fun x => 4 + g x := by rw [← hg]
    rw [this]
    clear this hg sl sn sd
    induction some' with
    | nil => rfl
    | cons x l ih => rw [List.map_cons, List.sum_cons, ih, List.map_cons, List.sum_cons, List.length_cons]; omega
  have le2 : (Sp.T 7 fun j => (some'.map fun x => if alB (stV ring some' x (-1)) (stV ring some' x 1) j = true then (8 : Int) * 2 ^ j else 0).sum) ≤ Sp.T 7 (rtm ring.length) := Bd.T_le' 7 _ _ fun j _ => by
    show (some'.map fun x => if alB (stV ring some' x (-1)) (stV ring some' x 1) j = true then (8 : Int) * 2 ^ j else 0).sum ≤ _
    rw [sum_cnt (fun x => alB (stV ring some' x (-1)) (stV ring some' x 1) j) (8 * 2 ^ j)]
    have pj := Int.pow_pos (n := 2) (m := j) (by decide)
    have pc : ((2 ^ j : Nat) : Int) = 2 ^ j := by rw [Int.natCast_pow]; rfl
    unfold rtm
    by_cases c : 2 ^ j < ring.length
    · rw [if_pos c]
      have ar := Bd.arcs (n := ring.length) (d := 2 ^ j) (by omega) c (some'.filter fun x => alB (stV ring some' x (-1)) (stV ring some' x 1) j) (sn.filter _) (fun x hx => sd x (List.mem_filter.mp hx).1) fun x hx y hy ne => by
        obtain ⟨hx1, hx2⟩ := List.mem_filter.mp hx
        obtain ⟨hy1, hy2⟩ := List.mem_filter.mp hy
        have bx := sd x hx1
        have by' := sd y hy1
        unfold alB at hx2 hy2
        rw [Bool.and_eq_true, decide_eq_true_eq, decide_eq_true_eq] at hx2 hy2
        by_cases fr : ((2 ^ j : Nat) : Int) < (y - x) % ring.length
        · exact fr
        · exfalso
          have m0 := Int.emod_nonneg (y - x) (show (ring.length : Int) ≠ 0 by omega)
          obtain ⟨d, hd⟩ : ∃ d : Nat, (y - x) % ring.length = (d : Int) := ⟨((y - x) % ring.length).toNat, by omega⟩
          have e1 : (x + 1 * (d : Int)) % ring.length = y := by
            rw [Int.one_mul, ← hd, Int.add_emod_emod, show x + (y - x) = y from by omega]
            exact Int.emod_eq_of_lt by'.1 by'.2
          have e2 : (y + -1 * (d : Int)) % ring.length = x := by
            rw [show y + -1 * (d : Int) = y - (y - x) % ring.length from by omega, Int.sub_emod_emod, show y - (y - x) = x from by omega]
            exact Int.emod_eq_of_lt bx.1 bx.2
          have d1 : 1 ≤ d := by
            by_cases z : d = 0
            · subst z
              rw [show x + 1 * ((0 : Nat) : Int) = x from by omega, Int.emod_eq_of_lt bx.1 bx.2] at e1
              exact absurd e1 ne
            · omega
          have ne2 : ring.getD x.toNat 0 ≠ ring.getD y.toNat 0 := fun z => ne (ring_inj nd bx by' z)
          by_cases lt : ring.getD x.toNat 0 < ring.getD y.toNat 0
          · have := bd_at d1 (by omega) e1 hy1 lt
            omega
          · have := bd_at d1 (by omega) e2 hx1 (by omega)
            omega
      refine Int.mul_le_mul_of_nonneg_left ?_ (by omega)
      have : ((some'.filter fun x => alB (stV ring some' x (-1)) (stV ring some' x 1) j).length : Int) * (2 ^ j + 1) ≤ ring.length := by
        have := Int.ofNat_le.mpr ar
        rw [Int.natCast_mul, Int.natCast_add, pc] at this
        exact this
      exact (Int.le_ediv_iff_mul_le (by omega)).mpr this
    · rw [if_neg c]
      have : (some'.filter fun x => alB (stV ring some' x (-1)) (stV ring some' x 1) j) = [] := by
        rw [List.filter_eq_nil_iff]
        intro x hx h
        unfold alB at h
        rw [Bool.and_eq_true, decide_eq_true_eq, decide_eq_true_eq] at h
        have := bd_top (ring := ring) (some' := some') (x := x) (s := 1) r1
        omega
      rw [this]
      show (8 : Int) * 2 ^ j * 0 ≤ 0
      rw [Int.mul_zero]; exact Int.le_refl _
  unfold trV
  show _ ≤ rpV ring.length 7
  rw [rpV_T]
  rw [split] at le1
  omega
theorem told_le {w : Way} {ring some' : List Int} (r1 : 1 ≤ ring.length) (nd : w ≠ .whole → ring.Nodup) (sd : ∀ x ∈ some', 0 ≤ x ∧ x < ring.length) (sn : some'.Nodup) : toldV w ring some' ≤ bdV w ring.length := by
  have sl : some'.length ≤ ring.length := Sp.nodup_bd ring.length some' 0 sn fun z hz => by have := sd z hz; omega
  cases w with
  | round => exact le_round r1 (nd (by simp)) sd sn
  | halves => exact le_halves sl
  | reach => exact le_reach r1 (nd (by simp)) sd sn sl
  | whole => exact Int.le_refl _
/-- names that fall to the right -/
theorem fall_rl {ring : List Int} (r1 : 1 ≤ ring.length) (f : ring.Pairwise (· > ·)) : rlV ring (rgI 0 (ring.length : Int)) = bdV .round ring.length := by
  cases ring with
  | nil => simp at r1
  | cons M B =>
    rw [List.pairwise_cons] at f
    have a := Sp.ring_sum (A := []) (M := M) (B := B) (by simp) fun x hx => f.1 x hx
    have b := Bd.lw_fall B f.2
    rw [List.nil_append, List.append_nil] at a
    rw [rlV_T, a]
    show _ = ((M :: B).length : Int) * (((M :: B).length : Int) + 1) / 2 + ((M :: B).length : Int)
    have l : ((M :: B).length : Int) = (B.length : Int) + 1 := by simp
    rw [l]
    have e : ((B.length : Int) + 1) * ((B.length : Int) + 1 + 1) = (B.length : Int) * ((B.length : Int) + 1) + 2 * ((B.length : Int) + 1) := by grind
    rw [e, ← b]
    omega
/-! ### k39: bounds -/
theorem len_halvings : ∀ ds h Q E, c_halvings ds h Q E → ds.length = 1 := by rintro ds h Q E ⟨a, rfl, _⟩; rfl
theorem len_reach_bound : ∀ ds h Q E, c_reach_bound ds h Q E → ds.length = 1 := by rintro ds h Q E ⟨a, rfl, _⟩; rfl
theorem len_bound : ∀ ds h Q E, c_bound ds h Q E → ds.length = 2 := by rintro ds h Q E ⟨a, b, rfl, _⟩; rfl
theorem len_law_bound : ∀ ds h Q E, c_law_bound ds h Q E → ds.length = 2 := by rintro ds h Q E ⟨a, b, rfl, _⟩; rfl
theorem len_law_is : ∀ ds h Q E, c_law_is ds h Q E → ds.length = 2 := by rintro ds h Q E ⟨a, b, rfl, _⟩; rfl
theorem len_law_from_behind : ∀ ds h Q E, c_law_from_behind ds h Q E → ds.length = 1 := by rintro ds h Q E ⟨a, rfl, _⟩; rfl
theorem len_law : ∀ ds h Q E, c_law ds h Q E → ds.length = 1 := by rintro ds h Q E ⟨a, rfl, _⟩; rfl
theorem p_law_is : ∀ ds h Q E, c_law_is ds h Q E → m_law_is { nx := fun _ h' => Q .non h', rt := Q } (mstart N_law_is ds) h := by
  rintro ds h Q E ⟨i, j, rfl, q⟩
  walk_at "n"
theorem p_halvings : ∀ ds h Q E, c_halvings ds h Q E → m_halvings { nx := fun _ h' => Q .non h', rt := Q } (mstart N_halvings ds) h := by
  rintro ds h Q E ⟨n, rfl, n1, n64, q⟩
  walk_at "n"
  refine seq_ (while_ (fun m env h' => h' = h ∧ ∃ k t : Nat, env = [some (.int k), some (.int t)] ∧ 1 ≤ k ∧ k ≤ 64 ∧ m = k ∧ t + Nat.log2 k = Nat.log2 n) n ⟨rfl, n, 0, rfl, n1, n64, rfl, by omega⟩ ?_)
  rintro m env h2 ⟨rfl, k, t, rfl, k1, k64, hm, e⟩
  obtain rfl := hm.symm
  replace q := PLift.up q
  walk_at "m"
  refine ite_ (fun c => ?_) (fun c => ?_)
  · have hl : Nat.log2 k = Nat.log2 (k / 2) + 1 := by rw [Nat.log2_def, if_pos (by omega)]
    have h2 : ((k : Int) / 2) = ((k / 2 : Nat) : Int) := rfl
    rw [hl] at e
    clear hl
    walk_at "n"
    refine ⟨divOk (by decide) (by decide), ?_⟩
    walk_at "n"
    exact ⟨k / 2, by omega, k / 2, rfl, t + 1, by omega, by omega, by omega, rfl, by omega⟩
  · have : k = 1 := by omega
    subst this
    walk_at "n"
    have z : Nat.log2 1 = 0 := by decide
    rw [show t = Nat.log2 n from by omega]
    exact q.down
theorem rp_end {n k : Nat} (h : n ≤ 2 ^ k) (hk : k ≤ 7) : rpV n k = rpV n 7 := by
  have key : ∀ j, rpV n (k + j) = rpV n k := fun j => by
    induction j with
    | zero => rfl
    | succ j ih =>
      show rpV n (k + j) + rtm n (k + j) = rpV n k
      have : 2 ^ k ≤ 2 ^ (k + j) := Nat.pow_le_pow_right (by decide) (by omega)
      unfold rtm
      rw [if_neg (by omega), ih]; omega
  have := key (7 - k)
  rw [show k + (7 - k) = 7 from by omega] at this
  exact this.symm
theorem p_reach_bound : ∀ ds h Q E, c_reach_bound ds h Q E → m_reach_bound { nx := fun _ h' => Q .non h', rt := Q } (mstart N_reach_bound ds) h := by
  rintro ds h Q E ⟨n, rfl, n1, n64, q⟩
  replace q := PLift.up q
  walk_at "n"
  refine ⟨mulOkL (by omega) (by omega), ?_⟩
  walk_at "n"
  refine seq_ (while_ (fun m env h' => h' = h ∧ ∃ k : Nat, env = [some (.int n), some (.int (rpV n k)), some (.int (2 ^ (k + 1)))] ∧ k ≤ 7 ∧ m + k = 7) 7 ⟨rfl, 0, rfl, by omega, by omega⟩ ?_)
  rintro m env h2 ⟨rfl, k, rfl, k7, hm⟩
  have pk : (2 : Int) ^ (k + 1) = 2 ^ k * 2 := Int.pow_succ (2 : Int) k
  have pp := Int.pow_pos (n := 2) (m := k) (by decide)
  have pc : ((2 ^ k : Nat) : Int) = 2 ^ k := by rw [Int.natCast_pow]; rfl
  have ph : (2 : Int) ^ (k + 1) / 2 = 2 ^ k := by omega
  have pb : (2 : Int) ^ k ≤ 128 := by
    have := Nat.pow_le_pow_right (n := 2) (by decide) k7
    have : 2 ^ k ≤ 128 := this
    omega
  replace ph := PLift.up ph
  replace pk := PLift.up pk
  walk_at "m"
  refine ⟨divOk (by decide) (by decide), ?_⟩
  rw [ph.down]
  refine ite_ (fun c => ?_) (fun c => ?_)
  · have lt : 2 ^ k < n := by omega
    have k6 : k < 7 := by
      by_cases z : k = 7
      · subst z; omega
      · omega
    have st : rpV n (k + 1) = rpV n k + 4 * 2 ^ (k + 1) * ((n : Int) / (2 ^ k + 1)) := by
      show rpV n k + rtm n k = _
      unfold rtm
      rw [if_pos lt, pk.down]
      congr 2; omega
    have pk2 : (2 : Int) ^ (k + 1 + 1) = 2 * 2 ^ (k + 1) := by rw [Int.pow_succ (n := k + 1)]; omega
    replace st := PLift.up st
    replace pk2 := PLift.up pk2
    replace pc := PLift.up pc
    have e2b : (2 : Int) ^ (k + 1) ≤ 256 := by rw [pk.down]; omega
    have e20 : 0 < (2 : Int) ^ (k + 1) := by rw [pk.down]; omega
    walk_at "n"
    rw [ph.down]
    refine ⟨mulOkL (by decide) (by decide), divOk (by decide) (by decide), divOk (by omega) (by omega), mulOkL (by omega) (by omega), ?_⟩
    rw [← st.down]
    walk_at "n"
    exact ⟨mulOkL (by decide) (by decide), m - 1, by omega, k + 1, rfl, by rw [pk2.down], by omega, by omega⟩
  · have := rp_end (n := n) (k := k) (by omega) k7
    rw [this]
    replace this := PLift.up this
    walk_at "n"
    exact q.down
theorem p_bound : ∀ ds h Q E, c_bound ds h Q E → m_bound { nx := fun _ h' => Q .non h', rt := Q } (mstart N_bound ds) h := by
  rintro ds h Q E ⟨w, n, rfl, n1, n64, q⟩
  have s1 : decide (("halves" : Str) = "round") = false := by decide +kernel
  have s2 : decide (("whole" : Str) = "round") = false := by decide +kernel
  have s3 : decide (("reach" : Str) = "round") = false := by decide +kernel
  have s4 : decide (("whole" : Str) = "halves") = false := by decide +kernel
  have s5 : decide (("reach" : Str) = "halves") = false := by decide +kernel
  have s6 : decide (("reach" : Str) = "whole") = false := by decide +kernel
  cases w with
  | round =>
    have q : Q (.int ((n : Int) * ((n : Int) + 1) / 2 + n)) h := q
    show m_bound _ (mstart N_bound [.str "round", .int n]) h
    walk_at "g"
    exact ⟨mulOkL (by omega) (by omega), divOk (by decide) (by decide)⟩
  | halves =>
    have q : Q (.int (2 * (n : Int) * ((Nat.log2 n : Int) + 1))) h := q
    show m_bound _ (mstart N_bound [.str "halves", .int n]) h
    walk_at "g"
    refine ⟨mulOkL (by decide) (by decide), n, rfl, n1, n64, ?_⟩
    walk_at "m"
    exact mulOkL (by omega) (by omega)
  | whole =>
    have q : Q (.int ((n : Int) * ((n : Int) - 1))) h := q
    show m_bound _ (mstart N_bound [.str "whole", .int n]) h
    walk_at "g"
    exact mulOkL (by omega) (by omega)
  | reach =>
    have q : Q (.int (rpV n 7)) h := q
    show m_bound _ (mstart N_bound [.str "reach", .int n]) h
    walk_at "g"
    exact ⟨n, rfl, n1, n64, q⟩
theorem p_law_from_behind : ∀ ds h Q E, c_law_from_behind ds h Q E → m_law_from_behind { nx := fun _ h' => Q .non h', rt := Q } (mstart N_law_from_behind ds) h := by
  rintro ds h Q E ⟨p, rfl, p6, q⟩
  walk_at "n"
  intro a na
  generalize eX : up _ a _ = h1
  obtain ⟨e1, f1⟩ := new_facts eX na
  clear eX
  walk_at "n"
  refine ⟨by omega, by omega, ?_⟩
  refine forW (fun i env h' => ∃ (b : Addr) (x2 x3 : Option D) (xs : List Int), env = [some (.int p), some (.ref b), x2, x3] ∧ i ≤ p ∧ Fr [] h h' ∧ h b = none ∧ h' b = some (.lst (xs.map .int)) ∧ xs.length = 2 ^ i) ⟨a, _, _, [0], rfl, by omega, f1, na, e1, rfl⟩ (fun _ _ _ _ => trivial) ?_ ?_
  · rintro i env h2 hi ⟨b, x2, x3, xs, rfl, ip, f2, nb, e2, lx⟩
    have hi : i < p := by rw [srcR_n] at hi; omega
    refine ⟨_, rfl, ?_⟩
    have lb : 2 ^ i ≤ 64 := by
      have := Nat.pow_le_pow_right (n := 2) (by decide) (show i ≤ 6 by omega)
      exact this
    walk_at "n"
    have e2' := e2
    refine lcL xs .int (fun x => some (.int (2 * x))) (fun h' f => f.at0 e2') (by omega) (fun x h3 hx f3 => ⟨_, rfl, fun R r => ?_⟩) (fun p3 h3 f3 np3 e3 => ?_)
    · have r2 := r h3 .refl
      walk_at "m"
      exact mulOkL (by decide) (by decide)
    have e23 := f3.at0 e2
    refine ⟨_, e23, ?_⟩
    refine lcL xs .int (fun x => some (.int (2 * x + 1))) (fun h' f => f.at0 e23) (by omega) (fun x h4 hx f4 => ⟨_, rfl, fun R r => ?_⟩) (fun p4 h4 f4 np4 e4 => ?_)
    · have r2 := r h4 .refl
      walk_at "m"
      exact mulOkL (by decide) (by decide)
    have e34 := f4.at0 e3
    rw [fm_some] at e34 e4
    refine ⟨_, _, e34, e4, by rw [sizeLine_eq, List.length_map, List.length_map]; omega, fun p5 np5 => ?_⟩
    have f24 := (f2.trans (f3.trans f4))
    refine ⟨p5, rfl, by omega, f24.trans (.new np5), f24.free np5, xs.map (fun x => 2 * x) ++ xs.map (fun x => 2 * x + 1), ?_, ?_⟩
    · rw [up_same, List.map_append, List.map_map, List.map_map]; rfl
    · rw [List.length_append, List.length_map, List.length_map, lx, Nat.pow_succ]; omega
  · rintro env h2 ⟨b, x2, x3, xs, rfl, ip, f2, nb, e2, lx⟩
    rw [srcR_n, show ((p : Int)).toNat = p from Int.toNat_natCast p] at lx
    have q2 := q h2 xs f2 lx
    walk_at "n"
theorem log_cnt : ∀ n, n ≤ 64 → 1 ≤ n → ((List.range 8).filterMap fun k => if 2 ^ k ≤ n then some k else none).length = Nat.log2 n + 1 := by decide +kernel
theorem cpow8 : ∀ k : Nat, k < 8 → CPow 1 (k : Int) ∧ CPow 8 (k : Int) := by
  intro k hk
  rcases k with _ | _ | _ | _ | _ | _ | _ | _ | k
  · exact ⟨⟨by decide, by decide, by decide⟩, ⟨by decide, by decide, by decide⟩⟩
  · exact ⟨⟨by decide, by decide, by decide⟩, ⟨by decide, by decide, by decide⟩⟩
  · exact ⟨⟨by decide, by decide, by decide⟩, ⟨by decide, by decide, by decide⟩⟩
  · exact ⟨⟨by decide, by decide, by decide⟩, ⟨by decide, by decide, by decide⟩⟩
  · exact ⟨⟨by decide, by decide, by decide⟩, ⟨by decide, by decide, by decide⟩⟩
  · exact ⟨⟨by decide, by decide, by decide⟩, ⟨by decide, by decide, by decide⟩⟩
  · exact ⟨⟨by decide, by decide, by decide⟩, ⟨by decide, by decide, by decide⟩⟩
  · exact ⟨⟨by decide, by decide, by decide⟩, ⟨by decide, by decide, by decide⟩⟩
  · omega
theorem p_law_bound : ∀ ds h Q E, c_law_bound ds h Q E → m_law_bound { nx := fun _ h' => Q .non h', rt := Q } (mstart N_law_bound ds) h := by
  rintro ds h Q E ⟨w, n, rfl, n1, n64, q⟩
  have s1 : decide (("halves" : Str) = "round") = false := by decide +kernel
  have s2 : decide (("whole" : Str) = "round") = false := by decide +kernel
  have s3 : decide (("reach" : Str) = "round") = false := by decide +kernel
  have s4 : decide (("halves" : Str) = "whole") = false := by decide +kernel
  have s5 : decide (("reach" : Str) = "halves") = false := by decide +kernel
  have s6 : decide (("reach" : Str) = "whole") = false := by decide +kernel
  cases w with
  | round =>
    have rs := rg_sum (n + 1)
    have e : (rgI 0 ((n : Int) + 1)).sum + n = bdV .round n := by
      rw [show ((n + 1 : Nat) : Int) = (n : Int) + 1 from by omega] at rs
      show _ = (n : Int) * ((n : Int) + 1) / 2 + n
      have e2 : ((n : Int) + 1) * ((n : Int) + 1 - 1) = (n : Int) * ((n : Int) + 1) := by grind
      rw [e2] at rs
      rw [← rs]; omega
    have q2 : Q (.int ((rgI 0 ((n : Int) + 1)).sum + n)) h := by rw [e]; exact q h .refl
    clear e rs
    show m_law_bound _ (mstart N_law_bound [.str "round", .int n]) h
    walk_at "g"
    exact ⟨by omega, by omega⟩
  | whole =>
    have q2 : Q (.int ((n : Int) * (n : Int) - n)) h := by
      have : (n : Int) * (n : Int) - n = bdV .whole n := by
        show _ = (n : Int) * ((n : Int) - 1)
        grind
      rw [this]; exact q h .refl
    show m_law_bound _ (mstart N_law_bound [.str "whole", .int n]) h
    walk_at "g"
    exact mulOkL (by omega) (by omega)
  | halves =>
    have qq : ∀ h', Fr [] h h' → Q (.int (2 * (n : Int) * ((Nat.log2 n : Int) + 1))) h' := q
    show m_law_bound _ (mstart N_law_bound [.str "halves", .int n]) h
    walk_at "g"
    refine ⟨mulOkL (by decide) (by decide), by decide, by decide, ?_⟩
    refine lcP (fun k => if 2 ^ k ≤ n then some (.int (k : Nat)) else none) (fun _ _ => trivial) (by rw [srcR_n]; decide) (fun k h1 hk f1 => ⟨_, rfl, fun R r => ?_⟩) (fun p h1 f1 np e1 => ?_)
    · have hk : k < 8 := hk
      have r2 := r h1 .refl
      rw [srcR_item]
      have pc : ((2 ^ k : Nat) : Int) = 2 ^ k := by rw [Int.natCast_pow]; rfl
      have cp := cpow8 k hk
      walk_at "m"
      rw [Int.one_mul, Int.toNat_natCast]
      by_cases c : 2 ^ k ≤ n
      · rw [if_pos c] at r2
        rw [if_pos (by rw [decide_eq_true_eq]; omega)]
        exact r2
      · rw [if_neg c] at r2
        rw [if_neg (by rw [decide_eq_true_eq]; omega)]
        exact r2
    · rw [srcR_n] at e1
      have lc := log_cnt n n64 n1
      have el : ((List.range 8).filterMap fun k => if 2 ^ k ≤ n then some (D.int (k : Nat)) else none).length = Nat.log2 n + 1 := by
        rw [← lc]
        generalize List.range 8 = l
        induction l with
        | nil => rfl
        | cons k l ih =>
          rw [List.filterMap_cons, List.filterMap_cons]
          by_cases c : 2 ^ k ≤ n
          · rw [if_pos c, if_pos c]
            show (_ :: _).length = (_ :: _).length
            rw [List.length_cons, List.length_cons, ih]
          · rw [if_neg c, if_neg c]; exact ih
      refine ⟨_, e1, ?_⟩
      rw [el]
      have q2 := qq h1 f1
      walk_at "m"
      exact ⟨mulOkL (by omega) (by omega), by rw [show ((Nat.log2 n + 1 : Nat) : Int) = (Nat.log2 n : Int) + 1 from by omega]; exact q2⟩
  | reach =>
    have qq : ∀ h', Fr [] h h' → Q (.int (rpV n 7)) h' := q
    show m_law_bound _ (mstart N_law_bound [.str "reach", .int n]) h
    walk_at "g"
    refine ⟨mulOkL (by omega) (by omega), ?_⟩
    walk_at "n"
    refine ⟨by decide, by decide, ?_⟩
    refine forW (fun j env h' => ∃ x3, env = [some (.str "reach"), some (.int (n : Nat)), some (.int (rpV n j)), x3] ∧ h' = h) ⟨_, rfl, rfl⟩ (fun _ _ _ _ => trivial) ?_ ?_
    · rintro j env h2 hj ⟨x3, rfl, rfl⟩
      have hj : j < 7 := hj
      refine ⟨_, rfl, ?_⟩
      rw [srcR_item]
      have pc : ((2 ^ j : Nat) : Int) = 2 ^ j := by rw [Int.natCast_pow]; rfl
      have pp := Int.pow_pos (n := 2) (m := j) (by decide)
      have pb : (2 : Int) ^ j ≤ 64 := by
        have := Nat.pow_le_pow_right (n := 2) (by decide) (show j ≤ 6 by omega)
        have : 2 ^ j ≤ 64 := this
        omega
      have cp := cpow8 j (by omega)
      have st : rpV n (j + 1) = rpV n j + rtm n j := rfl
      rw [st]
      replace st := PLift.up st
      walk_at "n"
      rw [Int.one_mul, Int.toNat_natCast]
      refine ite_ (fun c => ?_) (fun c => ?_)
      · have et : rtm n j = 8 * 2 ^ j * ((n : Int) / (2 ^ j + 1)) := by unfold rtm; rw [if_pos (by omega)]
        rw [et]
        replace et := PLift.up et
        walk_at "n"
        rw [Int.toNat_natCast, Int.one_mul]
        exact ⟨divOk (by omega) (by omega), mulOkL (by omega) (by omega), rfl⟩
      · have et : rtm n j = 0 := by unfold rtm; rw [if_neg (by omega)]
        rw [et, Int.add_zero]
        exact next_ ⟨_, rfl, rfl⟩
    · rintro env h2 ⟨x3, rfl, rfl⟩
      have q2 := qq h2 .refl
      walk_at "n"
theorem all_sds {n : Nat} (h : n ≤ 64) : Sds n (rgI 0 (n : Int)) := ⟨by unfold rgI; rw [List.length_map, List.length_range]; omega, fun x hx => rgI_mem.mp hx⟩
theorem all_nd (n : Nat) : (rgI 0 (n : Int)).Nodup := by
  refine pw_nodup ?_
  unfold rgI
  exact List.Pairwise.map _ (fun a b h => by omega) List.pairwise_lt_range
theorem p_law : ∀ ds h Q E, c_law ds h Q E → m_law { nx := fun _ h' => Q .non h', rt := Q } (mstart N_law ds) h := by
  rintro ds h Q E ⟨ns, rfl, hl, q⟩
  walk_at "n"
  have nn : ∃ n : Nat, ((if (if (ns.length : Int) < 10 then (ns.length : Int) else 10) > 2 then (if (ns.length : Int) < 10 then (ns.length : Int) else 10) else 2)) = (n : Int) ∧ n ≤ 10 := by
    refine ⟨max 2 (min 10 ns.length), ?_, by omega⟩
    split <;> split <;> omega
  obtain ⟨n, en, hn⟩ := nn
  rw [en]
  refine ⟨by omega, by omega, ?_⟩
  refine forW (fun k env h' => ∃ x1 x2 x3 x4 x5 x6 x7 x8 x9 x10 x11, env = [some (.rl (ns.map .int)), x1, x2, x3, x4, x5, x6, x7, x8, x9, x10, x11]) ⟨_, _, _, _, _, _, _, _, _, _, _, rfl⟩ (fun _ _ _ _ => trivial) ?_ ?_
  rotate_left
  · rintro env h' ⟨x1, x2, x3, x4, x5, x6, x7, x8, x9, x10, x11, rfl⟩
    walk_at "n"
  rintro k env h0 hk ⟨x1, x2, x3, x4, x5, x6, x7, x8, x9, x10, x11, rfl⟩
  rw [srcR_n, Int.toNat_natCast] at hk
  refine ⟨_, rfl, ?_⟩
  walk_at "n"
  refine ⟨ns, k, rfl, by omega, fun a h1 f1 na hd => ?_⟩
  walk_at "n"
  refine ⟨a, 3000, rfl, hd.less (by omega), fun m h2 m1 m2 hd2 f2 => ?_⟩
  walk_at "n"
  refine ⟨a, m, 2000, rfl, m1, by omega, hd2.less (by omega), fun h3 ring lr br nr hd3 f3 => ?_⟩
  walk_at "n"
  refine ⟨a, m, 1000, rfl, m1, by omega, hd3.less (by omega), fun h4 some' sk sn s1 s2 hd4 f4 => ?_⟩
  have ww : ∀ j, j < 4 → ∃ w : Way, [D.str "round", .str "halves", .str "reach", .str "whole"].getD j .non = .str w.s ∧ (j = 3 ↔ w = .whole) := fun j hj => by
    match j, hj with
    | 0, _ => exact ⟨.round, rfl, by simp⟩
    | 1, _ => exact ⟨.halves, rfl, by simp⟩
    | 2, _ => exact ⟨.reach, rfl, by simp⟩
    | 3, _ => exact ⟨.whole, rfl, by simp⟩
  replace ww := PLift.up ww
  have lw : [D.str "round", .str "halves", .str "reach", .str "whole"].length = 4 := rfl
  clear hd hd2 hd3 f1 f2 f3 f4 en
  walk_at "n"
  refine forW (fun j env h' => ∃ y6 y10 y11, env = [some (.rl (ns.map .int)), some (.int k), some (.ref a), some (.int (m : Nat)), some (tI ring), some (tI some'), y6, x7, x8, x9, y10, y11] ∧ Hand h' a (1000 - j * 200)) ⟨_, _, _, rfl, hd4⟩ (fun _ _ _ _ => trivial) ?_ ?_
  · rintro j env h5 hj ⟨y6, y10, y11, rfl, hd5⟩
    have hj : j < 4 := hj
    obtain ⟨w, ew, iw⟩ := ww.down j hj
    refine ⟨_, by rw [srcD_item, ew]; rfl, ?_⟩
    clear ew
    walk_at "n"
    refine ⟨w, m, rfl, m1, m2, fun h6 f6 => ?_⟩
    have hd6 := hd5.fr f6
    by_cases cw : w = .whole
    · have hj3 := iw.mpr cw
      subst cw hj3
      have e1 : decide (Way.whole.s = ("whole" : Str)) = true := by decide +kernel
      clear iw hd5 hd4
      walk_at "m"
      walk_at "n"
      refine ⟨a, m, 200, rfl, m1, by omega, hd6.less (by omega), fun h7 wr lwr hd7 f7 => ?_⟩
      walk_at "m"
      walk_at "n"
      refine ⟨.whole, m, rfl, m1, m2, ?_⟩
      walk_at "m"
      refine ⟨_, _, rfl, ?_⟩
      walk_at "m"
      refine next_ ?_
      walk_at "n"
      refine ⟨.whole, wr, some', rfl, ⟨by omega, by omega⟩, by omega, by rw [lwr]; exact sk, fun h8 f8 => ?_⟩
      have le := told_le (w := .whole) (ring := wr) (some' := some') (by omega) (fun z => absurd rfl z) (by rw [lwr]; exact sk.2) sn
      rw [lwr] at le
      have hd8 := hd7.fr f8
      generalize toldV .whole wr some' = t1 at *
      generalize bdV .whole m = t2 at *
      walk_at "m"
      rw [if_neg (by simpa using le)]
      exact next_ ⟨_, _, _, rfl, hd8.less (by omega)⟩
    · have hj3 : j ≠ 3 := fun z => cw (iw.mp z)
      have e1 : decide (w.s = ("whole" : Str)) = false := by
        cases w with
        | round => decide +kernel
        | halves => decide +kernel
        | reach => decide +kernel
        | whole => exact absurd rfl cw
      clear iw hd5 hd4
      walk_at "m"
      walk_at "n"
      walk_at "n"
      refine ⟨w, m, rfl, m1, m2, ?_⟩
      walk_at "m"
      refine ⟨_, _, rfl, ?_⟩
      walk_at "m"
      refine next_ ?_
      walk_at "n"
      refine ⟨w, ring, some', rfl, ⟨by omega, by omega⟩, by omega, by rw [lr]; exact sk, fun h8 f8 => ?_⟩
      have le := told_le (w := w) (ring := ring) (some' := some') (by omega) (fun _ => nr) (by rw [lr]; exact sk.2) sn
      rw [lr] at le
      have hd8 := hd6.fr f8
      generalize toldV w ring some' = t1 at *
      generalize bdV w m = t2 at *
      walk_at "m"
      rw [if_neg (by simpa using le)]
      exact next_ ⟨_, _, _, rfl, hd8.less (by omega)⟩
  · rintro env h5 ⟨y6, y10, y11, rfl, hd5⟩
    have hd5 : Hand h5 a 200 := hd5
    walk_at "n"
    refine ⟨ring, rfl, fun fs p pm ge np => ?_⟩
    have hdp := hd5.put (o := MO.lst (fs.map D.int)) (hd5.ne np)
    have lf : fs.length = m := by rw [pm.length_eq, lr]
    have nf : fs.Nodup := pm.nodup_iff.mpr nr
    have fall : fs.Pairwise (· > ·) := (List.pairwise_and_iff.mpr ⟨ge, nf⟩).imp fun ⟨a, b⟩ => by omega
    have fr := fall_rl (by omega) fall
    rw [lf] at fr
    have fr2 : toldV .round fs (rgI 0 (m : Int)) = bdV .round m := fr
    have asd := all_sds m2
    clear fr fall nf ge pm hd4 hd5
    generalize up h5 p (.lst (fs.map D.int)) = h6 at *
    walk_at "n"
    refine ⟨⟨by omega, by omega, by omega, by omega, by omega⟩, ?_⟩
    replace asd := PLift.up asd
    replace fr2 := PLift.up fr2
    generalize rgI 0 (m : Int) = all at *
    refine ⟨.round, fs, all, rfl, ⟨by omega, by omega⟩, by omega, by rw [lf]; exact asd.down, fun h7 f7 => ?_⟩
    rw [fr2.down]
    walk_at "m"
    refine ⟨.round, m, rfl, m1, m2, ?_⟩
    have hd7 := hdp.fr f7
    walk_at "m"
    refine next_ ?_
    walk_at "n"
    refine ⟨a, 64, 100, rfl, hd7.less (by omega), by decide, by decide, fun u h8 u0 u1 hd8 f8 => ?_⟩
    obtain ⟨o, rfl⟩ : ∃ o : Nat, u = (o : Int) := ⟨u.toNat, by omega⟩
    walk_at "m"
    rw [show (1 : Int) + (o : Int) = ((o + 1 : Nat) : Int) from by omega]
    have o1 : 1 ≤ o + 1 := by omega
    have o64 : o + 1 ≤ 64 := by omega
    generalize o + 1 = v at *
    clear u0 u1
    walk_at "n"
    refine forW (fun j env h' => ∃ y6, env = [some (.rl (ns.map .int)), some (.int k), some (.ref a), some (.int (m : Nat)), some (tI ring), some (tI some'), y6, some (tI fs), some (.int (v : Nat)), x9, y10, y11] ∧ Hand h' a 100) ⟨_, rfl, hd8⟩ (fun _ _ _ _ => trivial) ?_ ?_
    · rintro j env h9 hj ⟨y6, rfl, hd9⟩
      have hj : j < 4 := hj
      obtain ⟨w, ew, iw⟩ := ww.down j hj
      refine ⟨_, by rw [srcD_item, ew]; rfl, ?_⟩
      clear ew iw
      walk_at "n"
      refine ⟨w, v, rfl, o1, o64, ?_⟩
      walk_at "m"
      refine ⟨w, v, rfl, o1, o64, fun h10 f10 => ?_⟩
      have hd10 := hd9.fr f10
      walk_at "m"
      refine ⟨_, _, rfl, ?_⟩
      walk_at "m"
      exact next_ ⟨_, rfl, hd10⟩
    · rintro env h9 ⟨y6, rfl, hd9⟩
      walk_at "n"
      refine ⟨a, 7, 50, rfl, hd9.less (by omega), by decide, by decide, fun pw h10 p0 p1 hd10 f10 => ?_⟩
      obtain ⟨pn, rfl⟩ : ∃ pn : Nat, pw = (pn : Int) := ⟨pw.toNat, by omega⟩
      refine ⟨pn, rfl, by omega, fun h11 dr f11 ldr => ?_⟩
      have l1 : 1 ≤ dr.length := by rw [ldr]; exact Nat.one_le_two_pow
      have l64 : dr.length ≤ 64 := by
        rw [ldr]
        exact Nat.pow_le_pow_right (n := 2) (by decide) (show pn ≤ 6 by omega)
      clear ldr
      have asd2 := all_sds l64
      have le := le_halves (ring := dr) (some' := rgI 0 (dr.length : Int)) (by unfold rgI; rw [List.length_map, List.length_range]; omega)
      walk_at "n"
      refine ⟨⟨by omega, by omega, by omega, by omega, by omega⟩, ?_⟩
      replace asd2 := PLift.up asd2
      replace le := PLift.up le
      generalize rgI 0 (dr.length : Int) = all2 at *
      refine ⟨.halves, dr, all2, rfl, ⟨by omega, by omega⟩, by omega, asd2.down, fun h12 f12 => ?_⟩
      refine ⟨.halves, dr.length, rfl, l1, l64, ?_⟩
      have le := le.down
      generalize toldV .halves dr all2 = t1 at *
      generalize bdV .halves dr.length = t2 at *
      walk_at "m"
      rw [if_neg (by simpa using le)]
      exact next_ ⟨_, _, _, _, _, _, _, _, _, _, _, rfl⟩
theorem law_start (ns : List Int) (hl : ns.length ≤ 63) (hb : ∀ z ∈ ns, Builtin.Int.intBits z ≤ 1048576) : c_law [.rl (ns.map .int)] (fun _ => none) (fun d _ => d = .bl true) noE := ⟨ns, rfl, hl, fun _ => rfl⟩
def top (i : Nat) : Stmt := PySem.Challenge.pw_ringchief_k39_bounds.main.body.getD i (.Pass ⟨0, 0, 0, 0⟩)
abbrev s_stop_of : Stmt := top 1
theorem sc_stop_of : FnScope ["ring", "some", "house", "side", "many", "far", "other"] ["ring", "some", "house", "side"] (defScope s_stop_of) := ⟨rfl, rfl, rfl, by decide +kernel, rfl, by decide +kernel, by decide +kernel⟩
abbrev s_round_letters : Stmt := top 5
theorem sc_round_letters : FnScope ["ring", "some", "house"] ["ring", "some"] (defScope s_round_letters) := ⟨rfl, rfl, rfl, by decide +kernel, rfl, by decide +kernel, by decide +kernel⟩
abbrev s_next_row : Stmt := top 6
theorem sc_next_row : FnScope ["row", "found", "place", "house", "held", "near"] ["row"] (defScope s_next_row) := ⟨rfl, rfl, rfl, by decide +kernel, rfl, by decide +kernel, by decide +kernel⟩
abbrev s_phases : Stmt := top 7
theorem sc_phases : FnScope ["ring", "some", "row", "rows", "house"] ["ring", "some"] (defScope s_phases) := ⟨rfl, rfl, rfl, by decide +kernel, rfl, by decide +kernel, by decide +kernel⟩
abbrev s_side_letters : Stmt := top 8
theorem sc_side_letters : FnScope ["reach", "stop"] ["reach", "stop"] (defScope s_side_letters) := ⟨rfl, rfl, rfl, by decide +kernel, rfl, by decide +kernel, by decide +kernel⟩
abbrev s_reach_letters : Stmt := top 9
theorem sc_reach_letters : FnScope ["left", "right", "total", "reach", "is_on"] ["left", "right"] (defScope s_reach_letters) := ⟨rfl, rfl, rfl, by decide +kernel, rfl, by decide +kernel, by decide +kernel⟩
abbrev s_told_letters : Stmt := top 10
theorem sc_told_letters : FnScope ["way", "ring", "some", "many", "total", "house"] ["way", "ring", "some"] (defScope s_told_letters) := ⟨rfl, rfl, rfl, by decide +kernel, rfl, by decide +kernel, by decide +kernel⟩
abbrev s_halvings : Stmt := top 11
theorem sc_halvings : FnScope ["many", "times"] ["many"] (defScope s_halvings) := ⟨rfl, rfl, rfl, by decide +kernel, rfl, by decide +kernel, by decide +kernel⟩
abbrev s_reach_bound : Stmt := top 12
theorem sc_reach_bound : FnScope ["many", "total", "reach"] ["many"] (defScope s_reach_bound) := ⟨rfl, rfl, rfl, by decide +kernel, rfl, by decide +kernel, by decide +kernel⟩
abbrev s_bound : Stmt := top 13
theorem sc_bound : FnScope ["way", "many"] ["way", "many"] (defScope s_bound) := ⟨rfl, rfl, rfl, by decide +kernel, rfl, by decide +kernel, by decide +kernel⟩
abbrev s_law_hand : Stmt := top 15
theorem sc_law_hand : FnScope ["_law_script", "_law_k", "_law_cell"] ["_law_script", "_law_k"] (defScope s_law_hand) := ⟨rfl, rfl, rfl, by decide +kernel, rfl, by decide +kernel, by decide +kernel⟩
abbrev s_law_take : Stmt := top 16
theorem sc_law_take : FnScope ["_law_from", "_law_many", "_law_turn", "_law_mixed", "_law_digit"] ["_law_from", "_law_many"] (defScope s_law_take) := ⟨rfl, rfl, rfl, by decide +kernel, rfl, by decide +kernel, by decide +kernel⟩
abbrev s_law_order : Stmt := top 17
theorem sc_law_order : FnScope ["_law_from", "_law_many", "_law_way", "_law_turn", "_law_left", "_law_k"] ["_law_from", "_law_many"] (defScope s_law_order) := ⟨rfl, rfl, rfl, by decide +kernel, rfl, by decide +kernel, by decide +kernel⟩
abbrev s_law_ring : Stmt := top 18
theorem sc_law_ring : FnScope ["_law_from", "_law_many", "_law_order_here", "_law_k"] ["_law_from", "_law_many"] (defScope s_law_ring) := ⟨rfl, rfl, rfl, by decide +kernel, rfl, by decide +kernel, by decide +kernel⟩
abbrev s_law_some : Stmt := top 19
theorem sc_law_some : FnScope ["_law_from", "_law_many", "_law_way", "_law_one", "_law_k"] ["_law_from", "_law_many"] (defScope s_law_some) := ⟨rfl, rfl, rfl, by decide +kernel, rfl, by decide +kernel, by decide +kernel⟩
abbrev s_law_size : Stmt := top 20
theorem sc_law_size : FnScope ["_law_from"] ["_law_from"] (defScope s_law_size) := ⟨rfl, rfl, rfl, by decide +kernel, rfl, by decide +kernel, by decide +kernel⟩
abbrev s_law_word : Stmt := top 21
theorem sc_law_word : FnScope ["_law_from", "_law_many", "_law_most", "_law_k"] ["_law_from", "_law_many"] (defScope s_law_word) := ⟨rfl, rfl, rfl, by decide +kernel, rfl, by decide +kernel, by decide +kernel⟩
abbrev s_law_bound : Stmt := top 22
theorem sc_law_bound : FnScope ["_law_way", "_law_many", "_law_total", "_law_k"] ["_law_way", "_law_many"] (defScope s_law_bound) := ⟨rfl, rfl, rfl, by decide +kernel, rfl, by decide +kernel, by decide +kernel⟩
abbrev s_law_is : Stmt := top 23
theorem sc_law_is : FnScope ["_law_found", "_law_due"] ["_law_found", "_law_due"] (defScope s_law_is) := ⟨rfl, rfl, rfl, by decide +kernel, rfl, by decide +kernel, by decide +kernel⟩
abbrev s_law_from_behind : Stmt := top 24
theorem sc_law_from_behind : FnScope ["_law_power", "_law_names", "_law_k", "_law_name"] ["_law_power"] (defScope s_law_from_behind) := ⟨rfl, rfl, rfl, by decide +kernel, rfl, by decide +kernel, by decide +kernel⟩
abbrev s_law : Stmt := top 25
theorem sc_law : FnScope ["_law_script", "_law_k", "_law_from", "_law_many", "_law_here", "_law_begun", "_law_way", "_law_falling", "_law_other", "_law_dear", "_law_due", "_law_word_here"] ["_law_script"] (defScope s_law) := ⟨rfl, rfl, rfl, by decide +kernel, rfl, by decide +kernel, by decide +kernel⟩
structure Txt (K : PySem.W.Frag) (mg : Str → Option Value) where
  f_stop_of : Fd K mg "stop_of" "stop_of" s_stop_of ["ring", "some", "house", "side"]
  f_round_letters : Fd K mg "round_letters" "round_letters" s_round_letters ["ring", "some"]
  f_next_row : Fd K mg "next_row" "next_row" s_next_row ["row"]
  f_phases : Fd K mg "phases" "phases" s_phases ["ring", "some"]
  f_side_letters : Fd K mg "side_letters" "side_letters" s_side_letters ["reach", "stop"]
  f_reach_letters : Fd K mg "reach_letters" "reach_letters" s_reach_letters ["left", "right"]
  f_told_letters : Fd K mg "told_letters" "told_letters" s_told_letters ["way", "ring", "some"]
  f_halvings : Fd K mg "halvings" "halvings" s_halvings ["many"]
  f_reach_bound : Fd K mg "reach_bound" "reach_bound" s_reach_bound ["many"]
  f_bound : Fd K mg "bound" "bound" s_bound ["way", "many"]
  f_law_hand : Fd K mg "_law_hand" "_law_hand" s_law_hand ["_law_script", "_law_k"]
  f_law_take : Fd K mg "_law_take" "_law_take" s_law_take ["_law_from", "_law_many"]
  f_law_order : Fd K mg "_law_order" "_law_order" s_law_order ["_law_from", "_law_many"]
  f_law_ring : Fd K mg "_law_ring" "_law_ring" s_law_ring ["_law_from", "_law_many"]
  f_law_some : Fd K mg "_law_some" "_law_some" s_law_some ["_law_from", "_law_many"]
  f_law_size : Fd K mg "_law_size" "_law_size" s_law_size ["_law_from"]
  f_law_word : Fd K mg "_law_word" "_law_word" s_law_word ["_law_from", "_law_many"]
  f_law_bound : Fd K mg "_law_bound" "_law_bound" s_law_bound ["_law_way", "_law_many"]
  f_law_is : Fd K mg "_law_is" "_law_is" s_law_is ["_law_found", "_law_due"]
  f_law_from_behind : Fd K mg "_law_from_behind" "_law_from_behind" s_law_from_behind ["_law_power"]
  f_law : Fd K mg "law" "law" s_law ["_law_script"]
  b_bool : mg "bool" = none
  b_enumerate : mg "enumerate" = none
  b_int : mg "int" = none
  b_isinstance : mg "isinstance" = none
  b_len : mg "len" = none
  b_max : mg "max" = none
  b_min : mg "min" = none
  b_range : mg "range" = none
  b_sorted : mg "sorted" = none
  b_sum : mg "sum" = none
  b_tuple : mg "tuple" = none
  g_LEFT : Gc K mg "LEFT" k_LEFT
  g_RIGHT : Gc K mg "RIGHT" k_RIGHT
section
variable {P : Program} {w : World} {K : PySem.W.Frag} {mg : Str → Option Value} {base : Heap}
theorem ok_stop_of (T : Txt K mg) : FnOk P w K mg base CX0 1 T.f_stop_of.a T.f_stop_of.fd ["ring", "some", "house", "side"] (liftSp K c_stop_of) :=
  fnM (k := 0) (N := ["ring", "some", "house", "side", "many", "far", "other"]) (m := m_stop_of) T.f_stop_of.F sc_stop_of len_stop_of (fun cdv A outer s H E hr =>
 (iss_cons (is_set 4 sc_stop_of.nd (ie_callB cm_len (by rfl) T.b_len PySem.boot_len (ia_cons (ie_var 0) ia_nil)))
 (iss_cons (is_for PassesOwn.never rfl (ii_range2 T.b_range ie_int (ie_var 4)) (ig_name 5 sc_stop_of.nd)
 (iss_cons (is_set 6 sc_stop_of.nd (ie_op om_mod (ie_op om_add (ie_var 2) (ie_op om_mul (ie_var 3) (ie_var 5))) (ie_var 4)))
 (iss_one (is_if (IW.it (iw_and (it_cmp om_in (ie_var 6) (ie_var 1) (by rfl)) (iw_and1 (it_cmp om_gtI (ie_ix ix_m (ie_var 0) (ie_var 6) (fun _ _ => rfl)) (ie_ix ix_m (ie_var 0) (ie_var 2) (fun _ _ => rfl)) (nomark _)))))
 (iss_one (is_ret (ie_var 5)))
 iss_nil))))
 (iss_one (is_ret (ie_var 4))))))
  p_stop_of
theorem ok_round_letters (T : Txt K mg) : FnOk P w K mg base CX0 2 T.f_round_letters.a T.f_round_letters.fd ["ring", "some"] (liftSp K c_round_letters) :=
  fnM (k := 1) (N := ["ring", "some", "house"]) (m := m_round_letters) T.f_round_letters.F sc_round_letters len_round_letters (fun cdv A outer s H E hr =>
 (iss_one (is_ret (ie_op om_add (ie_callB (cm_sum rfl) (by rfl) T.b_sum PyProof.Rows.boot_sum (ia_cons (ie_lc (own := [("house", 2)]) rfl sc_round_letters.nd rfl (ii_iter (ie_var 1)) (blkOk_by (show blkC ["ring", "some", "house"] (defScope s_round_letters) _ _ = true from by decide +kernel)) (fun _ _ _ _ _ => (ig_name 2 sc_round_letters.nd)) (fun _ _ _ _ _ => its_nil) (fun _ _ _ _ _ => (ie_call (ok_stop_of T) (hr.mono (by omega)) T.f_stop_of.m T.f_stop_of.F.kp T.f_stop_of.b (ia_cons (ie_var 0) (ia_cons (ie_var 1) (ia_cons (ie_var 2) (ia_cons (T.g_RIGHT.ie) ia_nil))))))) ia_nil)) (ie_callB cm_len (by rfl) T.b_len PySem.boot_len (ia_cons (ie_var 0) ia_nil))))))
  p_round_letters
theorem ok_next_row (T : Txt K mg) : FnOk P w K mg base CX0 1 T.f_next_row.a T.f_next_row.fd ["row"] (liftSp K c_next_row) :=
  fnM (k := 0) (N := ["row", "found", "place", "house", "held", "near"]) (m := m_next_row) T.f_next_row.F sc_next_row len_next_row (fun cdv A outer s H E hr =>
 (iss_cons (is_set 1 sc_next_row.nd (ie_lst ia_nil))
 (iss_cons (is_for PassesOwn.never rfl (ii_enum T.b_enumerate (ie_var 0)) (ig_tup rfl (ig_cons (ig_name 2 sc_next_row.nd) (ig_cons (ig_tup rfl (ig_cons (ig_name 3 sc_next_row.nd) (ig_cons (ig_name 4 sc_next_row.nd) ig_nil))) ig_nil)))
 (iss_cons (is_set 5 sc_next_row.nd (ie_ix ix_m (ie_ix ix_m (ie_var 0) (ie_op om_sub (ie_var 2) ie_int) (fun _ _ => rfl)) ie_int (fun _ _ => rfl)))
 (iss_one (is_if (IW.it (iw_and (it_cmp om_gtI (ie_var 5) (ie_var 4) (nomark _)) (iw_and1 (it_cmp om_gtI (ie_var 5) (ie_ix ix_m (ie_ix ix_m (ie_var 0) (ie_op om_sub (ie_var 2) ie_int) (fun _ _ => rfl)) ie_int (fun _ _ => rfl)) (nomark _)))))
 (iss_one (is_expr (ie_bm PySem.F.plainAttrs_list PySem.F.slot_list_append PySem.F.type_list_append mi_append (ie_var 1) (ia_cons (ie_tup (ia_cons (ie_var 3) (ia_cons (ie_var 5) ia_nil))) ia_nil))))
 iss_nil))))
 (iss_one (is_ret (ie_callTy cm_tuple (by rfl) T.b_tuple PyProof.Rows.boot_tuple (ia_cons (ie_var 1) ia_nil)))))))
  p_next_row
theorem ok_phases (T : Txt K mg) : FnOk P w K mg base CX0 2 T.f_phases.a T.f_phases.fd ["ring", "some"] (liftSp K c_phases) :=
  fnM (k := 1) (N := ["ring", "some", "row", "rows", "house"]) (m := m_phases) T.f_phases.F sc_phases len_phases (fun cdv A outer s H E hr =>
 (iss_cons (is_set 2 sc_phases.nd (ie_callTy cm_tuple (by rfl) T.b_tuple PyProof.Rows.boot_tuple (ia_cons (ie_lc (own := [("house", 4)]) rfl sc_phases.nd rfl (ii_iter (ie_var 1)) (blkOk_by (show blkC ["ring", "some", "row", "rows", "house"] (defScope s_phases) _ _ = true from by decide +kernel)) (fun _ _ _ _ _ => (ig_name 4 sc_phases.nd)) (fun _ _ _ _ _ => its_nil) (fun _ _ _ _ _ => (ie_tup (ia_cons (ie_var 4) (ia_cons (ie_ix ix_m (ie_var 0) (ie_var 4) (fun _ _ => rfl)) ia_nil))))) ia_nil)))
 (iss_cons (is_set 3 sc_phases.nd (ie_lst (ia_cons (ie_var 2) ia_nil)))
 (iss_cons (is_while PassesOwn.never (it_cmp om_gtI (ie_callB cm_len (by rfl) T.b_len PySem.boot_len (ia_cons (ie_var 2) ia_nil)) ie_int (nomark _))
 (iss_cons (is_set 2 sc_phases.nd (ie_call (ok_next_row T) (hr.mono (by omega)) T.f_next_row.m T.f_next_row.F.kp T.f_next_row.b (ia_cons (ie_var 2) ia_nil)))
 (iss_one (is_expr (ie_bm PySem.F.plainAttrs_list PySem.F.slot_list_append PySem.F.type_list_append mi_append (ie_var 3) (ia_cons (ie_var 2) ia_nil))))))
 (iss_one (is_ret (ie_callTy cm_tuple (by rfl) T.b_tuple PyProof.Rows.boot_tuple (ia_cons (ie_var 3) ia_nil))))))))
  p_phases
theorem ok_side_letters (T : Txt K mg) : FnOk P w K mg base CX0 1 T.f_side_letters.a T.f_side_letters.fd ["reach", "stop"] (liftSp K c_side_letters) :=
  fnM (k := 0) (N := ["reach", "stop"]) (m := m_side_letters) T.f_side_letters.F sc_side_letters len_side_letters (fun cdv A outer s H E hr =>
 (iss_cons (is_if (it_cmp om_gtI (ie_var 1) (ie_var 0) (nomark _))
 (iss_one (is_ret (ie_op om_mul ie_int (ie_var 0))))
 iss_nil)
 (iss_one (is_ret (ie_var 1)))))
  p_side_letters
theorem ok_reach_letters (T : Txt K mg) : FnOk P w K mg base CX0 2 T.f_reach_letters.a T.f_reach_letters.fd ["left", "right"] (liftSp K c_reach_letters) :=
  fnM (k := 1) (N := ["left", "right", "total", "reach", "is_on"]) (m := m_reach_letters) T.f_reach_letters.F sc_reach_letters len_reach_letters (fun cdv A outer s H E hr =>
 (iss_cons (is_set 2 sc_reach_letters.nd ie_int)
 (iss_cons (is_set 3 sc_reach_letters.nd ie_int)
 (iss_cons (is_set 4 sc_reach_letters.nd ie_bl)
 (iss_cons (is_while PassesOwn.never (it_val (ie_var 4))
 (iss_cons (is_aug 2 sc_reach_letters.nd im_add (ie_op om_add (ie_call (ok_side_letters T) (hr.mono (by omega)) T.f_side_letters.m T.f_side_letters.F.kp T.f_side_letters.b (ia_cons (ie_var 3) (ia_cons (ie_var 0) ia_nil))) (ie_call (ok_side_letters T) (hr.mono (by omega)) T.f_side_letters.m T.f_side_letters.F.kp T.f_side_letters.b (ia_cons (ie_var 3) (ia_cons (ie_var 1) ia_nil)))))
 (iss_cons (is_set 4 sc_reach_letters.nd (ie_and (ie_cmp om_gtI (ie_var 0) (ie_var 3) (nomark _)) (ie_one (ie_cmp om_gtI (ie_var 1) (ie_var 3) (nomark _)))))
 (iss_one (is_set 3 sc_reach_letters.nd (ie_op om_mul ie_int (ie_var 3)))))))
 (iss_one (is_ret (ie_var 2))))))))
  p_reach_letters
theorem ok_told_letters (T : Txt K mg) : FnOk P w K mg base CX0 3 T.f_told_letters.a T.f_told_letters.fd ["way", "ring", "some"] (liftSp K c_told_letters) :=
  fnM (k := 2) (N := ["way", "ring", "some", "many", "total", "house"]) (m := m_told_letters) T.f_told_letters.F sc_told_letters len_told_letters (fun cdv A outer s H E hr =>
 (iss_cons (is_set 3 sc_told_letters.nd (ie_callB cm_len (by rfl) T.b_len PySem.boot_len (ia_cons (ie_var 1) ia_nil)))
 (iss_cons (is_if (it_cmp (om_eq hr.units) (ie_var 0) ie_str (nomark _))
 (iss_one (is_ret (ie_call (ok_round_letters T) (hr.mono (by omega)) T.f_round_letters.m T.f_round_letters.F.kp T.f_round_letters.b (ia_cons (ie_var 1) (ia_cons (ie_var 2) ia_nil)))))
 iss_nil)
 (iss_cons (is_if (it_cmp (om_eq hr.units) (ie_var 0) ie_str (nomark _))
 (iss_one (is_ret (ie_op om_mul (ie_op om_mul ie_int (ie_var 3)) (ie_callB cm_len (by rfl) T.b_len PySem.boot_len (ia_cons (ie_call (ok_phases T) (hr.mono (by omega)) T.f_phases.m T.f_phases.F.kp T.f_phases.b (ia_cons (ie_var 1) (ia_cons (ie_var 2) ia_nil))) ia_nil)))))
 iss_nil)
 (iss_cons (is_if (it_cmp (om_eq hr.units) (ie_var 0) ie_str (nomark _))
 (iss_one (is_ret (ie_op om_mul (ie_var 3) (ie_op om_sub (ie_var 3) ie_int))))
 iss_nil)
 (iss_cons (is_set 4 sc_told_letters.nd (ie_var 3))
 (iss_cons (is_for PassesOwn.never rfl (ii_iter (ie_var 2)) (ig_name 5 sc_told_letters.nd)
 (iss_one (is_aug 4 sc_told_letters.nd im_add (ie_call (ok_reach_letters T) (hr.mono (by omega)) T.f_reach_letters.m T.f_reach_letters.F.kp T.f_reach_letters.b (ia_cons (ie_call (ok_stop_of T) (hr.mono (by omega)) T.f_stop_of.m T.f_stop_of.F.kp T.f_stop_of.b (ia_cons (ie_var 1) (ia_cons (ie_var 2) (ia_cons (ie_var 5) (ia_cons (T.g_LEFT.ie) ia_nil))))) (ia_cons (ie_call (ok_stop_of T) (hr.mono (by omega)) T.f_stop_of.m T.f_stop_of.F.kp T.f_stop_of.b (ia_cons (ie_var 1) (ia_cons (ie_var 2) (ia_cons (ie_var 5) (ia_cons (T.g_RIGHT.ie) ia_nil))))) ia_nil))))))
 (iss_one (is_ret (ie_var 4))))))))))
  p_told_letters
theorem ok_halvings (T : Txt K mg) : FnOk P w K mg base CX0 1 T.f_halvings.a T.f_halvings.fd ["many"] (liftSp K c_halvings) :=
  fnM (k := 0) (N := ["many", "times"]) (m := m_halvings) T.f_halvings.F sc_halvings len_halvings (fun cdv A outer s H E hr =>
 (iss_cons (is_set 1 sc_halvings.nd ie_int)
 (iss_cons (is_while PassesOwn.never (it_cmp om_gtI (ie_var 0) ie_int (nomark _))
 (iss_cons (is_set 0 sc_halvings.nd (ie_op om_fdiv (ie_var 0) ie_int))
 (iss_one (is_aug 1 sc_halvings.nd im_add ie_int))))
 (iss_one (is_ret (ie_var 1))))))
  p_halvings
theorem ok_reach_bound (T : Txt K mg) : FnOk P w K mg base CX0 1 T.f_reach_bound.a T.f_reach_bound.fd ["many"] (liftSp K c_reach_bound) :=
  fnM (k := 0) (N := ["many", "total", "reach"]) (m := m_reach_bound) T.f_reach_bound.F sc_reach_bound len_reach_bound (fun cdv A outer s H E hr =>
 (iss_cons (is_set 1 sc_reach_bound.nd (ie_op om_mul ie_int (ie_var 0)))
 (iss_cons (is_set 2 sc_reach_bound.nd ie_int)
 (iss_cons (is_while PassesOwn.never (it_cmp om_ltI (ie_op om_fdiv (ie_var 2) ie_int) (ie_var 0) (nomark _))
 (iss_cons (is_aug 1 sc_reach_bound.nd im_add (ie_op om_mul (ie_op om_mul ie_int (ie_var 2)) (ie_op om_fdiv (ie_var 0) (ie_op om_add (ie_op om_fdiv (ie_var 2) ie_int) ie_int))))
 (iss_one (is_set 2 sc_reach_bound.nd (ie_op om_mul ie_int (ie_var 2))))))
 (iss_one (is_ret (ie_var 1)))))))
  p_reach_bound
theorem ok_bound (T : Txt K mg) : FnOk P w K mg base CX0 2 T.f_bound.a T.f_bound.fd ["way", "many"] (liftSp K c_bound) :=
  fnM (k := 1) (N := ["way", "many"]) (m := m_bound) T.f_bound.F sc_bound len_bound (fun cdv A outer s H E hr =>
 (iss_cons (is_if (it_cmp (om_eq hr.units) (ie_var 0) ie_str (nomark _))
 (iss_one (is_ret (ie_op om_add (ie_op om_fdiv (ie_op om_mul (ie_var 1) (ie_op om_add (ie_var 1) ie_int)) ie_int) (ie_var 1))))
 iss_nil)
 (iss_cons (is_if (it_cmp (om_eq hr.units) (ie_var 0) ie_str (nomark _))
 (iss_one (is_ret (ie_op om_mul (ie_op om_mul ie_int (ie_var 1)) (ie_op om_add (ie_call (ok_halvings T) (hr.mono (by omega)) T.f_halvings.m T.f_halvings.F.kp T.f_halvings.b (ia_cons (ie_var 1) ia_nil)) ie_int))))
 iss_nil)
 (iss_cons (is_if (it_cmp (om_eq hr.units) (ie_var 0) ie_str (nomark _))
 (iss_one (is_ret (ie_op om_mul (ie_var 1) (ie_op om_sub (ie_var 1) ie_int))))
 iss_nil)
 (iss_one (is_ret (ie_call (ok_reach_bound T) (hr.mono (by omega)) T.f_reach_bound.m T.f_reach_bound.F.kp T.f_reach_bound.b (ia_cons (ie_var 1) ia_nil))))))))
  p_bound
theorem ok_law_hand (T : Txt K mg) : FnOk P w K mg base CX0 1 T.f_law_hand.a T.f_law_hand.fd ["_law_script", "_law_k"] (liftSp K c_law_hand) :=
  fnM (k := 0) (N := ["_law_script", "_law_k", "_law_cell"]) (m := m_law_hand) T.f_law_hand.F sc_law_hand len_law_hand (fun cdv A outer s H E hr =>
 (iss_cons (is_set 2 sc_law_hand.nd ie_int)
 (iss_cons (is_if (it_cmp om_ltI (ie_var 1) (ie_callB cm_len (by rfl) T.b_len PySem.boot_len (ia_cons (ie_var 0) ia_nil)) (nomark _))
 (iss_one (is_set 2 sc_law_hand.nd (ie_ix ix_m (ie_var 0) (ie_var 1) (fun _ _ => rfl))))
 iss_nil)
 (iss_one (is_ret (ie_lst (ia_cons (ie_op om_mul (ie_var 2) (ie_callTy cm_int (by rfl) T.b_int PyProof.Rows.boot_int (ia_cons (ie_cmp om_geI (ie_var 2) (ie_op om_pow ie_int ie_int) (nomark _)) ia_nil))) (ia_cons (ie_op om_add (ie_op om_add (ie_op om_mod (ie_var 2) ie_int) (ie_op om_mul ie_int (ie_var 1))) ie_int) (ia_cons ie_int ia_nil)))))))))
  p_law_hand
theorem ok_law_take (T : Txt K mg) : FnOk P w K mg base CX0 1 T.f_law_take.a T.f_law_take.fd ["_law_from", "_law_many"] (liftSp K c_law_take) :=
  fnM (k := 0) (N := ["_law_from", "_law_many", "_law_turn", "_law_mixed", "_law_digit"]) (m := m_law_take) T.f_law_take.F sc_law_take len_law_take (fun cdv A outer s H E hr =>
 (iss_cons (is_if (it_cmp om_gtI (ie_ix ix_m (ie_var 0) ie_int (fun _ _ => rfl)) ie_int (nomark _))
 (iss_cons (is_set 4 sc_law_take.nd (ie_op om_mod (ie_ix ix_m (ie_var 0) ie_int (fun _ _ => rfl)) (ie_var 1)))
 (iss_cons (is_put se_list (ie_op om_fdiv (ie_ix ix_m (ie_var 0) ie_int (fun _ _ => rfl)) (ie_var 1)) (ie_var 0) ie_int)
 (iss_one (is_ret (ie_var 4)))))
 iss_nil)
 (iss_cons (is_put se_list (ie_op om_add (ie_ix ix_m (ie_var 0) ie_int (fun _ _ => rfl)) ie_int) (ie_var 0) ie_int)
 (iss_cons (is_set 2 sc_law_take.nd (ie_ix ix_m (ie_var 0) ie_int (fun _ _ => rfl)))
 (iss_cons (is_set 3 sc_law_take.nd (ie_op om_mod (ie_op om_add (ie_op om_mul (ie_ix ix_m (ie_var 0) ie_int (fun _ _ => rfl)) (ie_op om_add ie_int (ie_op om_mul (ie_op om_mul ie_int (ie_var 2)) (ie_var 2)))) (ie_op om_mul ie_int (ie_var 2))) ie_int))
 (iss_cons (is_set 3 sc_law_take.nd (ie_op om_mod (ie_op om_mul (ie_var 3) (ie_op om_add (ie_op om_add (ie_op om_mod (ie_var 3) ie_int) (ie_op om_mul ie_int (ie_var 2))) ie_int)) ie_int))
 (iss_one (is_ret (ie_op om_mod (ie_op om_add (ie_op om_fdiv (ie_var 3) ie_int) (ie_op om_fdiv (ie_var 3) ie_int)) (ie_var 1))))))))))
  p_law_take
theorem ok_law_order (T : Txt K mg) : FnOk P w K mg base CX0 2 T.f_law_order.a T.f_law_order.fd ["_law_from", "_law_many"] (liftSp K c_law_order) :=
  fnM (k := 1) (N := ["_law_from", "_law_many", "_law_way", "_law_turn", "_law_left", "_law_k"]) (m := m_law_order) T.f_law_order.F sc_law_order len_law_order (fun cdv A outer s H E hr =>
 (iss_cons (is_set 2 sc_law_order.nd (ie_call (ok_law_take T) (hr.mono (by omega)) T.f_law_take.m T.f_law_take.F.kp T.f_law_take.b (ia_cons (ie_var 0) (ia_cons ie_int ia_nil))))
 (iss_cons (is_set 3 sc_law_order.nd (ie_call (ok_law_take T) (hr.mono (by omega)) T.f_law_take.m T.f_law_take.F.kp T.f_law_take.b (ia_cons (ie_var 0) (ia_cons (ie_var 1) ia_nil))))
 (iss_cons (is_set 4 sc_law_order.nd (ie_lc (own := [("_law_k", 5)]) rfl sc_law_order.nd rfl (ii_range1 T.b_range (ie_var 1)) (blkOk_by (show blkC ["_law_from", "_law_many", "_law_way", "_law_turn", "_law_left", "_law_k"] (defScope s_law_order) _ _ = true from by decide +kernel)) (fun _ _ _ _ _ => (ig_name 5 sc_law_order.nd)) (fun _ _ _ _ _ => its_nil) (fun _ _ _ _ _ => (ie_op om_mod (ie_op om_add (ie_var 3) (ie_var 5)) (ie_var 1)))))
 (iss_cons (is_if (it_cmp (om_eq hr.units) (ie_var 2) ie_int (nomark _))
 (iss_one (is_ret (ie_var 4)))
 iss_nil)
 (iss_cons (is_if (it_cmp (om_eq hr.units) (ie_var 2) ie_int (nomark _))
 (iss_one (is_ret (ie_step (ie_var 4) (ie_un um_neg ie_int))))
 iss_nil)
 (iss_one (is_ret (ie_lc (own := [("_law_k", 5)]) rfl sc_law_order.nd rfl (ii_range1 T.b_range (ie_var 1)) (blkOk_by (show blkC ["_law_from", "_law_many", "_law_way", "_law_turn", "_law_left", "_law_k"] (defScope s_law_order) _ _ = true from by decide +kernel)) (fun _ _ _ _ _ => (ig_name 5 sc_law_order.nd)) (fun _ _ _ _ _ => its_nil) (fun _ _ _ _ _ => (ie_bm PySem.F.plainAttrs_list PySem.F.slot_list_pop PySem.F.type_list_pop mi_popAt (ie_var 4) (ia_cons (ie_call (ok_law_take T) (hr.mono (by omega)) T.f_law_take.m T.f_law_take.F.kp T.f_law_take.b (ia_cons (ie_var 0) (ia_cons (ie_callB cm_len (by rfl) T.b_len PySem.boot_len (ia_cons (ie_var 4) ia_nil)) ia_nil))) ia_nil))))))))))))
  p_law_order
theorem ok_law_ring (T : Txt K mg) : FnOk P w K mg base CX0 3 T.f_law_ring.a T.f_law_ring.fd ["_law_from", "_law_many"] (liftSp K c_law_ring) :=
  fnM (k := 2) (N := ["_law_from", "_law_many", "_law_order_here", "_law_k"]) (m := m_law_ring) T.f_law_ring.F sc_law_ring len_law_ring (fun cdv A outer s H E hr =>
 (iss_cons (is_set 2 sc_law_ring.nd (ie_call (ok_law_order T) (hr.mono (by omega)) T.f_law_order.m T.f_law_order.F.kp T.f_law_order.b (ia_cons (ie_var 0) (ia_cons (ie_var 1) ia_nil))))
 (iss_cons (is_if (it_cmp (om_eq hr.units) (ie_call (ok_law_take T) (hr.mono (by omega)) T.f_law_take.m T.f_law_take.F.kp T.f_law_take.b (ia_cons (ie_var 0) (ia_cons ie_int ia_nil))) ie_int (nomark _))
 (iss_one (is_ret (ie_callTy cm_tuple (by rfl) T.b_tuple PyProof.Rows.boot_tuple (ia_cons (ie_lc (own := [("_law_k", 3)]) rfl sc_law_ring.nd rfl (ii_iter (ie_var 2)) (blkOk_by (show blkC ["_law_from", "_law_many", "_law_order_here", "_law_k"] (defScope s_law_ring) _ _ = true from by decide +kernel)) (fun _ _ _ _ _ => (ig_name 3 sc_law_ring.nd)) (fun _ _ _ _ _ => its_nil) (fun _ _ _ _ _ => (ie_op om_add (ie_op om_mul (ie_var 3) ie_int) (ie_call (ok_law_take T) (hr.mono (by omega)) T.f_law_take.m T.f_law_take.F.kp T.f_law_take.b (ia_cons (ie_var 0) (ia_cons (ie_op om_pow ie_int ie_int) ia_nil)))))) ia_nil))))
 iss_nil)
 (iss_one (is_ret (ie_callTy cm_tuple (by rfl) T.b_tuple PyProof.Rows.boot_tuple (ia_cons (ie_var 2) ia_nil)))))))
  p_law_ring
theorem ok_law_some (T : Txt K mg) : FnOk P w K mg base CX0 2 T.f_law_some.a T.f_law_some.fd ["_law_from", "_law_many"] (liftSp K c_law_some) :=
  fnM (k := 1) (N := ["_law_from", "_law_many", "_law_way", "_law_one", "_law_k"]) (m := m_law_some) T.f_law_some.F sc_law_some len_law_some (fun cdv A outer s H E hr =>
 (iss_cons (is_set 2 sc_law_some.nd (ie_call (ok_law_take T) (hr.mono (by omega)) T.f_law_take.m T.f_law_take.F.kp T.f_law_take.b (ia_cons (ie_var 0) (ia_cons ie_int ia_nil))))
 (iss_cons (is_if (it_cmp (om_eq hr.units) (ie_var 2) ie_int (nomark _))
 (iss_one (is_ret (ie_tupR1 T.b_tuple T.b_range (ie_var 1))))
 iss_nil)
 (iss_cons (is_set 3 sc_law_some.nd (ie_call (ok_law_take T) (hr.mono (by omega)) T.f_law_take.m T.f_law_take.F.kp T.f_law_take.b (ia_cons (ie_var 0) (ia_cons (ie_var 1) ia_nil))))
 (iss_cons (is_if (it_cmp (om_eq hr.units) (ie_var 2) ie_int (nomark _))
 (iss_one (is_ret (ie_tup (ia_cons (ie_var 3) ia_nil))))
 iss_nil)
 (iss_one (is_ret (ie_callTy cm_tuple (by rfl) T.b_tuple PyProof.Rows.boot_tuple (ia_cons (ie_lc (own := [("_law_k", 4)]) rfl sc_law_some.nd rfl (ii_range1 T.b_range (ie_var 1)) (blkOk_by (show blkC ["_law_from", "_law_many", "_law_way", "_law_one", "_law_k"] (defScope s_law_some) _ _ = true from by decide +kernel)) (fun _ _ _ _ _ => (ig_name 4 sc_law_some.nd)) (fun _ _ _ _ _ => (its_one (IW.it (iw_or (it_cmp (om_eq hr.units) (ie_var 4) (ie_var 3) (nomark _)) (iw_or1 (it_cmp (om_eq hr.units) (ie_call (ok_law_take T) (hr.mono (by omega)) T.f_law_take.m T.f_law_take.F.kp T.f_law_take.b (ia_cons (ie_var 0) (ia_cons (ie_var 2) ia_nil))) ie_int (nomark _))))))) (fun _ _ _ _ _ => (ie_var 4))) ia_nil)))))))))
  p_law_some
theorem ok_law_size (T : Txt K mg) : FnOk P w K mg base CX0 2 T.f_law_size.a T.f_law_size.fd ["_law_from"] (liftSp K c_law_size) :=
  fnM (k := 1) (N := ["_law_from"]) (m := m_law_size) T.f_law_size.F sc_law_size len_law_size (fun cdv A outer s H E hr =>
 (iss_one (is_ret (ie_op om_add ie_int (ie_call (ok_law_take T) (hr.mono (by omega)) T.f_law_take.m T.f_law_take.F.kp T.f_law_take.b (ia_cons (ie_var 0) (ia_cons (ie_ix ix_m (ie_lst (ia_cons ie_int (ia_cons ie_int (ia_cons ie_int (ia_cons ie_int (ia_cons ie_int ia_nil)))))) (ie_call (ok_law_take T) (hr.mono (by omega)) T.f_law_take.m T.f_law_take.F.kp T.f_law_take.b (ia_cons (ie_var 0) (ia_cons ie_int ia_nil))) (fun _ _ => rfl)) ia_nil)))))))
  p_law_size
theorem ok_law_word (T : Txt K mg) : FnOk P w K mg base CX0 2 T.f_law_word.a T.f_law_word.fd ["_law_from", "_law_many"] (liftSp K c_law_word) :=
  fnM (k := 1) (N := ["_law_from", "_law_many", "_law_most", "_law_k"]) (m := m_law_word) T.f_law_word.F sc_law_word len_law_word (fun cdv A outer s H E hr =>
 (iss_cons (is_set 2 sc_law_word.nd (ie_ix ix_m (ie_lst (ia_cons ie_int (ia_cons ie_int (ia_cons ie_int (ia_cons ie_int ia_nil))))) (ie_call (ok_law_take T) (hr.mono (by omega)) T.f_law_take.m T.f_law_take.F.kp T.f_law_take.b (ia_cons (ie_var 0) (ia_cons ie_int ia_nil))) (fun _ _ => rfl)))
 (iss_one (is_ret (ie_callTy cm_tuple (by rfl) T.b_tuple PyProof.Rows.boot_tuple (ia_cons (ie_lc (own := [("_law_k", 3)]) rfl sc_law_word.nd rfl (ii_range1 T.b_range (ie_var 1)) (blkOk_by (show blkC ["_law_from", "_law_many", "_law_most", "_law_k"] (defScope s_law_word) _ _ = true from by decide +kernel)) (fun _ _ _ _ _ => (ig_name 3 sc_law_word.nd)) (fun _ _ _ _ _ => its_nil) (fun _ _ _ _ _ => (ie_call (ok_law_take T) (hr.mono (by omega)) T.f_law_take.m T.f_law_take.F.kp T.f_law_take.b (ia_cons (ie_var 0) (ia_cons (ie_var 2) ia_nil))))) ia_nil))))))
  p_law_word
theorem ok_law_bound (T : Txt K mg) : FnOk P w K mg base CX0 1 T.f_law_bound.a T.f_law_bound.fd ["_law_way", "_law_many"] (liftSp K c_law_bound) :=
  fnM (k := 0) (N := ["_law_way", "_law_many", "_law_total", "_law_k"]) (m := m_law_bound) T.f_law_bound.F sc_law_bound len_law_bound (fun cdv A outer s H E hr =>
 (iss_cons (is_if (it_cmp (om_eq hr.units) (ie_var 0) ie_str (nomark _))
 (iss_one (is_ret (ie_op om_add (ie_sumR1 T.b_sum T.b_range (ie_op om_add (ie_var 1) ie_int)) (ie_var 1))))
 iss_nil)
 (iss_cons (is_if (it_cmp (om_eq hr.units) (ie_var 0) ie_str (nomark _))
 (iss_one (is_ret (ie_op om_sub (ie_op om_mul (ie_var 1) (ie_var 1)) (ie_var 1))))
 iss_nil)
 (iss_cons (is_if (it_cmp (om_eq hr.units) (ie_var 0) ie_str (nomark _))
 (iss_one (is_ret (ie_op om_mul (ie_op om_mul ie_int (ie_var 1)) (ie_callB cm_len (by rfl) T.b_len PySem.boot_len (ia_cons (ie_lc (own := [("_law_k", 3)]) rfl sc_law_bound.nd rfl (ii_range1 T.b_range ie_int) (blkOk_by (show blkC ["_law_way", "_law_many", "_law_total", "_law_k"] (defScope s_law_bound) _ _ = true from by decide +kernel)) (fun _ _ _ _ _ => (ig_name 3 sc_law_bound.nd)) (fun _ _ _ _ _ => (its_one (it_cmp om_leI (ie_op om_shl ie_int (ie_var 3)) (ie_var 1) (nomark _)))) (fun _ _ _ _ _ => (ie_var 3))) ia_nil)))))
 iss_nil)
 (iss_cons (is_set 2 sc_law_bound.nd (ie_op om_mul ie_int (ie_var 1)))
 (iss_cons (is_for PassesOwn.never rfl (ii_range1 T.b_range ie_int) (ig_name 3 sc_law_bound.nd)
 (iss_one (is_if (it_cmp om_ltI (ie_op om_shl ie_int (ie_var 3)) (ie_var 1) (nomark _))
 (iss_one (is_set 2 sc_law_bound.nd (ie_op om_add (ie_var 2) (ie_op om_mul (ie_op om_shl ie_int (ie_var 3)) (ie_op om_fdiv (ie_var 1) (ie_op om_add (ie_op om_shl ie_int (ie_var 3)) ie_int))))))
 iss_nil)))
 (iss_one (is_ret (ie_var 2)))))))))
  p_law_bound
theorem ok_law_is (T : Txt K mg) : FnOk P w K mg base CX0 1 T.f_law_is.a T.f_law_is.fd ["_law_found", "_law_due"] (liftSp K c_law_is) :=
  fnM (k := 0) (N := ["_law_found", "_law_due"]) (m := m_law_is) T.f_law_is.F sc_law_is len_law_is (fun cdv A outer s H E hr =>
 (iss_one (is_ret (ie_and (ie_isi T.b_isinstance T.b_int (ie_var 0) bt_int kt_int) (ie_and (ie_not (ie_isi T.b_isinstance T.b_bool (ie_var 0) bt_bool kt_bool)) (ie_one (ie_cmp (om_eq hr.units) (ie_var 0) (ie_var 1) (nomark _))))))))
  p_law_is
theorem ok_law_from_behind (T : Txt K mg) : FnOk P w K mg base CX0 1 T.f_law_from_behind.a T.f_law_from_behind.fd ["_law_power"] (liftSp K c_law_from_behind) :=
  fnM (k := 0) (N := ["_law_power", "_law_names", "_law_k", "_law_name"]) (m := m_law_from_behind) T.f_law_from_behind.F sc_law_from_behind len_law_from_behind (fun cdv A outer s H E hr =>
 (iss_cons (is_set 1 sc_law_from_behind.nd (ie_lst (ia_cons ie_int ia_nil)))
 (iss_cons (is_for PassesOwn.never rfl (ii_range1 T.b_range (ie_var 0)) (ig_name 2 sc_law_from_behind.nd)
 (iss_one (is_set 1 sc_law_from_behind.nd (ie_op om_add (ie_lc (own := [("_law_name", 3)]) rfl sc_law_from_behind.nd rfl (ii_iter (ie_var 1)) (blkOk_by (show blkC ["_law_power", "_law_names", "_law_k", "_law_name"] (defScope s_law_from_behind) _ _ = true from by decide +kernel)) (fun _ _ _ _ _ => (ig_name 3 sc_law_from_behind.nd)) (fun _ _ _ _ _ => its_nil) (fun _ _ _ _ _ => (ie_op om_mul ie_int (ie_var 3)))) (ie_lc (own := [("_law_name", 3)]) rfl sc_law_from_behind.nd rfl (ii_iter (ie_var 1)) (blkOk_by (show blkC ["_law_power", "_law_names", "_law_k", "_law_name"] (defScope s_law_from_behind) _ _ = true from by decide +kernel)) (fun _ _ _ _ _ => (ig_name 3 sc_law_from_behind.nd)) (fun _ _ _ _ _ => its_nil) (fun _ _ _ _ _ => (ie_op om_add (ie_op om_mul ie_int (ie_var 3)) ie_int)))))))
 (iss_one (is_ret (ie_callTy cm_tuple (by rfl) T.b_tuple PyProof.Rows.boot_tuple (ia_cons (ie_var 1) ia_nil)))))))
  p_law_from_behind
theorem ok_law (T : Txt K mg) : FnOk P w K mg base CX0 4 T.f_law.a T.f_law.fd ["_law_script"] (liftSp K c_law) :=
  fnM (k := 3) (N := ["_law_script", "_law_k", "_law_from", "_law_many", "_law_here", "_law_begun", "_law_way", "_law_falling", "_law_other", "_law_dear", "_law_due", "_law_word_here"]) (m := m_law) T.f_law.F sc_law len_law (fun cdv A outer s H E hr =>
 (iss_cons (is_for PassesOwn.never rfl (ii_range1 T.b_range (ie_callB (cm_max2 rfl) (by rfl) T.b_max PyProof.Rows.boot_max (ia_cons ie_int (ia_cons (ie_callB (cm_min2 rfl) (by rfl) T.b_min PyProof.Rows.boot_min (ia_cons ie_int (ia_cons (ie_callB cm_len (by rfl) T.b_len PySem.boot_len (ia_cons (ie_var 0) ia_nil)) ia_nil))) ia_nil)))) (ig_name 1 sc_law.nd)
 (iss_cons (is_set 2 sc_law.nd (ie_call (ok_law_hand T) (hr.mono (by omega)) T.f_law_hand.m T.f_law_hand.F.kp T.f_law_hand.b (ia_cons (ie_var 0) (ia_cons (ie_var 1) ia_nil))))
 (iss_cons (is_set 3 sc_law.nd (ie_call (ok_law_size T) (hr.mono (by omega)) T.f_law_size.m T.f_law_size.F.kp T.f_law_size.b (ia_cons (ie_var 2) ia_nil)))
 (iss_cons (is_set 4 sc_law.nd (ie_call (ok_law_ring T) (hr.mono (by omega)) T.f_law_ring.m T.f_law_ring.F.kp T.f_law_ring.b (ia_cons (ie_var 2) (ia_cons (ie_var 3) ia_nil))))
 (iss_cons (is_set 5 sc_law.nd (ie_call (ok_law_some T) (hr.mono (by omega)) T.f_law_some.m T.f_law_some.F.kp T.f_law_some.b (ia_cons (ie_var 2) (ia_cons (ie_var 3) ia_nil))))
 (iss_cons (is_for PassesOwn.never rfl (ii_iter (ie_tup (ia_cons ie_str (ia_cons ie_str (ia_cons ie_str (ia_cons ie_str ia_nil)))))) (ig_name 6 sc_law.nd)
 (iss_cons (is_set 10 sc_law.nd (ie_call (ok_law_bound T) (hr.mono (by omega)) T.f_law_bound.m T.f_law_bound.F.kp T.f_law_bound.b (ia_cons (ie_var 6) (ia_cons (ie_var 3) ia_nil))))
 (iss_cons (is_set 11 sc_law.nd (ie_ifE (it_cmp (om_ne hr.units) (ie_var 6) ie_str (nomark _)) (ie_var 4) (ie_call (ok_law_word T) (hr.mono (by omega)) T.f_law_word.m T.f_law_word.F.kp T.f_law_word.b (ia_cons (ie_var 2) (ia_cons (ie_var 3) ia_nil)))))
 (iss_cons (is_if (it_not (it_val (ie_call (ok_law_is T) (hr.mono (by omega)) T.f_law_is.m T.f_law_is.F.kp T.f_law_is.b (ia_cons (ie_call (ok_bound T) (hr.mono (by omega)) T.f_bound.m T.f_bound.F.kp T.f_bound.b (ia_cons (ie_var 6) (ia_cons (ie_var 3) ia_nil))) (ia_cons (ie_var 10) ia_nil)))))
 (iss_one (is_ret ie_bl))
 iss_nil)
 (iss_one (is_if (it_cmp om_gtI (ie_call (ok_told_letters T) (hr.mono (by omega)) T.f_told_letters.m T.f_told_letters.F.kp T.f_told_letters.b (ia_cons (ie_var 6) (ia_cons (ie_var 11) (ia_cons (ie_var 5) ia_nil)))) (ie_var 10) (nomark _))
 (iss_one (is_ret ie_bl))
 iss_nil))))))
 (iss_cons (is_set 7 sc_law.nd (ie_callTy cm_tuple (by rfl) T.b_tuple PyProof.Rows.boot_tuple (ia_cons (ie_sortRev T.b_sorted (ie_var 4)) ia_nil)))
 (iss_cons (is_if (it_cmp (om_ne hr.units) (ie_call (ok_told_letters T) (hr.mono (by omega)) T.f_told_letters.m T.f_told_letters.F.kp T.f_told_letters.b (ia_cons ie_str (ia_cons (ie_var 7) (ia_cons (ie_tupR1 T.b_tuple T.b_range (ie_var 3)) ia_nil)))) (ie_call (ok_bound T) (hr.mono (by omega)) T.f_bound.m T.f_bound.F.kp T.f_bound.b (ia_cons ie_str (ia_cons (ie_var 3) ia_nil))) (nomark _))
 (iss_one (is_ret ie_bl))
 iss_nil)
 (iss_cons (is_set 8 sc_law.nd (ie_op om_add ie_int (ie_call (ok_law_take T) (hr.mono (by omega)) T.f_law_take.m T.f_law_take.F.kp T.f_law_take.b (ia_cons (ie_var 2) (ia_cons ie_int ia_nil)))))
 (iss_cons (is_for PassesOwn.never rfl (ii_iter (ie_tup (ia_cons ie_str (ia_cons ie_str (ia_cons ie_str (ia_cons ie_str ia_nil)))))) (ig_name 6 sc_law.nd)
 (iss_one (is_if (it_not (it_val (ie_call (ok_law_is T) (hr.mono (by omega)) T.f_law_is.m T.f_law_is.F.kp T.f_law_is.b (ia_cons (ie_call (ok_bound T) (hr.mono (by omega)) T.f_bound.m T.f_bound.F.kp T.f_bound.b (ia_cons (ie_var 6) (ia_cons (ie_var 8) ia_nil))) (ia_cons (ie_call (ok_law_bound T) (hr.mono (by omega)) T.f_law_bound.m T.f_law_bound.F.kp T.f_law_bound.b (ia_cons (ie_var 6) (ia_cons (ie_var 8) ia_nil))) ia_nil)))))
 (iss_one (is_ret ie_bl))
 iss_nil)))
 (iss_cons (is_set 9 sc_law.nd (ie_call (ok_law_from_behind T) (hr.mono (by omega)) T.f_law_from_behind.m T.f_law_from_behind.F.kp T.f_law_from_behind.b (ia_cons (ie_call (ok_law_take T) (hr.mono (by omega)) T.f_law_take.m T.f_law_take.F.kp T.f_law_take.b (ia_cons (ie_var 2) (ia_cons ie_int ia_nil))) ia_nil)))
 (iss_one (is_if (it_cmp om_gtI (ie_call (ok_told_letters T) (hr.mono (by omega)) T.f_told_letters.m T.f_told_letters.F.kp T.f_told_letters.b (ia_cons ie_str (ia_cons (ie_var 9) (ia_cons (ie_tupR1 T.b_tuple T.b_range (ie_callB cm_len (by rfl) T.b_len PySem.boot_len (ia_cons (ie_var 9) ia_nil))) ia_nil)))) (ie_call (ok_bound T) (hr.mono (by omega)) T.f_bound.m T.f_bound.F.kp T.f_bound.b (ia_cons ie_str (ia_cons (ie_callB cm_len (by rfl) T.b_len PySem.boot_len (ia_cons (ie_var 9) ia_nil)) ia_nil))) (nomark _))
 (iss_one (is_ret ie_bl))
 iss_nil)))))))))))))
 (iss_one (is_ret ie_bl))))
  p_law
end
theorem all_mk {l : PySem.W.OpenLaw} {w : World} {K : PySem.W.Frag} {h : Heap} {mg : Str → Option Value} {fa : Addr} (X : K.In h) (G : h.Ns mainGlobals mg) (hfa : mg "law" = some (.ref fa))
    {f1 : Addr} {od1 an1 : Option Addr} {sl1 : Array (Option Value)} {oc1 kV1 dc1 pm1 cd1 ct1 : Value} (a1 : PySem.W.nsIn K mainGlobals "stop_of" = some (some (.ref f1))) (l1 : K.lookup f1 = some ⟨oc1, od1, .func (PySem.W.fnOf "stop_of" "stop_of" (defArgs s_stop_of) (defBody s_stop_of) (defScope s_stop_of) .none kV1 dc1 pm1 an1 cd1 ct1), sl1⟩) (c1 : PySem.W.codeIn K cd1 "stop_of" = true) (k1 : PySem.W.keepIn K (.ref f1) = true)
    {f2 : Addr} {od2 an2 : Option Addr} {sl2 : Array (Option Value)} {oc2 kV2 dc2 pm2 cd2 ct2 : Value} (a2 : PySem.W.nsIn K mainGlobals "round_letters" = some (some (.ref f2))) (l2 : K.lookup f2 = some ⟨oc2, od2, .func (PySem.W.fnOf "round_letters" "round_letters" (defArgs s_round_letters) (defBody s_round_letters) (defScope s_round_letters) .none kV2 dc2 pm2 an2 cd2 ct2), sl2⟩) (c2 : PySem.W.codeIn K cd2 "round_letters" = true) (k2 : PySem.W.keepIn K (.ref f2) = true)
    {f3 : Addr} {od3 an3 : Option Addr} {sl3 : Array (Option Value)} {oc3 kV3 dc3 pm3 cd3 ct3 : Value} (a3 : PySem.W.nsIn K mainGlobals "next_row" = some (some (.ref f3))) (l3 : K.lookup f3 = some ⟨oc3, od3, .func (PySem.W.fnOf "next_row" "next_row" (defArgs s_next_row) (defBody s_next_row) (defScope s_next_row) .none kV3 dc3 pm3 an3 cd3 ct3), sl3⟩) (c3 : PySem.W.codeIn K cd3 "next_row" = true) (k3 : PySem.W.keepIn K (.ref f3) = true)
    {f4 : Addr} {od4 an4 : Option Addr} {sl4 : Array (Option Value)} {oc4 kV4 dc4 pm4 cd4 ct4 : Value} (a4 : PySem.W.nsIn K mainGlobals "phases" = some (some (.ref f4))) (l4 : K.lookup f4 = some ⟨oc4, od4, .func (PySem.W.fnOf "phases" "phases" (defArgs s_phases) (defBody s_phases) (defScope s_phases) .none kV4 dc4 pm4 an4 cd4 ct4), sl4⟩) (c4 : PySem.W.codeIn K cd4 "phases" = true) (k4 : PySem.W.keepIn K (.ref f4) = true)
    {f5 : Addr} {od5 an5 : Option Addr} {sl5 : Array (Option Value)} {oc5 kV5 dc5 pm5 cd5 ct5 : Value} (a5 : PySem.W.nsIn K mainGlobals "side_letters" = some (some (.ref f5))) (l5 : K.lookup f5 = some ⟨oc5, od5, .func (PySem.W.fnOf "side_letters" "side_letters" (defArgs s_side_letters) (defBody s_side_letters) (defScope s_side_letters) .none kV5 dc5 pm5 an5 cd5 ct5), sl5⟩) (c5 : PySem.W.codeIn K cd5 "side_letters" = true) (k5 : PySem.W.keepIn K (.ref f5) = true)
    {f6 : Addr} {od6 an6 : Option Addr} {sl6 : Array (Option Value)} {oc6 kV6 dc6 pm6 cd6 ct6 : Value} (a6 : PySem.W.nsIn K mainGlobals "reach_letters" = some (some (.ref f6))) (l6 : K.lookup f6 = some ⟨oc6, od6, .func (PySem.W.fnOf "reach_letters" "reach_letters" (defArgs s_reach_letters) (defBody s_reach_letters) (defScope s_reach_letters) .none kV6 dc6 pm6 an6 cd6 ct6), sl6⟩) (c6 : PySem.W.codeIn K cd6 "reach_letters" = true) (k6 : PySem.W.keepIn K (.ref f6) = true)
    {f7 : Addr} {od7 an7 : Option Addr} {sl7 : Array (Option Value)} {oc7 kV7 dc7 pm7 cd7 ct7 : Value} (a7 : PySem.W.nsIn K mainGlobals "told_letters" = some (some (.ref f7))) (l7 : K.lookup f7 = some ⟨oc7, od7, .func (PySem.W.fnOf "told_letters" "told_letters" (defArgs s_told_letters) (defBody s_told_letters) (defScope s_told_letters) .none kV7 dc7 pm7 an7 cd7 ct7), sl7⟩) (c7 : PySem.W.codeIn K cd7 "told_letters" = true) (k7 : PySem.W.keepIn K (.ref f7) = true)
    {f8 : Addr} {od8 an8 : Option Addr} {sl8 : Array (Option Value)} {oc8 kV8 dc8 pm8 cd8 ct8 : Value} (a8 : PySem.W.nsIn K mainGlobals "halvings" = some (some (.ref f8))) (l8 : K.lookup f8 = some ⟨oc8, od8, .func (PySem.W.fnOf "halvings" "halvings" (defArgs s_halvings) (defBody s_halvings) (defScope s_halvings) .none kV8 dc8 pm8 an8 cd8 ct8), sl8⟩) (c8 : PySem.W.codeIn K cd8 "halvings" = true) (k8 : PySem.W.keepIn K (.ref f8) = true)
    {f9 : Addr} {od9 an9 : Option Addr} {sl9 : Array (Option Value)} {oc9 kV9 dc9 pm9 cd9 ct9 : Value} (a9 : PySem.W.nsIn K mainGlobals "reach_bound" = some (some (.ref f9))) (l9 : K.lookup f9 = some ⟨oc9, od9, .func (PySem.W.fnOf "reach_bound" "reach_bound" (defArgs s_reach_bound) (defBody s_reach_bound) (defScope s_reach_bound) .none kV9 dc9 pm9 an9 cd9 ct9), sl9⟩) (c9 : PySem.W.codeIn K cd9 "reach_bound" = true) (k9 : PySem.W.keepIn K (.ref f9) = true)
    {f10 : Addr} {od10 an10 : Option Addr} {sl10 : Array (Option Value)} {oc10 kV10 dc10 pm10 cd10 ct10 : Value} (a10 : PySem.W.nsIn K mainGlobals "bound" = some (some (.ref f10))) (l10 : K.lookup f10 = some ⟨oc10, od10, .func (PySem.W.fnOf "bound" "bound" (defArgs s_bound) (defBody s_bound) (defScope s_bound) .none kV10 dc10 pm10 an10 cd10 ct10), sl10⟩) (c10 : PySem.W.codeIn K cd10 "bound" = true) (k10 : PySem.W.keepIn K (.ref f10) = true)
    {f11 : Addr} {od11 an11 : Option Addr} {sl11 : Array (Option Value)} {oc11 kV11 dc11 pm11 cd11 ct11 : Value} (a11 : PySem.W.nsIn K mainGlobals "_law_hand" = some (some (.ref f11))) (l11 : K.lookup f11 = some ⟨oc11, od11, .func (PySem.W.fnOf "_law_hand" "_law_hand" (defArgs s_law_hand) (defBody s_law_hand) (defScope s_law_hand) .none kV11 dc11 pm11 an11 cd11 ct11), sl11⟩) (c11 : PySem.W.codeIn K cd11 "_law_hand" = true) (k11 : PySem.W.keepIn K (.ref f11) = true)
    {f12 : Addr} {od12 an12 : Option Addr} {sl12 : Array (Option Value)} {oc12 kV12 dc12 pm12 cd12 ct12 : Value} (a12 : PySem.W.nsIn K mainGlobals "_law_take" = some (some (.ref f12))) (l12 : K.lookup f12 = some ⟨oc12, od12, .func (PySem.W.fnOf "_law_take" "_law_take" (defArgs s_law_take) (defBody s_law_take) (defScope s_law_take) .none kV12 dc12 pm12 an12 cd12 ct12), sl12⟩) (c12 : PySem.W.codeIn K cd12 "_law_take" = true) (k12 : PySem.W.keepIn K (.ref f12) = true)
    {f13 : Addr} {od13 an13 : Option Addr} {sl13 : Array (Option Value)} {oc13 kV13 dc13 pm13 cd13 ct13 : Value} (a13 : PySem.W.nsIn K mainGlobals "_law_order" = some (some (.ref f13))) (l13 : K.lookup f13 = some ⟨oc13, od13, .func (PySem.W.fnOf "_law_order" "_law_order" (defArgs s_law_order) (defBody s_law_order) (defScope s_law_order) .none kV13 dc13 pm13 an13 cd13 ct13), sl13⟩) (c13 : PySem.W.codeIn K cd13 "_law_order" = true) (k13 : PySem.W.keepIn K (.ref f13) = true)
    {f14 : Addr} {od14 an14 : Option Addr} {sl14 : Array (Option Value)} {oc14 kV14 dc14 pm14 cd14 ct14 : Value} (a14 : PySem.W.nsIn K mainGlobals "_law_ring" = some (some (.ref f14))) (l14 : K.lookup f14 = some ⟨oc14, od14, .func (PySem.W.fnOf "_law_ring" "_law_ring" (defArgs s_law_ring) (defBody s_law_ring) (defScope s_law_ring) .none kV14 dc14 pm14 an14 cd14 ct14), sl14⟩) (c14 : PySem.W.codeIn K cd14 "_law_ring" = true) (k14 : PySem.W.keepIn K (.ref f14) = true)
    {f15 : Addr} {od15 an15 : Option Addr} {sl15 : Array (Option Value)} {oc15 kV15 dc15 pm15 cd15 ct15 : Value} (a15 : PySem.W.nsIn K mainGlobals "_law_some" = some (some (.ref f15))) (l15 : K.lookup f15 = some ⟨oc15, od15, .func (PySem.W.fnOf "_law_some" "_law_some" (defArgs s_law_some) (defBody s_law_some) (defScope s_law_some) .none kV15 dc15 pm15 an15 cd15 ct15), sl15⟩) (c15 : PySem.W.codeIn K cd15 "_law_some" = true) (k15 : PySem.W.keepIn K (.ref f15) = true)
    {f16 : Addr} {od16 an16 : Option Addr} {sl16 : Array (Option Value)} {oc16 kV16 dc16 pm16 cd16 ct16 : Value} (a16 : PySem.W.nsIn K mainGlobals "_law_size" = some (some (.ref f16))) (l16 : K.lookup f16 = some ⟨oc16, od16, .func (PySem.W.fnOf "_law_size" "_law_size" (defArgs s_law_size) (defBody s_law_size) (defScope s_law_size) .none kV16 dc16 pm16 an16 cd16 ct16), sl16⟩) (c16 : PySem.W.codeIn K cd16 "_law_size" = true) (k16 : PySem.W.keepIn K (.ref f16) = true)
    {f17 : Addr} {od17 an17 : Option Addr} {sl17 : Array (Option Value)} {oc17 kV17 dc17 pm17 cd17 ct17 : Value} (a17 : PySem.W.nsIn K mainGlobals "_law_word" = some (some (.ref f17))) (l17 : K.lookup f17 = some ⟨oc17, od17, .func (PySem.W.fnOf "_law_word" "_law_word" (defArgs s_law_word) (defBody s_law_word) (defScope s_law_word) .none kV17 dc17 pm17 an17 cd17 ct17), sl17⟩) (c17 : PySem.W.codeIn K cd17 "_law_word" = true) (k17 : PySem.W.keepIn K (.ref f17) = true)
    {f18 : Addr} {od18 an18 : Option Addr} {sl18 : Array (Option Value)} {oc18 kV18 dc18 pm18 cd18 ct18 : Value} (a18 : PySem.W.nsIn K mainGlobals "_law_bound" = some (some (.ref f18))) (l18 : K.lookup f18 = some ⟨oc18, od18, .func (PySem.W.fnOf "_law_bound" "_law_bound" (defArgs s_law_bound) (defBody s_law_bound) (defScope s_law_bound) .none kV18 dc18 pm18 an18 cd18 ct18), sl18⟩) (c18 : PySem.W.codeIn K cd18 "_law_bound" = true) (k18 : PySem.W.keepIn K (.ref f18) = true)
    {f19 : Addr} {od19 an19 : Option Addr} {sl19 : Array (Option Value)} {oc19 kV19 dc19 pm19 cd19 ct19 : Value} (a19 : PySem.W.nsIn K mainGlobals "_law_is" = some (some (.ref f19))) (l19 : K.lookup f19 = some ⟨oc19, od19, .func (PySem.W.fnOf "_law_is" "_law_is" (defArgs s_law_is) (defBody s_law_is) (defScope s_law_is) .none kV19 dc19 pm19 an19 cd19 ct19), sl19⟩) (c19 : PySem.W.codeIn K cd19 "_law_is" = true) (k19 : PySem.W.keepIn K (.ref f19) = true)
    {f20 : Addr} {od20 an20 : Option Addr} {sl20 : Array (Option Value)} {oc20 kV20 dc20 pm20 cd20 ct20 : Value} (a20 : PySem.W.nsIn K mainGlobals "_law_from_behind" = some (some (.ref f20))) (l20 : K.lookup f20 = some ⟨oc20, od20, .func (PySem.W.fnOf "_law_from_behind" "_law_from_behind" (defArgs s_law_from_behind) (defBody s_law_from_behind) (defScope s_law_from_behind) .none kV20 dc20 pm20 an20 cd20 ct20), sl20⟩) (c20 : PySem.W.codeIn K cd20 "_law_from_behind" = true) (k20 : PySem.W.keepIn K (.ref f20) = true)
    {f21 : Addr} {od21 an21 : Option Addr} {sl21 : Array (Option Value)} {oc21 kV21 dc21 pm21 cd21 ct21 : Value} (a21 : PySem.W.nsIn K mainGlobals "law" = some (some (.ref f21))) (l21 : K.lookup f21 = some ⟨oc21, od21, .func (PySem.W.fnOf "law" "law" (defArgs s_law) (defBody s_law) (defScope s_law) .none kV21 dc21 pm21 an21 cd21 ct21), sl21⟩) (c21 : PySem.W.codeIn K cd21 "law" = true) (k21 : PySem.W.keepIn K (.ref f21) = true)
    (z1 : PySem.W.nsIn K mainGlobals "bool" = some none)
    (z2 : PySem.W.nsIn K mainGlobals "enumerate" = some none)
    (z3 : PySem.W.nsIn K mainGlobals "int" = some none)
    (z4 : PySem.W.nsIn K mainGlobals "isinstance" = some none)
    (z5 : PySem.W.nsIn K mainGlobals "len" = some none)
    (z6 : PySem.W.nsIn K mainGlobals "max" = some none)
    (z7 : PySem.W.nsIn K mainGlobals "min" = some none)
    (z8 : PySem.W.nsIn K mainGlobals "range" = some none)
    (z9 : PySem.W.nsIn K mainGlobals "sorted" = some none)
    (z10 : PySem.W.nsIn K mainGlobals "sum" = some none)
    (z11 : PySem.W.nsIn K mainGlobals "tuple" = some none)
    {t1 : Tok} (y1 : PySem.W.nsIn K mainGlobals "LEFT" = some (some (.int (-1) t1)))
    {t2 : Tok} (y2 : PySem.W.nsIn K mainGlobals "RIGHT" = some (some (.int (1) t2)))
    : ∃ fd : FuncData, (∀ (s : Shared) (v : Value), BindsTo s fd ⟨[v], []⟩ [("_law_script", v)]) ∧ ∀ base : Heap, K.In base → base.Ns mainGlobals mg → FnOk l.prog w K mg base CX0 4 fa fd ["_law_script"] (liftSp K c_law) := by
  have e := hfa.symm.trans (PySem.W.mg_of X G a21)
  cases e
  have F1 := fun_mk (st := s_stop_of) l1 c1 k1
  have b1 := F1.binds (ps := ["ring", "some", "house", "side"]) fun _ _ _ _ _ _ us hl => match us, hl with | [_, _, _, _], _ => rfl
  have F2 := fun_mk (st := s_round_letters) l2 c2 k2
  have b2 := F2.binds (ps := ["ring", "some"]) fun _ _ _ _ _ _ us hl => match us, hl with | [_, _], _ => rfl
  have F3 := fun_mk (st := s_next_row) l3 c3 k3
  have b3 := F3.binds (ps := ["row"]) fun _ _ _ _ _ _ us hl => match us, hl with | [_], _ => rfl
  have F4 := fun_mk (st := s_phases) l4 c4 k4
  have b4 := F4.binds (ps := ["ring", "some"]) fun _ _ _ _ _ _ us hl => match us, hl with | [_, _], _ => rfl
  have F5 := fun_mk (st := s_side_letters) l5 c5 k5
  have b5 := F5.binds (ps := ["reach", "stop"]) fun _ _ _ _ _ _ us hl => match us, hl with | [_, _], _ => rfl
  have F6 := fun_mk (st := s_reach_letters) l6 c6 k6
  have b6 := F6.binds (ps := ["left", "right"]) fun _ _ _ _ _ _ us hl => match us, hl with | [_, _], _ => rfl
  have F7 := fun_mk (st := s_told_letters) l7 c7 k7
  have b7 := F7.binds (ps := ["way", "ring", "some"]) fun _ _ _ _ _ _ us hl => match us, hl with | [_, _, _], _ => rfl
  have F8 := fun_mk (st := s_halvings) l8 c8 k8
  have b8 := F8.binds (ps := ["many"]) fun _ _ _ _ _ _ us hl => match us, hl with | [_], _ => rfl
  have F9 := fun_mk (st := s_reach_bound) l9 c9 k9
  have b9 := F9.binds (ps := ["many"]) fun _ _ _ _ _ _ us hl => match us, hl with | [_], _ => rfl
  have F10 := fun_mk (st := s_bound) l10 c10 k10
  have b10 := F10.binds (ps := ["way", "many"]) fun _ _ _ _ _ _ us hl => match us, hl with | [_, _], _ => rfl
  have F11 := fun_mk (st := s_law_hand) l11 c11 k11
  have b11 := F11.binds (ps := ["_law_script", "_law_k"]) fun _ _ _ _ _ _ us hl => match us, hl with | [_, _], _ => rfl
  have F12 := fun_mk (st := s_law_take) l12 c12 k12
  have b12 := F12.binds (ps := ["_law_from", "_law_many"]) fun _ _ _ _ _ _ us hl => match us, hl with | [_, _], _ => rfl
  have F13 := fun_mk (st := s_law_order) l13 c13 k13
  have b13 := F13.binds (ps := ["_law_from", "_law_many"]) fun _ _ _ _ _ _ us hl => match us, hl with | [_, _], _ => rfl
  have F14 := fun_mk (st := s_law_ring) l14 c14 k14
  have b14 := F14.binds (ps := ["_law_from", "_law_many"]) fun _ _ _ _ _ _ us hl => match us, hl with | [_, _], _ => rfl
  have F15 := fun_mk (st := s_law_some) l15 c15 k15
  have b15 := F15.binds (ps := ["_law_from", "_law_many"]) fun _ _ _ _ _ _ us hl => match us, hl with | [_, _], _ => rfl
  have F16 := fun_mk (st := s_law_size) l16 c16 k16
  have b16 := F16.binds (ps := ["_law_from"]) fun _ _ _ _ _ _ us hl => match us, hl with | [_], _ => rfl
  have F17 := fun_mk (st := s_law_word) l17 c17 k17
  have b17 := F17.binds (ps := ["_law_from", "_law_many"]) fun _ _ _ _ _ _ us hl => match us, hl with | [_, _], _ => rfl
  have F18 := fun_mk (st := s_law_bound) l18 c18 k18
  have b18 := F18.binds (ps := ["_law_way", "_law_many"]) fun _ _ _ _ _ _ us hl => match us, hl with | [_, _], _ => rfl
  have F19 := fun_mk (st := s_law_is) l19 c19 k19
  have b19 := F19.binds (ps := ["_law_found", "_law_due"]) fun _ _ _ _ _ _ us hl => match us, hl with | [_, _], _ => rfl
  have F20 := fun_mk (st := s_law_from_behind) l20 c20 k20
  have b20 := F20.binds (ps := ["_law_power"]) fun _ _ _ _ _ _ us hl => match us, hl with | [_], _ => rfl
  have F21 := fun_mk (st := s_law) l21 c21 k21
  have b21 := F21.binds (ps := ["_law_script"]) fun _ _ _ _ _ _ us hl => match us, hl with | [_], _ => rfl
  have T : Txt K mg := { f_stop_of := ⟨_, _, F1, b1, PySem.W.mg_of X G a1⟩, f_round_letters := ⟨_, _, F2, b2, PySem.W.mg_of X G a2⟩, f_next_row := ⟨_, _, F3, b3, PySem.W.mg_of X G a3⟩, f_phases := ⟨_, _, F4, b4, PySem.W.mg_of X G a4⟩, f_side_letters := ⟨_, _, F5, b5, PySem.W.mg_of X G a5⟩, f_reach_letters := ⟨_, _, F6, b6, PySem.W.mg_of X G a6⟩, f_told_letters := ⟨_, _, F7, b7, PySem.W.mg_of X G a7⟩, f_halvings := ⟨_, _, F8, b8, PySem.W.mg_of X G a8⟩, f_reach_bound := ⟨_, _, F9, b9, PySem.W.mg_of X G a9⟩, f_bound := ⟨_, _, F10, b10, PySem.W.mg_of X G a10⟩, f_law_hand := ⟨_, _, F11, b11, PySem.W.mg_of X G a11⟩, f_law_take := ⟨_, _, F12, b12, PySem.W.mg_of X G a12⟩, f_law_order := ⟨_, _, F13, b13, PySem.W.mg_of X G a13⟩, f_law_ring := ⟨_, _, F14, b14, PySem.W.mg_of X G a14⟩, f_law_some := ⟨_, _, F15, b15, PySem.W.mg_of X G a15⟩, f_law_size := ⟨_, _, F16, b16, PySem.W.mg_of X G a16⟩, f_law_word := ⟨_, _, F17, b17, PySem.W.mg_of X G a17⟩, f_law_bound := ⟨_, _, F18, b18, PySem.W.mg_of X G a18⟩, f_law_is := ⟨_, _, F19, b19, PySem.W.mg_of X G a19⟩, f_law_from_behind := ⟨_, _, F20, b20, PySem.W.mg_of X G a20⟩, f_law := ⟨_, _, F21, b21, PySem.W.mg_of X G a21⟩, b_bool := PySem.W.mg_none_of X G z1, b_enumerate := PySem.W.mg_none_of X G z2, b_int := PySem.W.mg_none_of X G z3, b_isinstance := PySem.W.mg_none_of X G z4, b_len := PySem.W.mg_none_of X G z5, b_max := PySem.W.mg_none_of X G z6, b_min := PySem.W.mg_none_of X G z7, b_range := PySem.W.mg_none_of X G z8, b_sorted := PySem.W.mg_none_of X G z9, b_sum := PySem.W.mg_none_of X G z10, b_tuple := PySem.W.mg_none_of X G z11, g_LEFT := ⟨_, .int (-1), PySem.W.mg_of X G y1, ⟨_, rfl⟩, fun _ => rv_int⟩, g_RIGHT := ⟨_, .int (1), PySem.W.mg_of X G y2, ⟨_, rfl⟩, fun _ => rv_int⟩ }
  refine ⟨PySem.W.fnOf "law" "law" (defArgs s_law) (defBody s_law) (defScope s_law) .none kV21 dc21 pm21 an21 cd21 ct21, fun s v => .of_eq rfl, fun base _ _ => ?_⟩
  exact fnM (k := 3) (N := ["_law_script", "_law_k", "_law_from", "_law_many", "_law_here", "_law_begun", "_law_way", "_law_falling", "_law_other", "_law_dear", "_law_due", "_law_word_here"]) (m := m_law) F21 sc_law len_law (fun cdv A outer s H E hr =>
 (iss_cons (is_for PassesOwn.never rfl (ii_range1 T.b_range (ie_callB (cm_max2 rfl) (by rfl) T.b_max PyProof.Rows.boot_max (ia_cons ie_int (ia_cons (ie_callB (cm_min2 rfl) (by rfl) T.b_min PyProof.Rows.boot_min (ia_cons ie_int (ia_cons (ie_callB cm_len (by rfl) T.b_len PySem.boot_len (ia_cons (ie_var 0) ia_nil)) ia_nil))) ia_nil)))) (ig_name 1 sc_law.nd)
 (iss_cons (is_set 2 sc_law.nd (ie_call (ok_law_hand T) (hr.mono (by omega)) T.f_law_hand.m T.f_law_hand.F.kp T.f_law_hand.b (ia_cons (ie_var 0) (ia_cons (ie_var 1) ia_nil))))
 (iss_cons (is_set 3 sc_law.nd (ie_call (ok_law_size T) (hr.mono (by omega)) T.f_law_size.m T.f_law_size.F.kp T.f_law_size.b (ia_cons (ie_var 2) ia_nil)))
 (iss_cons (is_set 4 sc_law.nd (ie_call (ok_law_ring T) (hr.mono (by omega)) T.f_law_ring.m T.f_law_ring.F.kp T.f_law_ring.b (ia_cons (ie_var 2) (ia_cons (ie_var 3) ia_nil))))
 (iss_cons (is_set 5 sc_law.nd (ie_call (ok_law_some T) (hr.mono (by omega)) T.f_law_some.m T.f_law_some.F.kp T.f_law_some.b (ia_cons (ie_var 2) (ia_cons (ie_var 3) ia_nil))))
 (iss_cons (is_for PassesOwn.never rfl (ii_iter (ie_tup (ia_cons ie_str (ia_cons ie_str (ia_cons ie_str (ia_cons ie_str ia_nil)))))) (ig_name 6 sc_law.nd)
 (iss_cons (is_set 10 sc_law.nd (ie_call (ok_law_bound T) (hr.mono (by omega)) T.f_law_bound.m T.f_law_bound.F.kp T.f_law_bound.b (ia_cons (ie_var 6) (ia_cons (ie_var 3) ia_nil))))
 (iss_cons (is_set 11 sc_law.nd (ie_ifE (it_cmp (om_ne hr.units) (ie_var 6) ie_str (nomark _)) (ie_var 4) (ie_call (ok_law_word T) (hr.mono (by omega)) T.f_law_word.m T.f_law_word.F.kp T.f_law_word.b (ia_cons (ie_var 2) (ia_cons (ie_var 3) ia_nil)))))
 (iss_cons (is_if (it_not (it_val (ie_call (ok_law_is T) (hr.mono (by omega)) T.f_law_is.m T.f_law_is.F.kp T.f_law_is.b (ia_cons (ie_call (ok_bound T) (hr.mono (by omega)) T.f_bound.m T.f_bound.F.kp T.f_bound.b (ia_cons (ie_var 6) (ia_cons (ie_var 3) ia_nil))) (ia_cons (ie_var 10) ia_nil)))))
 (iss_one (is_ret ie_bl))
 iss_nil)
 (iss_one (is_if (it_cmp om_gtI (ie_call (ok_told_letters T) (hr.mono (by omega)) T.f_told_letters.m T.f_told_letters.F.kp T.f_told_letters.b (ia_cons (ie_var 6) (ia_cons (ie_var 11) (ia_cons (ie_var 5) ia_nil)))) (ie_var 10) (nomark _))
 (iss_one (is_ret ie_bl))
 iss_nil))))))
 (iss_cons (is_set 7 sc_law.nd (ie_callTy cm_tuple (by rfl) T.b_tuple PyProof.Rows.boot_tuple (ia_cons (ie_sortRev T.b_sorted (ie_var 4)) ia_nil)))
 (iss_cons (is_if (it_cmp (om_ne hr.units) (ie_call (ok_told_letters T) (hr.mono (by omega)) T.f_told_letters.m T.f_told_letters.F.kp T.f_told_letters.b (ia_cons ie_str (ia_cons (ie_var 7) (ia_cons (ie_tupR1 T.b_tuple T.b_range (ie_var 3)) ia_nil)))) (ie_call (ok_bound T) (hr.mono (by omega)) T.f_bound.m T.f_bound.F.kp T.f_bound.b (ia_cons ie_str (ia_cons (ie_var 3) ia_nil))) (nomark _))
 (iss_one (is_ret ie_bl))
 iss_nil)
 (iss_cons (is_set 8 sc_law.nd (ie_op om_add ie_int (ie_call (ok_law_take T) (hr.mono (by omega)) T.f_law_take.m T.f_law_take.F.kp T.f_law_take.b (ia_cons (ie_var 2) (ia_cons ie_int ia_nil)))))
 (iss_cons (is_for PassesOwn.never rfl (ii_iter (ie_tup (ia_cons ie_str (ia_cons ie_str (ia_cons ie_str (ia_cons ie_str ia_nil)))))) (ig_name 6 sc_law.nd)
 (iss_one (is_if (it_not (it_val (ie_call (ok_law_is T) (hr.mono (by omega)) T.f_law_is.m T.f_law_is.F.kp T.f_law_is.b (ia_cons (ie_call (ok_bound T) (hr.mono (by omega)) T.f_bound.m T.f_bound.F.kp T.f_bound.b (ia_cons (ie_var 6) (ia_cons (ie_var 8) ia_nil))) (ia_cons (ie_call (ok_law_bound T) (hr.mono (by omega)) T.f_law_bound.m T.f_law_bound.F.kp T.f_law_bound.b (ia_cons (ie_var 6) (ia_cons (ie_var 8) ia_nil))) ia_nil)))))
 (iss_one (is_ret ie_bl))
 iss_nil)))
 (iss_cons (is_set 9 sc_law.nd (ie_call (ok_law_from_behind T) (hr.mono (by omega)) T.f_law_from_behind.m T.f_law_from_behind.F.kp T.f_law_from_behind.b (ia_cons (ie_call (ok_law_take T) (hr.mono (by omega)) T.f_law_take.m T.f_law_take.F.kp T.f_law_take.b (ia_cons (ie_var 2) (ia_cons ie_int ia_nil))) ia_nil)))
 (iss_one (is_if (it_cmp om_gtI (ie_call (ok_told_letters T) (hr.mono (by omega)) T.f_told_letters.m T.f_told_letters.F.kp T.f_told_letters.b (ia_cons ie_str (ia_cons (ie_var 9) (ia_cons (ie_tupR1 T.b_tuple T.b_range (ie_callB cm_len (by rfl) T.b_len PySem.boot_len (ia_cons (ie_var 9) ia_nil))) ia_nil)))) (ie_call (ok_bound T) (hr.mono (by omega)) T.f_bound.m T.f_bound.F.kp T.f_bound.b (ia_cons ie_str (ia_cons (ie_callB cm_len (by rfl) T.b_len PySem.boot_len (ia_cons (ie_var 9) ia_nil)) ia_nil))) (nomark _))
 (iss_one (is_ret ie_bl))
 iss_nil)))))))))))))
 (iss_one (is_ret ie_bl))))
    p_law
end Law
end M

open PySem PySem.W PyProof.Rows in
set_option maxRecDepth 100000 in
set_option maxHeartbeats 0 in
theorem PySem.Challenge.cw_ringchief_k39_bounds_holds : PySem.Challenge.rw_ringchief_k39_bounds.Holds := by
  w_on; o_law; k_head; (case hw => w_witness2)
  k_fill
  refine L2.walk_ofB (l := PySem.Challenge.rw_ringchief_k39_bounds) (n := 63) (k := 4) (x := "_law_script") (CX := fun _ => L2.CX0) (sp := fun w => M.liftSp _ M.Law.c_law) rfl (by decide) rfl ⟨rfl, by decide, by decide⟩ (fun w h Y => PySem.W.kIn_of Y) ?F (fun _ H a ns hl hb hO hS => M.start_law hl hb hO hS (M.Law.law_start ns hl hb)) (fun _ _ _ _ _ h => h)
  case F =>
    intro w mg fa h KX G hmg
    refine' M.Law.all_mk KX G hmg ?a1 ?l1 ?c1 ?k1 ?a2 ?l2 ?c2 ?k2 ?a3 ?l3 ?c3 ?k3 ?a4 ?l4 ?c4 ?k4 ?a5 ?l5 ?c5 ?k5 ?a6 ?l6 ?c6 ?k6 ?a7 ?l7 ?c7 ?k7 ?a8 ?l8 ?c8 ?k8 ?a9 ?l9 ?c9 ?k9 ?a10 ?l10 ?c10 ?k10 ?a11 ?l11 ?c11 ?k11 ?a12 ?l12 ?c12 ?k12 ?a13 ?l13 ?c13 ?k13 ?a14 ?l14 ?c14 ?k14 ?a15 ?l15 ?c15 ?k15 ?a16 ?l16 ?c16 ?k16 ?a17 ?l17 ?c17 ?k17 ?a18 ?l18 ?c18 ?k18 ?a19 ?l19 ?c19 ?k19 ?a20 ?l20 ?c20 ?k20 ?a21 ?l21 ?c21 ?k21 ?z1 ?z2 ?z3 ?z4 ?z5 ?z6 ?z7 ?z8 ?z9 ?z10 ?z11 ?y1 ?y2
    (case a1 => k_is)
    (case l1 => k_is)
    (case c1 => k_is)
    (case k1 => k_is)
    (case a2 => k_is)
    (case l2 => k_is)
    (case c2 => k_is)
    (case k2 => k_is)
    (case a3 => k_is)
    (case l3 => k_is)
    (case c3 => k_is)
    (case k3 => k_is)
    (case a4 => k_is)
    (case l4 => k_is)
    (case c4 => k_is)
    (case k4 => k_is)
    (case a5 => k_is)
    (case l5 => k_is)
    (case c5 => k_is)
    (case k5 => k_is)
    (case a6 => k_is)
    (case l6 => k_is)
    (case c6 => k_is)
    (case k6 => k_is)
    (case a7 => k_is)
    (case l7 => k_is)
    (case c7 => k_is)
    (case k7 => k_is)
    (case a8 => k_is)
    (case l8 => k_is)
    (case c8 => k_is)
    (case k8 => k_is)
    (case a9 => k_is)
    (case l9 => k_is)
    (case c9 => k_is)
    (case k9 => k_is)
    (case a10 => k_is)
    (case l10 => k_is)
    (case c10 => k_is)
    (case k10 => k_is)
    (case a11 => k_is)
    (case l11 => k_is)
    (case c11 => k_is)
    (case k11 => k_is)
    (case a12 => k_is)
    (case l12 => k_is)
    (case c12 => k_is)
    (case k12 => k_is)
    (case a13 => k_is)
    (case l13 => k_is)
    (case c13 => k_is)
    (case k13 => k_is)
    (case a14 => k_is)
    (case l14 => k_is)
    (case c14 => k_is)
    (case k14 => k_is)
    (case a15 => k_is)
    (case l15 => k_is)
    (case c15 => k_is)
    (case k15 => k_is)
    (case a16 => k_is)
    (case l16 => k_is)
    (case c16 => k_is)
    (case k16 => k_is)
    (case a17 => k_is)
    (case l17 => k_is)
    (case c17 => k_is)
    (case k17 => k_is)
    (case a18 => k_is)
    (case l18 => k_is)
    (case c18 => k_is)
    (case k18 => k_is)
    (case a19 => k_is)
    (case l19 => k_is)
    (case c19 => k_is)
    (case k19 => k_is)
    (case a20 => k_is)
    (case l20 => k_is)
    (case c20 => k_is)
    (case k20 => k_is)
    (case a21 => k_is)
    (case l21 => k_is)
    (case c21 => k_is)
    (case k21 => k_is)
    (case z1 => k_is)
    (case z2 => k_is)
    (case z3 => k_is)
    (case z4 => k_is)
    (case z5 => k_is)
    (case z6 => k_is)
    (case z7 => k_is)
    (case z8 => k_is)
    (case z9 => k_is)
    (case z10 => k_is)
    (case z11 => k_is)
    (case y1 => k_is)
    (case y2 => k_is)
