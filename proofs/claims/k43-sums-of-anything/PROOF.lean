import PyProof.Rows.All
import Wide.All
import OpenK.AllK
import Wide.FinOn
import HandS.ForMost
import HandS.Exc
import HandS.EndBits
import HandS.WideBits
import HandS.TupAny
import HandS.TupMul
import HandS.TupLe
import HandS.Zip
import KE.GoesEnum
import HandS.Style
import HandS.IsInst
import HandS.SortInts
import HandS.NoneIn
import HandS.Conv
import HandS.More
import KE.Datum
import PyProof.WalkInts
import PyProof.WalksMore
import KE.DataMinMax
import KE.SortData
import KE.DataCmp
import PyProof.Rows.TupDisplay
import HandS.DictTup
import KE.KItemsList
import PyProof.ZipIter
import PyProof.ListNew
import PySem.Challenge.RW_ringchief_k43_sums_of_anything
set_option Elab.async false
set_option linter.all false
set_option maxRecDepth 100000
set_option maxHeartbeats 4000000
namespace M
open PySem L2
/-! ### data: tuples are values -/
inductive D where
  | non | bl (b : Bool) | int (i : Int) | str (x : Str) | tup (xs : List D) | rl (xs : List D) | ref (a : Addr)
inductive MO where
  | lst (xs : List D) | dK (kvs : List (Key × D)) | dT (kvs : List (List Key × D)) | fT (kvs : List (List Key × D)) (ws : List (List Key × V)) (od : Obj)
abbrev MH := Addr → Option MO
def up (h : MH) (a : Addr) (o : MO) : MH := fun b => if b = a then some o else h b
theorem up_same {h : MH} {a : Addr} {o : MO} : up h a o a = some o := by unfold up; rw [if_pos rfl]
theorem up_ne {h : MH} {a b : Addr} {o : MO} (n : b ≠ a) : up h a o b = h b := by unfold up; rw [if_neg n]
theorem up_up {h : MH} {a : Addr} {o u : MO} : up (up h a o) a u = up h a u := by
  funext b; unfold up; split <;> rfl
theorem ne_of {h : MH} {a b : Addr} {o : MO} (e : h a = some o) (n : h b = none) : a ≠ b := by
  intro q; subst q; rw [e] at n; cases n

/-- an immutable list of the heap -/
def SqI (K : PySem.W.Frag) (H : Hp) (a : Addr) (xs : List V) : Prop :=
  (∃ o, H a = some (.frz o (.lst xs))) ∨
    ∃ (o : Obj) (its : Array Value) (n : Nat), K.lookup a = some o ∧ o.cls = .type "list" ∧ o.dict = none ∧ o.data = .seq its n ∧ its.size ≤ sizeLine ∧ Vals xs its.toList
theorem SqI.l {K : PySem.W.Frag} {H : Hp} {a : Addr} {xs : List V} (h : SqI K H a xs) : SqL K H a xs := by
  rcases h with ⟨o, h⟩ | h
  · exact .inl (.inr ⟨o, h⟩)
  · exact .inr h
mutual
def RV (K : PySem.W.Frag) (H : Hp) : D → V → Prop
  | .non, v => v = .non
  | .bl b, v => v = .bl b
  | .int i, v => v = .int i
  | .str x, v => v = .str x
  | .tup ds, v => ∃ a vs, v = .ref a ∧ SqT K H a vs ∧ RVs K H ds vs
  | .rl ds, v => ∃ a vs, v = .ref a ∧ SqI K H a vs ∧ RVs K H ds vs
  | .ref a, v => v = .ref a
def RVs (K : PySem.W.Frag) (H : Hp) : List D → List V → Prop
  | [], vs => vs = []
  | d :: ds, vs => ∃ v r, vs = v :: r ∧ RV K H d v ∧ RVs K H ds r
end
/-- immutable things stay -/
def TL (H H' : Hp) : Prop := (∀ a xs, H a = some (.tup xs) → H' a = some (.tup xs)) ∧ ∀ a o u, H a = some (.frz o u) → (∀ ws, u ≠ .dT ws) → H' a = some (.frz o u)
theorem TL.refl (H : Hp) : TL H H := ⟨fun _ _ h => h, fun _ _ _ h _ => h⟩
theorem TL.trans {H H1 H2 : Hp} (a : TL H H1) (b : TL H1 H2) : TL H H2 := ⟨fun c xs h => b.1 c xs (a.1 c xs h), fun c o u h n => b.2 c o u (a.2 c o u h n) n⟩
theorem TL.new {H : Hp} {p : Addr} {o : HO} (n : H p = none) : TL H (upd H p o) :=
  ⟨fun a xs h => by rw [upd_ne (L2.ne_of_none h n)]; exact h, fun a o' u h _ => by rw [upd_ne (L2.ne_of_none h n)]; exact h⟩
/-- a store at what is neither a tuple nor locked -/
theorem TL.put {H : Hp} {p : Addr} {o u : HO} (n : H p = some u) (h1 : ∀ xs, u ≠ .tup xs) (h2 : ∀ a b, u ≠ .frz a b) : TL H (upd H p o) := by
  refine ⟨fun a xs h => ?_, fun a o' w h _ => ?_⟩
  · rw [upd_ne (fun e => ?_)]
    · exact h
    · subst e; rw [n] at h; cases h; exact h1 xs rfl
  · rw [upd_ne (fun e => ?_)]
    · exact h
    · subst e; rw [n] at h; cases h; exact h2 _ _ rfl
section
variable {K : PySem.W.Frag} {H H' : Hp}
theorem sqT_mono (t : TL H H') {a : Addr} {vs : List V} (h : SqT K H a vs) : SqT K H' a vs := by
  rcases h with (h | ⟨o, h⟩) | h
  · exact .inl (.inl (t.1 a vs h))
  · exact .inl (.inr ⟨o, t.2 a o _ h fun _ z => by cases z⟩)
  · exact .inr h
theorem sqI_mono (t : TL H H') {a : Addr} {vs : List V} (h : SqI K H a vs) : SqI K H' a vs := by
  rcases h with ⟨o, h⟩ | h
  · exact .inl ⟨o, t.2 a o _ h fun _ z => by cases z⟩
  · exact .inr h
mutual
theorem RV.mono (t : TL H H') : ∀ {d : D} {v : V}, RV K H d v → RV K H' d v
  | .non, _, h => by simpa only [RV] using h
  | .bl _, _, h => by simpa only [RV] using h
  | .int _, _, h => by simpa only [RV] using h
  | .str _, _, h => by simpa only [RV] using h
  | .ref _, _, h => by simpa only [RV] using h
  | .tup _, _, h => by
    simp only [RV] at h ⊢
    obtain ⟨a, vs, e, q, r⟩ := h
    exact ⟨a, vs, e, sqT_mono t q, RVs.mono t r⟩
  | .rl _, _, h => by
    simp only [RV] at h ⊢
    obtain ⟨a, vs, e, q, r⟩ := h
    exact ⟨a, vs, e, sqI_mono t q, RVs.mono t r⟩
theorem RVs.mono (t : TL H H') : ∀ {ds : List D} {vs : List V}, RVs K H ds vs → RVs K H' ds vs
  | [], _, h => by simpa only [RVs] using h
  | d :: ds, _, h => by
    simp only [RVs] at h ⊢
    obtain ⟨v, r, e, q, s⟩ := h
    exact ⟨v, r, e, RV.mono t q, RVs.mono t s⟩
end
theorem rv_int {i : Int} : RV K H (.int i) (.int i) := by simp only [RV]
theorem rv_bl {i : Bool} : RV K H (.bl i) (.bl i) := by simp only [RV]
theorem rv_str {i : Str} : RV K H (.str i) (.str i) := by simp only [RV]
theorem rv_non : RV K H .non .non := by simp only [RV]
theorem rv_ref {a : Addr} : RV K H (.ref a) (.ref a) := by simp only [RV]
theorem rv_tup {ds : List D} {a : Addr} {vs : List V} (h : SqT K H a vs) (r : RVs K H ds vs) : RV K H (.tup ds) (.ref a) := by
  simp only [RV]; exact ⟨a, vs, rfl, h, r⟩
theorem RV.tup {ds : List D} {v : V} (h : RV K H (.tup ds) v) : ∃ a vs, v = .ref a ∧ SqT K H a vs ∧ RVs K H ds vs := by simpa only [RV] using h
theorem RV.rl {ds : List D} {v : V} (h : RV K H (.rl ds) v) : ∃ a vs, v = .ref a ∧ SqI K H a vs ∧ RVs K H ds vs := by simpa only [RV] using h
theorem RV.int {i : Int} {v : V} (h : RV K H (.int i) v) : v = .int i := by simpa only [RV] using h
theorem RV.bl {i : Bool} {v : V} (h : RV K H (.bl i) v) : v = .bl i := by simpa only [RV] using h
theorem RV.str {i : Str} {v : V} (h : RV K H (.str i) v) : v = .str i := by simpa only [RV] using h
theorem RV.non {v : V} (h : RV K H .non v) : v = .non := by simpa only [RV] using h
theorem RV.ref {a : Addr} {v : V} (h : RV K H (.ref a) v) : v = .ref a := by simpa only [RV] using h
theorem RVs.nil : RVs K H [] [] := by simp only [RVs]
theorem RVs.cons {d : D} {v : V} {ds : List D} {vs : List V} (h : RV K H d v) (r : RVs K H ds vs) : RVs K H (d :: ds) (v :: vs) := by
  simp only [RVs]; exact ⟨v, vs, rfl, h, r⟩
theorem RVs.inv {d : D} {ds : List D} {vs : List V} (h : RVs K H (d :: ds) vs) : ∃ v r, vs = v :: r ∧ RV K H d v ∧ RVs K H ds r := by simpa only [RVs] using h
theorem RVs.inv0 {vs : List V} (h : RVs K H [] vs) : vs = [] := by simpa only [RVs] using h
theorem RVs.length : ∀ {ds : List D} {vs : List V}, RVs K H ds vs → ds.length = vs.length
  | [], _, h => by rw [h.inv0] <;> rfl
  | d :: ds, _, h => by
    obtain ⟨v, r, rfl, _, s⟩ := h.inv
    simp [s.length]
theorem RVs.get : ∀ {ds : List D} {vs : List V} {i : Nat} {d : D}, RVs K H ds vs → ds[i]? = some d → ∃ v, vs[i]? = some v ∧ RV K H d v
  | [], _, _, _, _, e => by simp at e
  | x :: ds, _, 0, d, h, e => by
    obtain ⟨v, r, rfl, q, _⟩ := h.inv
    simp at e; subst e
    exact ⟨v, by simp, q⟩
  | x :: ds, _, i + 1, d, h, e => by
    obtain ⟨v, r, rfl, _, s⟩ := h.inv
    obtain ⟨w, e1, q⟩ := s.get (by simpa using e)
    exact ⟨w, by simpa using e1, q⟩
theorem RVs.get' {ds : List D} {vs : List V} {i : Nat} {v : V} (h : RVs K H ds vs) (e : vs[i]? = some v) : ∃ d, ds[i]? = some d ∧ RV K H d v := by
  have hl := h.length
  have hi : i < ds.length := by rw [hl]; exact (List.getElem?_eq_some_iff.mp e).1
  obtain ⟨w, e1, q⟩ := h.get (List.getElem?_eq_getElem hi)
  rw [e] at e1
  cases e1
  exact ⟨_, List.getElem?_eq_getElem hi, q⟩
theorem RVs.append : ∀ {ds es : List D} {vs ws : List V}, RVs K H ds vs → RVs K H es ws → RVs K H (ds ++ es) (vs ++ ws)
  | [], _, _, _, h, s => by rw [h.inv0]; exact s
  | d :: ds, _, _, _, h, s => by
    obtain ⟨v, r, rfl, q, t⟩ := h.inv
    exact .cons q (t.append s)
theorem RVs.take : ∀ {ds : List D} {vs : List V} (n : Nat), RVs K H ds vs → RVs K H (ds.take n) (vs.take n)
  | _, _, 0, _ => by simp only [List.take_zero]; exact .nil
  | [], _, n + 1, h => by rw [h.inv0]; exact .nil
  | d :: ds, _, n + 1, h => by
    obtain ⟨v, r, rfl, q, t⟩ := h.inv
    exact .cons q (t.take n)
theorem RVs.drop : ∀ {ds : List D} {vs : List V} (n : Nat), RVs K H ds vs → RVs K H (ds.drop n) (vs.drop n)
  | _, _, 0, h => h
  | [], _, n + 1, h => by rw [h.inv0]; exact .nil
  | d :: ds, _, n + 1, h => by
    obtain ⟨v, r, rfl, q, t⟩ := h.inv
    exact t.drop n
theorem RVs.set : ∀ {ds : List D} {vs : List V} {d : D} {v : V} (i : Nat), RVs K H ds vs → RV K H d v → RVs K H (ds.set i d) (vs.set i v)
  | [], _, _, _, _, h, _ => by rw [h.inv0]; exact .nil
  | x :: ds, _, d, w, 0, h, q => by
    obtain ⟨v, r, rfl, _, t⟩ := h.inv
    exact .cons q t
  | x :: ds, _, d, w, i + 1, h, q => by
    obtain ⟨v, r, rfl, p, t⟩ := h.inv
    exact .cons p (t.set i q)
theorem RVs.ints : ∀ {ns : List Int} {vs : List V}, RVs K H (ns.map D.int) vs → vs = ns.map V.int
  | [], _, h => h.inv0
  | n :: ns, _, h => by
    obtain ⟨v, r, rfl, q, t⟩ := h.inv
    rw [q.int, t.ints]; rfl
theorem RVs.of_ints : ∀ {ns : List Int}, RVs K H (ns.map D.int) (ns.map V.int)
  | [] => .nil
  | n :: ns => .cons rv_int .of_ints
theorem RVs.bls : ∀ {ns : List Bool} {vs : List V}, RVs K H (ns.map D.bl) vs → vs = ns.map V.bl
  | [], _, h => h.inv0
  | n :: ns, _, h => by
    obtain ⟨v, r, rfl, q, t⟩ := h.inv
    rw [q.bl, t.bls]; rfl
theorem RVs.strs : ∀ {ns : List Str} {vs : List V}, RVs K H (ns.map D.str) vs → vs = ns.map V.str
  | [], _, h => h.inv0
  | n :: ns, _, h => by
    obtain ⟨v, r, rfl, q, t⟩ := h.inv
    rw [q.str, t.strs]; rfl
theorem RVs.of_strs : ∀ {ns : List Str}, RVs K H (ns.map D.str) (ns.map V.str)
  | [] => .nil
  | n :: ns => .cons rv_str .of_strs
end
/-- entries -/
def RKV {κ : Type} (K : PySem.W.Frag) (H : Hp) (kvs : List (κ × D)) (ws : List (κ × V)) : Prop := kvs.map (·.1) = ws.map (·.1) ∧ RVs K H (kvs.map (·.2)) (ws.map (·.2))
theorem RKV.mono {κ : Type} {K : PySem.W.Frag} {H H' : Hp} (t : TL H H') {kvs : List (κ × D)} {ws : List (κ × V)} (h : RKV K H kvs ws) : RKV K H' kvs ws := ⟨h.1, h.2.mono t⟩
def RO (K : PySem.W.Frag) (H : Hp) : MO → HO → Prop
  | .lst ds, o => ∃ vs, o = .lst vs ∧ RVs K H ds vs
  | .dK kvs, o => ∃ ws, o = .dK ws ∧ RKV K H kvs ws
  | .dT kvs, o => ∃ ws, o = .dT ws ∧ RKV K H kvs ws
  | .fT kvs ws od, o => o = .frz od (.dT ws) ∧ RKV K H kvs ws
theorem RO.mono {K : PySem.W.Frag} {H H' : Hp} (t : TL H H') : ∀ {m : MO} {o : HO}, RO K H m o → RO K H' m o
  | .lst _, _, ⟨vs, e, r⟩ => ⟨vs, e, r.mono t⟩
  | .dK _, _, ⟨vs, e, r⟩ => ⟨vs, e, r.mono t⟩
  | .dT _, _, ⟨vs, e, r⟩ => ⟨vs, e, r.mono t⟩
  | .fT _ _ _, _, ⟨e, r⟩ => ⟨e, r.mono t⟩
def HR (K : PySem.W.Frag) (h : MH) (H : Hp) : Prop := ∀ a o, h a = some o → ∃ u, H a = some u ∧ RO K H o u
section
variable {K : PySem.W.Frag} {h : MH} {H H' : Hp}
theorem HR.free (r : HR K h H) {p : Addr} (n : H p = none) : h p = none := by
  cases e : h p with
  | none => rfl
  | some o =>
    obtain ⟨u, e1, _⟩ := r p o e
    rw [n] at e1; cases e1
theorem HR.lst (r : HR K h H) {a : Addr} {ds : List D} (e : h a = some (.lst ds)) : ∃ vs, H a = some (.lst vs) ∧ RVs K H ds vs := by
  obtain ⟨u, e1, vs, rfl, q⟩ := r a _ e
  exact ⟨vs, e1, q⟩
theorem HR.dK (r : HR K h H) {a : Addr} {ds : List (Key × D)} (e : h a = some (.dK ds)) : ∃ vs, H a = some (.dK vs) ∧ RKV K H ds vs := by
  obtain ⟨u, e1, vs, rfl, q⟩ := r a _ e
  exact ⟨vs, e1, q⟩
theorem HR.dT (r : HR K h H) {a : Addr} {ds : List (List Key × D)} (e : h a = some (.dT ds)) : ∃ vs, H a = some (.dT vs) ∧ RKV K H ds vs := by
  obtain ⟨u, e1, vs, rfl, q⟩ := r a _ e
  exact ⟨vs, e1, q⟩
theorem HR.fT (r : HR K h H) {a : Addr} {ds : List (List Key × D)} {ws : List (List Key × V)} {od : Obj} (e : h a = some (.fT ds ws od)) : H a = some (.frz od (.dT ws)) ∧ RKV K H ds ws := by
  obtain ⟨u, e1, rfl, q⟩ := r a _ e
  exact ⟨e1, q⟩
/-- locked, let go -/
theorem TL.lock {H : Hp} {p : Addr} {ws : List (List Key × V)} {o : Obj} (n : H p = some (.dT ws)) : TL H (upd H p (.frz o (.dT ws))) := by
  refine ⟨fun a xs h => ?_, fun a o' w h _ => ?_⟩
  · rw [upd_ne (fun e => by subst e; rw [n] at h; cases h)]; exact h
  · rw [upd_ne (fun e => by subst e; rw [n] at h; cases h)]; exact h
theorem TL.unlock {H : Hp} {p : Addr} {ws : List (List Key × V)} {o : Obj} (n : H p = some (.frz o (.dT ws))) : TL H (upd H p (.dT ws)) := by
  refine ⟨fun a xs h => ?_, fun a o' w h nw => ?_⟩
  · rw [upd_ne (fun e => by subst e; rw [n] at h; cases h)]; exact h
  · rw [upd_ne (fun e => by subst e; rw [n] at h; cases h; exact nw _ rfl)]; exact h
/-- a new thing of L2 that h does not see (a tuple) -/
theorem HR.skip (r : HR K h H) {p : Addr} {o : HO} (n : H p = none) : HR K h (upd H p o) := fun a m e => by
  obtain ⟨u, e1, q⟩ := r a m e
  exact ⟨u, by rw [upd_ne (L2.ne_of_none e1 n)]; exact e1, q.mono (.new n)⟩
theorem HR.put (r : HR K h H) {p : Addr} {m : MO} {o : HO} (t : TL H (upd H p o)) (q : RO K (upd H p o) m o) : HR K (up h p m) (upd H p o) := fun a n e => by
  by_cases c : a = p
  · subst c
    rw [up_same] at e
    cases e
    exact ⟨o, upd_same, q⟩
  · rw [up_ne c] at e
    obtain ⟨u, e1, q1⟩ := r a n e
    exact ⟨u, by rw [upd_ne c]; exact e1, q1.mono t⟩
theorem HR.new (r : HR K h H) {p : Addr} {m : MO} {o : HO} (n : H p = none) (q : RO K H m o) : HR K (up h p m) (upd H p o) := r.put (.new n) (q.mono (.new n))
end
/-! ### environments -/
abbrev ME := List (Option D)
def REnv (K : PySem.W.Frag) (Hb H : Hp) (env : ME) (σ : L2.St) : Prop := TL Hb H ∧ env.length = σ.length ∧ ∀ (i : Nat) (d : D), env[i]? = some (some d) → ∃ v, σ[i]? = some (some v) ∧ RV K H d v
theorem REnv.mono {K : PySem.W.Frag} {Hb H H' : Hp} {env : ME} {σ : L2.St} (t : TL H H') (r : REnv K Hb H env σ) : REnv K Hb H' env σ :=
  ⟨r.1.trans t, r.2.1, fun i d e => let ⟨v, e1, q⟩ := r.2.2 i d e; ⟨v, e1, q.mono t⟩⟩
theorem REnv.set {K : PySem.W.Frag} {Hb H : Hp} {env : ME} {σ : L2.St} {d : D} {v : V} (r : REnv K Hb H env σ) (i : Nat) (q : RV K H d v) : REnv K Hb H (env.set i (some d)) (σ.set i (some v)) := by
  refine ⟨r.1, by rw [List.length_set, List.length_set]; exact r.2.1, fun j d' e => ?_⟩
  by_cases c : i = j
  · subst c
    by_cases hl : i < env.length
    · rw [List.getElem?_set_self hl] at e
      cases e
      exact ⟨v, List.getElem?_set_self (by rw [← r.2.1]; exact hl), q⟩
    · rw [List.getElem?_eq_none (by rw [List.length_set]; omega)] at e
      cases e
  · rw [List.getElem?_set_ne c] at e ⊢
    exact r.2.2 j d' e
/-! ### lifting -/
abbrev MQ := D → MH → Prop
abbrev MTE := ME → MH → MQ → Prop
abbrev MTT := ME → MH → (Bool → MH → Prop) → Prop
abbrev MTA := ME → MH → (List D → MH → Prop) → Prop
def lift (K : PySem.W.Frag) (Hb : Hp) (m : MTE) : TE := fun σ H Q => ∃ env h, ∃ Q0 : MQ, REnv K Hb H env σ ∧ HR K h H ∧ m env h Q0 ∧ ∀ d h', Q0 d h' → ∀ v H', TL H H' → HR K h' H' → RV K H' d v → Q v H'
def liftT (K : PySem.W.Frag) (Hb : Hp) (m : MTT) : TT := fun σ H Q => ∃ env h, ∃ Q0 : Bool → MH → Prop, REnv K Hb H env σ ∧ HR K h H ∧ m env h Q0 ∧ ∀ d h', Q0 d h' → ∀ H', TL H H' → HR K h' H' → Q d H'
def liftA (K : PySem.W.Frag) (Hb : Hp) (m : MTA) : TA := fun σ H Q => ∃ env h, ∃ Q0 : List D → MH → Prop, REnv K Hb H env σ ∧ HR K h H ∧ m env h Q0 ∧ ∀ ds h', Q0 ds h' → ∀ vs H', TL H H' → HR K h' H' → RVs K H' ds vs → Q vs H'
structure MEnds where
  nx : ME → MH → Prop
  rt : MQ
  bk : ME → MH → Prop := fun _ _ => False
  ct : ME → MH → Prop := fun _ _ => False
abbrev MTS := MEnds → ME → MH → Prop
def liftS (K : PySem.W.Frag) (Hb : Hp) (m : MTS) : TS := fun D' σ H => ∃ env h, ∃ D0 : MEnds, REnv K Hb H env σ ∧ HR K h H ∧ m D0 env h ∧
  (∀ env' h', D0.nx env' h' → ∀ σ' H', TL H H' → REnv K Hb H' env' σ' → HR K h' H' → D'.nx σ' H') ∧
  (∀ d h', D0.rt d h' → ∀ v H', TL H H' → RV K H' d v → HR K h' H' → D'.rt v H') ∧
  (∀ env' h', D0.bk env' h' → ∀ σ' H', TL H H' → REnv K Hb H' env' σ' → HR K h' H' → D'.bk σ' H') ∧
  (∀ env' h', D0.ct env' h' → ∀ σ' H', TL H H' → REnv K Hb H' env' σ' → HR K h' H' → D'.ct σ' H')
/-- the judgements -/
def IE (X : Cx) (Hb : Hp) (e : Expr) (m : MTE) : Prop := PE X e (lift X.K Hb m)
def IT (X : Cx) (Hb : Hp) (e : Expr) (m : MTT) : Prop := PT X e (liftT X.K Hb m)
def IW (X : Cx) (Hb : Hp) (e : Expr) (m : MTT) : Prop := PW X e (liftT X.K Hb m)
def IA (X : Cx) (Hb : Hp) (es : List Expr) (m : MTA) : Prop := PA X es (liftA X.K Hb m)
def IS (X : Cx) (Hb : Hp) (s : Stmt) (m : MTS) : Prop := PS X s (liftS X.K Hb m)
def ISs (X : Cx) (Hb : Hp) (s : List Stmt) (m : MTS) : Prop := PSs X s (liftS X.K Hb m)
theorem pe_w {X : Cx} {e : Expr} {t t' : TE} (h : PE X e t) (w : ∀ σ H Q, t' σ H Q → t σ H Q) : PE X e t' := ⟨fun pins s σ H Q I q => h.run pins s σ H Q I (w σ H Q q)⟩
theorem pt_w {X : Cx} {e : Expr} {t t' : TT} (h : PT X e t) (w : ∀ σ H Q, t' σ H Q → t σ H Q) : PT X e t' := ⟨fun pins s σ H Q I q => h.run pins s σ H Q I (w σ H Q q)⟩
theorem pw_w {X : Cx} {e : Expr} {t t' : TT} (h : PW X e t) (w : ∀ σ H Q, t' σ H Q → t σ H Q) : PW X e t' := ⟨fun wh pins s σ H Q I q => h.run wh pins s σ H Q I (w σ H Q q)⟩
theorem pa_w {X : Cx} {e : List Expr} {t t' : TA} (h : PA X e t) (w : ∀ σ H Q, t' σ H Q → t σ H Q) : PA X e t' := ⟨fun pos pins s σ H Q I q => h.run pos pins s σ H Q I (w σ H Q q)⟩
theorem ps_w {X : Cx} {e : Stmt} {t t' : TS} (h : PS X e t) (w : ∀ D' σ H, t' D' σ H → t D' σ H) : PS X e t' := ⟨fun pins s σ H D' I q => h.run pins s σ H D' I (w D' σ H q)⟩
theorem pss_w {X : Cx} {e : List Stmt} {t t' : TS} (h : PSs X e t) (w : ∀ D' σ H, t' D' σ H → t D' σ H) : PSs X e t' := ⟨fun pins s σ H D' I q => h.run pins s σ H D' I (w D' σ H q)⟩
end M

namespace M
open PySem L2
/-! ### expressions -/
def Fin (K : PySem.W.Frag) (H : Hp) (Q0 : MQ) (Q : VK) : Prop := ∀ d h', Q0 d h' → ∀ v H', TL H H' → HR K h' H' → RV K H' d v → Q v H'
theorem Fin.mono {K : PySem.W.Frag} {H H' : Hp} {Q0 : MQ} {Q : VK} (t : TL H H') (f : Fin K H Q0 Q) : Fin K H' Q0 Q := fun d h' q v H2 t2 => f d h' q v H2 (t.trans t2)
abbrev MR1 := D → MH → MQ → Prop
abbrev MR2 := D → D → MH → MQ → Prop
abbrev MRA := List D → MH → MQ → Prop
def OpM (X : Cx) (f : Value → Value → Sem Value) (r : MR2) : Prop :=
  ∃ R : R2, OpR X f R ∧ ∀ (x y : D) (h : MH) (Q0 : MQ) (vx vy : V) (H : Hp) (Q : VK), r x y h Q0 → HR X.K h H → RV X.K H x vx → RV X.K H y vy → Fin X.K H Q0 Q → R vx vy H Q
def UnM (X : Cx) (f : Value → Sem Value) (r : MR1) : Prop :=
  ∃ R : V → Hp → VK → Prop, UnR X f R ∧ ∀ (x : D) (h : MH) (Q0 : MQ) (vx : V) (H : Hp) (Q : VK), r x h Q0 → HR X.K h H → RV X.K H x vx → Fin X.K H Q0 Q → R vx H Q
def IxM (X : Cx) (r : MR2) : Prop :=
  ∃ R : R2, IxR X R ∧ ∀ (x y : D) (h : MH) (Q0 : MQ) (vx vy : V) (H : Hp) (Q : VK), r x y h Q0 → HR X.K h H → RV X.K H x vx → RV X.K H y vy → Fin X.K H Q0 Q → R vx vy H Q
def CaM (X : Cx) (f : Value) (r : MRA) : Prop :=
  ∃ R : List V → Hp → VK → Prop, CallR X f R ∧ ∀ (xs : List D) (h : MH) (Q0 : MQ) (vs : List V) (H : Hp) (Q : VK), r xs h Q0 → HR X.K h H → RVs X.K H xs vs → Fin X.K H Q0 Q → R vs H Q
def mVar (i : Nat) : MTE := fun env h Q => ∃ d, env[i]? = some (some d) ∧ Q d h
def mC (d : D) : MTE := fun _ h Q => Q d h
def mOp (r : MR2) (a b : MTE) : MTE := fun env h Q => a env h fun x h1 => b env h1 fun y h2 => r x y h2 Q
def mUn (r : MR1) (a : MTE) : MTE := fun env h Q => a env h fun x h1 => r x h1 Q
def mNil : MTA := fun _ h Q => Q [] h
def mCons (a : MTE) (r : MTA) : MTA := fun env h Q => a env h fun x h1 => r env h1 fun xs h2 => Q (x :: xs) h2
def mTup (t : MTA) : MTE := fun env h Q => t env h fun xs h1 => xs.length ≤ sizeLine ∧ Q (.tup xs) h1
def mLst (t : MTA) : MTE := fun env h Q => t env h fun xs h1 => xs.length ≤ sizeLine ∧ ∀ p, h1 p = none → Q (.ref p) (up h1 p (.lst xs))
def mCa (r : MRA) (t : MTA) : MTE := fun env h Q => t env h fun xs h1 => r xs h1 Q
def mTest (a : MTE) : MTT := fun env h Q => a env h fun x h1 => ∃ b, x = .bl b ∧ Q b h1
def mAnd (a b : MTT) : MTT := fun env h Q => a env h fun c h1 => if c = true then b env h1 Q else Q false h1
def mOr (a b : MTT) : MTT := fun env h Q => a env h fun c h1 => if c = true then Q true h1 else b env h1 Q
def mNot (a : MTT) : MTT := fun env h Q => a env h fun c h1 => Q (!c) h1
def mAndV (a b : MTE) : MTE := fun env h Q => a env h fun x h1 => ∃ c, x = .bl c ∧ if c = true then b env h1 Q else Q (.bl false) h1
def mOrV (a b : MTE) : MTE := fun env h Q => a env h fun x h1 => ∃ c, x = .bl c ∧ if c = true then Q (.bl true) h1 else b env h1 Q
def mNotV (a : MTT) : MTE := fun env h Q => a env h fun c h1 => Q (.bl (!c)) h1
def mIfE (c : MTT) (a b : MTE) : MTE := fun env h Q => c env h fun k h1 => if k = true then a env h1 Q else b env h1 Q
def mChain (r r' : MR2) (a b c : MTE) : MTE := fun env h Q => a env h fun x h1 => b env h1 fun y h2 => r x y h2 fun z h3 => ∃ k, z = .bl k ∧ if k = true then (c env h3 fun w h4 => r' y w h4 Q) else Q (.bl false) h3
section
variable {X : Cx} {Hb : Hp} {a b c e : Expr} {es : List Expr} {ma mb mc : MTE} {pos : Pos} {mt mu : MTT} {ms : MTA} {r r' : MR2}
theorem ie_var (i : Nat) {x : Str} {pos : Pos} (hN : X.N[i]? = some x := by rfl) (hv : Vis X.env.scope x := by first | exact Or.inl rfl | exact Or.inr (Or.inl rfl) | exact Or.inr (Or.inr rfl)) (hd : (x == ("__debug__" : Str)) = false := by decide)
    (hcd : (x == ("__classdict__" : Str)) = false := by decide) : IE X Hb (.Name x pos) (mVar i) :=
  pe_w (pe_var hN hv hd hcd) fun σ H Q ⟨env, h, Q0, re, rh, ⟨d, e, q⟩, f⟩ => let ⟨v, e1, rv⟩ := re.2.2 i d e; ⟨v, e1, f d h q v H (.refl H) rh rv⟩
theorem ie_c {t : V} {d : D} (h : PE X e (tC t)) (r : ∀ H, RV X.K H d t) : IE X Hb e (mC d) :=
  pe_w h fun σ H Q ⟨env, h, Q0, re, rh, q, f⟩ => f d h q t H (.refl H) rh (r H)
theorem ie_int {i j pos} : IE X Hb (.Constant (.int i) j pos) (mC (.int i)) := ie_c pe_int fun _ => rv_int
theorem ie_bl {i j pos} : IE X Hb (.Constant (.bool i) j pos) (mC (.bl i)) := ie_c pe_bl fun _ => rv_bl
theorem ie_non {j pos} : IE X Hb (.Constant .none j pos) (mC .non) := ie_c pe_non fun _ => rv_non
theorem ie_str {i j pos} : IE X Hb (.Constant (.str i) j pos) (mC (.str i)) := ie_c pe_str fun _ => rv_str
/-- the common move -/
theorem two {σ : L2.St} {H : Hp} {Q : VK} {env : ME} {h : MH} {Q0 : MQ} {R : R2} {K : PySem.W.Frag} (re : REnv K Hb H env σ) (rh : HR K h H) (m : mOp r ma mb env h Q0) (f : Fin K H Q0 Q)
    (hi : ∀ (x y : D) (h : MH) (Q0 : MQ) (vx vy : V) (H : Hp) (Q : VK), r x y h Q0 → HR K h H → RV K H x vx → RV K H y vy → Fin K H Q0 Q → R vx vy H Q) : tOp R (lift K Hb ma) (lift K Hb mb) σ H Q := by
  refine ⟨env, h, _, re, rh, m, fun x h1 q1 vx H1 t1 r1 rx => ?_⟩
  refine ⟨env, h1, _, re.mono t1, r1, q1, fun y h2 q2 vy H2 t2 r2 ry => ?_⟩
  exact hi x y h2 Q0 vx vy H2 Q q2 r2 (rx.mono t2) ry (Fin.mono (t1.trans t2) f)
theorem ie_op {op : Operator} (ho : OpM X (binaryOp op) r) (ha : IE X Hb a ma) (hb : IE X Hb b mb) : IE X Hb (.BinOp a op b pos) (mOp r ma mb) := by
  obtain ⟨R, hR, hi⟩ := ho
  exact pe_w (pe_op hR ha hb) fun σ H Q ⟨env, h, Q0, re, rh, m, f⟩ => two re rh m f hi
theorem ie_ix (ho : IxM X r) (ha : IE X Hb a ma) (hb : IE X Hb b mb) (hs : PlainIx b) : IE X Hb (.Subscript a b pos) (mOp r ma mb) := by
  obtain ⟨R, hR, hi⟩ := ho
  exact pe_w (pe_ix hR ha hb hs) fun σ H Q ⟨env, h, Q0, re, rh, m, f⟩ => two re rh m f hi
theorem ie_cmp {op : CmpOp} (ho : OpM X (compareOp op) r) (ha : IE X Hb a ma) (hb : IE X Hb b mb) (hm : behindInMarks op b = false) : IE X Hb (.Compare a [op] [b] pos) (mOp r ma mb) := by
  obtain ⟨R, hR, hi⟩ := ho
  exact pe_w (pe_cmpR hR ha hb hm) fun σ H Q ⟨env, h, Q0, re, rh, m, f⟩ => two re rh m f hi
theorem it_cmp {op : CmpOp} (ho : OpM X (compareOp op) r) (ha : IE X Hb a ma) (hb : IE X Hb b mb) (hm : behindInMarks op b = false) : IT X Hb (.Compare a [op] [b] pos) (mTest (mOp r ma mb)) := by
  obtain ⟨R, hR, hi⟩ := ho
  refine pt_w (pt_cmpR hR ha hb hm) fun σ H Q ⟨env, h, Q0, re, rh, m, f⟩ => ?_
  refine two re rh m ?_ hi
  rintro d h' ⟨k, rfl, q⟩ v H' t' rh' rv
  rw [rv.bl]
  exact ⟨k, rfl, f k h' q H' t' rh'⟩
theorem ie_un {op : UnaryOp} {r : MR1} (ho : UnM X (unaryOp op) r) (ha : IE X Hb a ma) : IE X Hb (.UnaryOp op a pos) (mUn r ma) := by
  obtain ⟨R, hR, hi⟩ := ho
  refine pe_w (pe_un hR ha) fun σ H Q ⟨env, h, Q0, re, rh, m, f⟩ => ?_
  refine ⟨env, h, _, re, rh, m, fun x h1 q1 vx H1 t1 r1 rx => ?_⟩
  exact hi x h1 Q0 vx H1 Q q1 r1 rx (Fin.mono t1 f)
theorem it_val (h : IE X Hb e ma) (he : ∀ whole, isTrue e X.env whole = (do let v ← whole; standAt e.pos; holding [v] (truthy v)) := by intro _; rfl) : IT X Hb e (mTest ma) := by
  refine pt_w (pt_val h he) fun σ H Q ⟨env, h, Q0, re, rh, m, f⟩ => ?_
  refine ⟨env, h, _, re, rh, m, ?_⟩
  rintro d h' ⟨k, rfl, q⟩ v H' t' rh' rv
  rw [rv.bl]
  exact ⟨k, rfl, f k h' q H' t' rh'⟩
theorem IW.it (h : IW X Hb e mt) : IT X Hb e mt := PW.pt h
theorem iw_and1 (h : IT X Hb a mt) : IW X Hb (.BoolOp .And [a] pos) mt := pw_and1 h
theorem iw_or1 (h : IT X Hb a mt) : IW X Hb (.BoolOp .Or [a] pos) mt := pw_or1 h
theorem iw_and {rest : List Expr} (h : IT X Hb a mt) (k : IW X Hb (.BoolOp .And (b :: rest) pos) mu) : IW X Hb (.BoolOp .And (a :: b :: rest) pos) (mAnd mt mu) := by
  refine pw_w (pw_and h k) fun σ H Q ⟨env, h, Q0, re, rh, m, f⟩ => ?_
  refine ⟨env, h, _, re, rh, m, fun k h1 q1 H1 t1 r1 => ?_⟩
  cases k with
  | true => exact ⟨env, h1, Q0, re.mono t1, r1, q1, fun d h' q H' t => f d h' q H' (t1.trans t)⟩
  | false => exact f false h1 q1 H1 t1 r1
theorem iw_or {rest : List Expr} (h : IT X Hb a mt) (k : IW X Hb (.BoolOp .Or (b :: rest) pos) mu) : IW X Hb (.BoolOp .Or (a :: b :: rest) pos) (mOr mt mu) := by
  refine pw_w (pw_or h k) fun σ H Q ⟨env, h, Q0, re, rh, m, f⟩ => ?_
  refine ⟨env, h, _, re, rh, m, fun k h1 q1 H1 t1 r1 => ?_⟩
  cases k with
  | false => exact ⟨env, h1, Q0, re.mono t1, r1, q1, fun d h' q H' t => f d h' q H' (t1.trans t)⟩
  | true => exact f true h1 q1 H1 t1 r1
theorem it_not (h : IT X Hb a mt) : IT X Hb (.UnaryOp .Not a pos) (mNot mt) := by
  refine pt_w (pt_not h) fun σ H Q ⟨env, h, Q0, re, rh, m, f⟩ => ?_
  exact ⟨env, h, _, re, rh, m, fun k h1 q1 H1 t1 r1 => f _ h1 q1 H1 t1 r1⟩
theorem ie_one {op} (h : IE X Hb a ma) : IE X Hb (.BoolOp op [a] pos) ma := pe_one h
theorem ie_and {rest : List Expr} (ha : IE X Hb a ma) (hb : IE X Hb (.BoolOp .And (b :: rest) pos) mb) : IE X Hb (.BoolOp .And (a :: b :: rest) pos) (mAndV ma mb) := by
  refine pe_w (pe_and ha hb) fun σ H Q ⟨env, h, Q0, re, rh, m, f⟩ => ?_
  refine ⟨env, h, _, re, rh, m, ?_⟩
  rintro d h1 ⟨k, rfl, q⟩ v H1 t1 r1 rv
  rw [rv.bl]
  refine ⟨k, rfl, ?_⟩
  cases k with
  | true => exact ⟨env, h1, Q0, re.mono t1, r1, q, Fin.mono t1 f⟩
  | false => exact f _ h1 q _ H1 t1 r1 rv_bl
theorem ie_or {rest : List Expr} (ha : IE X Hb a ma) (hb : IE X Hb (.BoolOp .Or (b :: rest) pos) mb) : IE X Hb (.BoolOp .Or (a :: b :: rest) pos) (mOrV ma mb) := by
  refine pe_w (pe_or ha hb) fun σ H Q ⟨env, h, Q0, re, rh, m, f⟩ => ?_
  refine ⟨env, h, _, re, rh, m, ?_⟩
  rintro d h1 ⟨k, rfl, q⟩ v H1 t1 r1 rv
  rw [rv.bl]
  refine ⟨k, rfl, ?_⟩
  cases k with
  | false => exact ⟨env, h1, Q0, re.mono t1, r1, q, Fin.mono t1 f⟩
  | true => exact f _ h1 q _ H1 t1 r1 rv_bl
theorem ie_not (ha : IE X Hb a ma) : IE X Hb (.UnaryOp .Not a pos) (mNotV (mTest ma)) := by
  refine pe_w (pe_not ha) fun σ H Q ⟨env, h, Q0, re, rh, m, f⟩ => ?_
  refine ⟨env, h, _, re, rh, m, ?_⟩
  rintro d h1 ⟨k, rfl, q⟩ v H1 t1 r1 rv
  rw [rv.bl]
  exact ⟨k, rfl, f _ h1 q _ H1 t1 r1 rv_bl⟩
theorem ie_ifE (hc : IT X Hb c mt) (ha : IE X Hb a ma) (hb : IE X Hb b mb) : IE X Hb (.IfExp c a b pos) (mIfE mt ma mb) := by
  refine pe_w (pe_ifExp hc ha hb) fun σ H Q ⟨env, h, Q0, re, rh, m, f⟩ => ?_
  refine ⟨env, h, _, re, rh, m, fun k h1 q1 H1 t1 r1 => ?_⟩
  cases k with
  | true => exact ⟨env, h1, Q0, re.mono t1, r1, q1, Fin.mono t1 f⟩
  | false => exact ⟨env, h1, Q0, re.mono t1, r1, q1, Fin.mono t1 f⟩
theorem ia_nil : IA X Hb [] mNil := pa_w pa_nil fun σ H Q ⟨env, h, Q0, re, rh, m, f⟩ => f [] h m [] H (.refl H) rh .nil
theorem ia_cons (ha : IE X Hb e ma) (hr : IA X Hb es ms) (hs : starEach (e :: es) X.env = (false, eval e X.env) :: starEach es X.env := by rfl) : IA X Hb (e :: es) (mCons ma ms) := by
  refine pa_w (pa_cons ha hr hs) fun σ H Q ⟨env, h, Q0, re, rh, m, f⟩ => ?_
  refine ⟨env, h, _, re, rh, m, fun x h1 q1 vx H1 t1 r1 rx => ?_⟩
  exact ⟨env, h1, _, re.mono t1, r1, q1, fun ds h2 q2 vs H2 t2 r2 rs => f _ h2 q2 _ H2 (t1.trans t2) r2 (.cons (rx.mono t2) rs)⟩
theorem ie_tup {x1} (h : IA X Hb es ms) : IE X Hb (.Tuple es x1 pos) (mTup ms) := by
  refine pe_w (pe_tup h) fun σ H Q ⟨env, h, Q0, re, rh, m, f⟩ => ?_
  refine ⟨env, h, _, re, rh, m, fun xs h1 ⟨z, q⟩ vs H1 t1 r1 rs => ⟨by rw [← rs.length]; exact z, fun p np => ?_⟩⟩
  exact f _ h1 q _ _ (t1.trans (.new np)) (r1.skip np) (rv_tup (.of upd_same) (rs.mono (.new np)))
theorem ie_lst (h : IA X Hb es ms) : IE X Hb (.List es pos) (mLst ms) := by
  refine pe_w (pe_lst h) fun σ H Q ⟨env, h, Q0, re, rh, m, f⟩ => ?_
  refine ⟨env, h, _, re, rh, m, fun xs h1 ⟨z, q⟩ vs H1 t1 r1 rs => ⟨by rw [← rs.length]; exact z, fun p np => ?_⟩⟩
  exact f _ _ (q p (r1.free np)) _ _ (t1.trans (.new np)) (r1.new np ⟨vs, rfl, rs⟩) rv_ref
theorem ie_chain {op op' : CmpOp} (ho : OpM X (compareOp op) r) (ho' : OpM X (compareOp op') r') (ha : IE X Hb a ma) (hb : IE X Hb b mb) (hc : IE X Hb c mc)
    (hm : lastMarks [op, op'] [b, c] = false := by rfl) : IE X Hb (.Compare a [op, op'] [b, c] pos) (mChain r r' ma mb mc) := by
  obtain ⟨R, hR, hi⟩ := ho
  obtain ⟨R', hR', hi'⟩ := ho'
  refine pe_w (pe_chain hR hR' ha hb hc hm) fun σ H Q ⟨env, h, Q0, re, rh, m, f⟩ => ?_
  refine ⟨env, h, _, re, rh, m, fun x h1 q1 vx H1 t1 r1 rx => ?_⟩
  refine ⟨env, h1, _, re.mono t1, r1, q1, fun y h2 q2 vy H2 t2 r2 ry => ?_⟩
  refine hi x y h2 _ vx vy H2 _ q2 r2 (rx.mono t2) ry ?_
  rintro d h3 ⟨k, rfl, q3⟩ v H3 t3 r3 rv
  rw [rv.bl]
  refine ⟨k, rfl, ?_⟩
  cases k with
  | true =>
    refine ⟨env, h3, _, re.mono (t1.trans (t2.trans t3)), r3, q3, fun w h4 q4 vw H4 t4 r4 rw' => ?_⟩
    exact hi' y w h4 Q0 vy vw H4 Q q4 r4 (ry.mono (t3.trans t4)) rw' (Fin.mono (t1.trans (t2.trans (t3.trans t4))) f)
  | false => exact f _ h3 q3 _ H3 (t1.trans (t2.trans t3)) r3 rv_bl
theorem it_chain {op op' : CmpOp} (ho : OpM X (compareOp op) r) (ho' : OpM X (compareOp op') r') (ha : IE X Hb a ma) (hb : IE X Hb b mb) (hc : IE X Hb c mc)
    (hm : lastMarks [op, op'] [b, c] = false := by rfl) : IT X Hb (.Compare a [op, op'] [b, c] pos) (mTest (mChain r r' ma mb mc)) := by
  obtain ⟨R, hR, hi⟩ := ho
  obtain ⟨R', hR', hi'⟩ := ho'
  refine pt_w (pt_chain hR hR' ha hb hc hm) fun σ H Q ⟨env, h, Q0, re, rh, m, f⟩ => ?_
  refine ⟨env, h, _, re, rh, m, fun x h1 q1 vx H1 t1 r1 rx => ?_⟩
  refine ⟨env, h1, _, re.mono t1, r1, q1, fun y h2 q2 vy H2 t2 r2 ry => ?_⟩
  refine hi x y h2 _ vx vy H2 _ q2 r2 (rx.mono t2) ry ?_
  rintro d h3 ⟨k, rfl, q3⟩ v H3 t3 r3 rv
  rw [rv.bl]
  refine ⟨k, rfl, ?_⟩
  cases k with
  | true =>
    refine ⟨env, h3, _, re.mono (t1.trans (t2.trans t3)), r3, q3, fun w h4 q4 vw H4 t4 r4 rw' => ?_⟩
    refine hi' y w h4 _ vy vw H4 _ q4 r4 (ry.mono (t3.trans t4)) rw' ?_
    rintro d h5 ⟨k, rfl, q5⟩ v H5 t5 r5 rv
    rw [rv.bl]
    exact ⟨k, rfl, f k h5 q5 H5 (t1.trans (t2.trans (t3.trans (t4.trans t5)))) r5⟩
  | false =>
    obtain ⟨k, e, q3⟩ := q3
    cases e
    exact ⟨false, rfl, f false h3 q3 H3 (t1.trans (t2.trans t3)) r3⟩
/-- a built-in by its name -/
theorem ie_callB {x : Str} {n : String} {rA : MRA} {p : Pos} (ho : CaM X (.builtin n) rA) (hg : Gl X x) (hm : X.mg x = none) (hv : bootBuiltins x = some (.builtin n)) (ha : IA X Hb (e :: es) ms)
    (hdb : (x == ("__debug__" : Str)) = false := by decide) (hn : x ≠ "__name__" := by decide)
    (hs : starEach (e :: es) X.env = (false, eval e X.env) :: starEach es X.env := by rfl) (hpl : (backTo pos (starEach es X.env)).any (·.1) = false := by rfl) : IE X Hb (.Call (.Name x p) (e :: es) [] pos) (mCa rA ms) := by
  obtain ⟨R, hR, hi⟩ := ho
  refine pe_w (pe_callB hR hg hm hv ha hn hdb hs hpl) fun σ H Q ⟨env, h, Q0, re, rh, m, f⟩ => ?_
  exact ⟨env, h, _, re, rh, m, fun xs h1 q1 vs H1 t1 r1 rs => hi xs h1 Q0 vs H1 Q q1 r1 rs (Fin.mono t1 f)⟩
theorem ie_callTy {x : Str} {n : String} {rA : MRA} {p : Pos} (ho : CaM X (.type n) rA) (hg : Gl X x) (hm : X.mg x = none) (hv : bootBuiltins x = some (.type n)) (ha : IA X Hb (e :: es) ms)
    (hdb : (x == ("__debug__" : Str)) = false := by decide) (hn : x ≠ "__name__" := by decide)
    (hs : starEach (e :: es) X.env = (false, eval e X.env) :: starEach es X.env := by rfl) (hpl : (backTo pos (starEach es X.env)).any (·.1) = false := by rfl) : IE X Hb (.Call (.Name x p) (e :: es) [] pos) (mCa rA ms) := by
  obtain ⟨R, hR, hi⟩ := ho
  refine pe_w (pe_callTy hR hg hm hv ha hn hdb hs hpl) fun σ H Q ⟨env, h, Q0, re, rh, m, f⟩ => ?_
  exact ⟨env, h, _, re, rh, m, fun xs h1 q1 vs H1 t1 r1 rs => hi xs h1 Q0 vs H1 Q q1 r1 rs (Fin.mono t1 f)⟩
end
end M

namespace M
open PySem L2
/-! ### operators -/
def DivOk (j : Int) : Prop := 0 < j ∧ j.natAbs.log2 < 9000
def DivOkN (j : Int) : Prop := j ≠ 0 ∧ j.natAbs.log2 < 9000
def MulOk (i j : Int) : Prop := CMul i j ∨ CMulX i j
theorem divOk {j : Int} (h : 0 < j) (h2 : j < 2 ^ 200) : DivOk j := ⟨h, by
  have h3 : j.natAbs < 2 ^ 200 := by omega
  exact Nat.lt_of_lt_of_le (PySem.Flt.log2_lt_of (by decide) h3) (by decide)⟩
theorem mulOkL {i j : Int} (h : -(2 ^ 64) < i) (h2 : i < 2 ^ 64) : MulOk i j := .inl (.inl ⟨h, h2⟩)
theorem mulOkR {i j : Int} (h : -(2 ^ 64) < j) (h2 : j < 2 ^ 64) : MulOk i j := .inl (.inr ⟨h, h2⟩)
theorem mulOkX {i j : Int} {a b : Nat} (ha : i.natAbs < 2 ^ a) (hb : j.natAbs < 2 ^ b) (h : a + b ≤ 134217728) : MulOk i j := .inr (mulx_ok ha hb h)
def rAdd : MR2 := fun x y h Q => match x, y with
  | .int i, .int j => Q (.int (i + j)) h
  | .str i, .str j => i.length + j.length ≤ sizeLine ∧ Q (.str (i ++ j)) h
  | .tup i, .tup j => i.length + j.length ≤ sizeLine ∧ Q (.tup (i ++ j)) h
  | .ref a, .ref b => ∃ xs ys, h a = some (.lst xs) ∧ h b = some (.lst ys) ∧ xs.length + ys.length ≤ sizeLine ∧ ∀ p, h p = none → Q (.ref p) (up h p (.lst (xs ++ ys)))
  | _, _ => False
def rSub : MR2 := fun x y h Q => match x, y with
  | .int i, .int j => Q (.int (i - j)) h
  | _, _ => False
def rMul : MR2 := fun x y h Q => match x, y with
  | .int i, .int j => MulOk i j ∧ Q (.int (i * j)) h
  | .ref a, .int k => ∃ xs, h a = some (.lst xs) ∧ -(2 ^ 63) ≤ k ∧ k < 2 ^ 63 ∧ xs.length * k.toNat ≤ sizeLine ∧ ∀ p, h p = none → Q (.ref p) (up h p (.lst (List.replicate k.toNat xs).flatten))
  | _, _ => False
def rFdiv : MR2 := fun x y h Q => match x, y with
  | .int i, .int j => DivOk j ∧ Q (.int (i / j)) h
  | _, _ => False
def rFdivN : MR2 := fun x y h Q => match x, y with
  | .int i, .int j => DivOkN j ∧ Q (.int (i.fdiv j)) h
  | _, _ => False
def rMod : MR2 := fun x y h Q => match x, y with
  | .int i, .int j => 0 < j ∧ Q (.int (i % j)) h
  | _, _ => False
def rModN : MR2 := fun x y h Q => match x, y with
  | .int i, .int j => j ≠ 0 ∧ Q (.int (i.fmod j)) h
  | _, _ => False
def rPow : MR2 := fun x y h Q => match x, y with
  | .int i, .int j => CPow i j ∧ Q (.int (i ^ j.toNat)) h
  | _, _ => False
def rShl : MR2 := fun x y h Q => match x, y with
  | .int i, .int j => CPow i j ∧ Q (.int (i * 2 ^ j.toNat)) h
  | _, _ => False
def rNeg : MR1 := fun x h Q => match x with
  | .int i => Q (.int (-i)) h
  | _ => False
def rLtI : MR2 := fun x y h Q => match x, y with
  | .int i, .int j => Q (.bl (decide (i < j))) h
  | _, _ => False
def rLeI : MR2 := fun x y h Q => match x, y with
  | .int i, .int j => Q (.bl (decide (i ≤ j))) h
  | _, _ => False
def rGtI : MR2 := fun x y h Q => match x, y with
  | .int i, .int j => Q (.bl (decide (j < i))) h
  | _, _ => False
def rGeI : MR2 := fun x y h Q => match x, y with
  | .int i, .int j => Q (.bl (decide (j ≤ i))) h
  | _, _ => False
section
variable {X : Cx}
theorem fin_at {K : PySem.W.Frag} {H : Hp} {Q0 : MQ} {Q : VK} {d : D} {h : MH} {v : V} (f : Fin K H Q0 Q) (q : Q0 d h) (rh : HR K h H) (r : RV K H d v) : Q v H := f d h q v H (.refl H) rh r
/-- two ints -/
theorem opI2 {f : Value → Value → Sem Value} {C : Int → Int → Prop} {g : Int → Int → V} {g' : Int → Int → D} {r : MR2} (ho : OpR X f (rI C g)) (hg : ∀ i j H, RV X.K H (g' i j) (g i j))
    (hr : ∀ x y h Q, r x y h Q → ∃ i j, x = .int i ∧ y = .int j ∧ C i j ∧ Q (g' i j) h) : OpM X f r := by
  refine ⟨_, ho, fun x y h Q0 vx vy H Q q rh rx ry f => ?_⟩
  obtain ⟨i, j, rfl, rfl, c, q2⟩ := hr x y h Q0 q
  rw [rx.int, ry.int]
  exact ⟨i, j, rfl, rfl, c, fin_at f q2 rh (hg i j H)⟩
theorem opI20 {f : Value → Value → Sem Value} {g : Int → Int → V} {g' : Int → Int → D} {r : MR2} (ho : OpR X f (rI0 g)) (hg : ∀ i j H, RV X.K H (g' i j) (g i j))
    (hr : ∀ x y h Q, r x y h Q → ∃ i j, x = .int i ∧ y = .int j ∧ Q (g' i j) h) : OpM X f r := by
  refine ⟨_, ho, fun x y h Q0 vx vy H Q q rh rx ry f => ?_⟩
  obtain ⟨i, j, rfl, rfl, q2⟩ := hr x y h Q0 q
  rw [rx.int, ry.int]
  exact ⟨i, j, rfl, rfl, fin_at f q2 rh (hg i j H)⟩
theorem om_sub : OpM X (binaryOp .Sub) rSub := opI20 op_sub (fun _ _ _ => rv_int) fun x y h Q q => by
  cases x <;> cases y <;> first | exact q.elim | exact ⟨_, _, rfl, rfl, q⟩
theorem om_mod : OpM X (binaryOp .Mod) rMod := opI2 op_mod (fun _ _ _ => rv_int) fun x y h Q q => by
  cases x <;> cases y <;> first | exact q.elim | exact ⟨_, _, rfl, rfl, q.1, q.2⟩
theorem om_modN : OpM X (binaryOp .Mod) rModN := opI2 op_modN (fun _ _ _ => rv_int) fun x y h Q q => by
  cases x <;> cases y <;> first | exact q.elim | exact ⟨_, _, rfl, rfl, q.1, q.2⟩
theorem om_pow : OpM X (binaryOp .Pow) rPow := opI2 op_pow (fun _ _ _ => rv_int) fun x y h Q q => by
  cases x <;> cases y <;> first | exact q.elim | exact ⟨_, _, rfl, rfl, q.1, q.2⟩
theorem om_shl : OpM X (binaryOp .LShift) rShl := opI2 op_shl (fun _ _ _ => rv_int) fun x y h Q q => by
  cases x <;> cases y <;> first | exact q.elim | exact ⟨_, _, rfl, rfl, q.1, q.2⟩
theorem om_fdiv : OpM X (binaryOp .FloorDiv) rFdiv := opI2 (C := CDivW) op_fdivW (fun _ _ _ => rv_int) fun x y h Q q => by
  cases x <;> cases y <;> first | exact q.elim | exact ⟨_, _, rfl, rfl, q.1, q.2⟩
theorem op_fdivNW : OpR X (binaryOp .FloorDiv) (rI (fun _ j => DivOkN j) fun i j => .int (i.fdiv j)) := opI fun i j _ _ _ _ _ hc q => PyProof.Rows.floordiv_int hc.1 q (.inl (PyProof.noPylong_of_log2 hc.2))
theorem om_fdivN : OpM X (binaryOp .FloorDiv) rFdivN := opI2 op_fdivNW (fun _ _ _ => rv_int) fun x y h Q q => by
  cases x <;> cases y <;> first | exact q.elim | exact ⟨_, _, rfl, rfl, q.1, q.2⟩
theorem om_ltI : OpM X (compareOp .Lt) rLtI := opI20 op_lt (fun _ _ _ => rv_bl) fun x y h Q q => by
  cases x <;> cases y <;> first | exact q.elim | exact ⟨_, _, rfl, rfl, q⟩
theorem om_leI : OpM X (compareOp .LtE) rLeI := opI20 op_le (fun _ _ _ => rv_bl) fun x y h Q q => by
  cases x <;> cases y <;> first | exact q.elim | exact ⟨_, _, rfl, rfl, q⟩
theorem om_gtI : OpM X (compareOp .Gt) rGtI := opI20 op_gt (fun _ _ _ => rv_bl) fun x y h Q q => by
  cases x <;> cases y <;> first | exact q.elim | exact ⟨_, _, rfl, rfl, q⟩
theorem om_geI : OpM X (compareOp .GtE) rGeI := opI20 op_ge (fun _ _ _ => rv_bl) fun x y h Q q => by
  cases x <;> cases y <;> first | exact q.elim | exact ⟨_, _, rfl, rfl, q⟩
theorem um_neg : UnM X (unaryOp .USub) rNeg := ⟨_, un_neg, fun x h Q0 vx H Q q rh rx f => by
  cases x <;> first | exact q.elim | skip
  rw [rx.int]
  exact ⟨_, rfl, fin_at f q rh rv_int⟩⟩
theorem om_add : OpM X (binaryOp .Add) rAdd := by
  refine ⟨_, (op_add.or op_add_str).or (op_catA.or op_cat), fun x y h Q0 vx vy H Q q rh rx ry f => ?_⟩
  cases x <;> cases y <;> first | exact q.elim | skip
  · rw [rx.int, ry.int]
    exact .inl (.inl ⟨_, _, rfl, rfl, fin_at f q rh rv_int⟩)
  · rw [rx.str, ry.str]
    exact .inl (.inr ⟨_, _, rfl, rfl, q.1, fin_at f q.2 rh rv_str⟩)
  · rename_i xs ys
    obtain ⟨a, vs, rfl, ta, rs⟩ := rx.tup
    obtain ⟨b, ws, rfl, tb, rt⟩ := ry.tup
    refine .inr (.inl ⟨a, b, vs, ws, rfl, rfl, ta, tb, by rw [← rs.length, ← rt.length]; exact q.1, fun e => ?_, fun e e2 => ?_, fun e e2 p np => ?_⟩)
    · subst e
      have e0 : xs = [] := List.eq_nil_of_length_eq_zero rs.length
      subst e0
      exact fin_at f q.2 rh (rv_tup tb rt)
    · subst e2
      have e0 : ys = [] := List.eq_nil_of_length_eq_zero rt.length
      subst e0
      have q2 := q.2
      rw [List.append_nil] at q2
      exact fin_at f q2 rh (rv_tup ta rs)
    · exact f _ h q.2 _ _ (.new np) (rh.skip np) (rv_tup (.of upd_same) ((rs.append rt).mono (.new np)))
  · obtain ⟨xs, ys, e1, e2, z, q⟩ := q
    rw [rx.ref, ry.ref]
    obtain ⟨vs, E1, r1⟩ := rh.lst e1
    obtain ⟨ws, E2, r2⟩ := rh.lst e2
    refine .inr (.inr ⟨_, _, vs, ws, rfl, rfl, E1, E2, by rw [← r1.length, ← r2.length]; exact z, fun p np => ?_⟩)
    exact f _ _ (q p (rh.free np)) _ _ (.new np) (rh.new np ⟨_, rfl, r1.append r2⟩) rv_ref
theorem RVs.rep {K : PySem.W.Frag} {H : Hp} {ds : List D} {vs : List V} (h : RVs K H ds vs) : ∀ k : Nat, RVs K H (List.replicate k ds).flatten (List.replicate k vs).flatten
  | 0 => .nil
  | k + 1 => by
    rw [List.replicate_succ, List.replicate_succ, List.flatten_cons, List.flatten_cons]
    exact h.append (h.rep k)
theorem om_mul : OpM X (binaryOp .Mult) rMul := by
  refine ⟨_, (op_mul.or op_mulX).or op_rep, fun x y h Q0 vx vy H Q q rh rx ry f => ?_⟩
  cases x <;> cases y <;> first | exact q.elim | skip
  · rw [rx.int, ry.int]
    rcases q.1 with c | c
    · exact .inl (.inl ⟨_, _, rfl, rfl, c, fin_at f q.2 rh rv_int⟩)
    · exact .inl (.inr ⟨_, _, rfl, rfl, c, fin_at f q.2 rh rv_int⟩)
  · obtain ⟨xs, e1, k1, k2, z, q⟩ := q
    rw [rx.ref, ry.int]
    obtain ⟨vs, E1, r1⟩ := rh.lst e1
    refine .inr ⟨_, _, vs, rfl, rfl, E1, k1, k2, by rw [← r1.length]; exact z, fun p np => ?_⟩
    exact f _ _ (q p (rh.free np)) _ _ (.new np) (rh.new np ⟨_, rfl, r1.rep _⟩) rv_ref
end
/-! ### subscripts -/
def rIx : MR2 := fun x y h Q => match x, y with
  | .tup ds, .int i => ∃ d, atI ds i = some d ∧ Q d h
  | .rl ds, .int i => ∃ d, atI ds i = some d ∧ Q d h
  | .str z, .int i => z.length ≤ sizeLine ∧ ∃ c, atI z.cps.toList i = some c ∧ Q (.str ⟨#[c]⟩) h
  | .ref a, .int i => ∃ ds, h a = some (.lst ds) ∧ ∃ d, atI ds i = some d ∧ Q d h
  | _, _ => False
theorem RVs.atI {K : PySem.W.Frag} {H : Hp} {ds : List D} {vs : List V} {i : Int} {d : D} (h : RVs K H ds vs) (e : L2.atI ds i = some d) : ∃ v, L2.atI vs i = some v ∧ RV K H d v := by
  unfold L2.atI at e ⊢
  rw [← h.length]
  cases c : ixN ds.length i with
  | none => rw [c] at e; cases e
  | some j =>
    rw [c] at e
    obtain ⟨v, e1, r⟩ := h.get (show ds[j]? = some d from e)
    exact ⟨v, e1, r⟩
theorem ix_m {X : Cx} : IxM X rIx := by
  refine ⟨_, ix_seq, fun x y h Q0 vx vy H Q q rh rx ry f => ?_⟩
  cases x <;> cases y <;> first | exact q.elim | skip
  · obtain ⟨z, c, e, q⟩ := q
    rw [rx.str, ry.int]
    exact .inr (.inr ⟨_, _, c, rfl, rfl, z, e, fin_at f q rh rv_str⟩)
  · obtain ⟨d, e, q⟩ := q
    obtain ⟨a, vs, rfl, ta, rs⟩ := rx.tup
    rw [ry.int]
    obtain ⟨v, e1, r⟩ := rs.atI e
    exact .inr (.inl ⟨a, vs, _, v, rfl, rfl, ta, e1, fin_at f q rh r⟩)
  · obtain ⟨d, e, q⟩ := q
    obtain ⟨a, vs, rfl, ta, rs⟩ := rx.rl
    rw [ry.int]
    obtain ⟨v, e1, r⟩ := rs.atI e
    exact .inl ⟨a, vs, _, v, rfl, rfl, ta.l, e1, fin_at f q rh r⟩
  · obtain ⟨ds, e0, d, e, q⟩ := q
    rw [rx.ref, ry.int]
    obtain ⟨vs, E, rs⟩ := rh.lst e0
    obtain ⟨v, e1, r⟩ := rs.atI e
    exact .inl ⟨_, vs, _, v, rfl, rfl, .of E, e1, fin_at f q rh r⟩
/-! ### slices -/
abbrev MTO := ME → MH → (Option Int → MH → Prop) → Prop
def mNo : MTO := fun _ h Q => Q none h
def mPart (a : MTE) : MTO := fun env h Q => a env h fun x h1 => ∃ i, x = .int i ∧ Q (some i) h1
def liftO (K : PySem.W.Frag) (Hb : Hp) (m : MTO) : TO := fun σ H Q => ∃ env h, ∃ Q0 : Option Int → MH → Prop, REnv K Hb H env σ ∧ HR K h H ∧ m env h Q0 ∧ ∀ d h', Q0 d h' → ∀ H', TL H H' → HR K h' H' → Q d H'
def IO (X : Cx) (Hb : Hp) (e : Option Expr) (m : MTO) : Prop := PO X e (liftO X.K Hb m)
theorem po_w {X : Cx} {e : Option Expr} {t t' : TO} (h : PO X e t) (w : ∀ σ H Q, t' σ H Q → t σ H Q) : PO X e t' := ⟨fun pins s σ H Q I q => h.run pins s σ H Q I (w σ H Q q)⟩
def cutD (xs : List D) (lo hi : Option Int) : List D := (xs.drop (HT.sIx xs.length 0 lo)).take (HT.sIx xs.length xs.length hi - HT.sIx xs.length 0 lo)
theorem RVs.cut {K : PySem.W.Frag} {H : Hp} {ds : List D} {vs : List V} (h : RVs K H ds vs) (lo hi : Option Int) : RVs K H (cutD ds lo hi) (cutV vs lo hi) := by
  unfold cutD cutV
  rw [h.length]
  exact (h.drop _).take _
abbrev MRS := D → Option Int → Option Int → MH → MQ → Prop
def rSl : MRS := fun x lo hi h Q => match x with
  | .tup ds => Q (.tup (cutD ds lo hi)) h
  | .rl ds => ∀ p, h p = none → Q (.ref p) (up h p (.lst (cutD ds lo hi)))
  | .ref a => ∃ ds, h a = some (.lst ds) ∧ ∀ p, h p = none → Q (.ref p) (up h p (.lst (cutD ds lo hi)))
  | _ => False
def mSl (r : MRS) (a : MTE) (l u : MTO) : MTE := fun env h Q => a env h fun x h1 => l env h1 fun lo h2 => u env h2 fun hi h3 => r x lo hi h3 Q
theorem io_none {X : Cx} {Hb : Hp} : IO X Hb none mNo := po_w po_none fun σ H Q ⟨env, h, Q0, re, rh, m, f⟩ => f none h m H (.refl H) rh
theorem io_some {X : Cx} {Hb : Hp} {e : Expr} {me : MTE} (he : IE X Hb e me) : IO X Hb (some e) (mPart me) := by
  refine po_w (po_some he) fun σ H Q ⟨env, h, Q0, re, rh, m, f⟩ => ?_
  refine ⟨env, h, _, re, rh, m, ?_⟩
  rintro d h1 ⟨i, rfl, q⟩ v H1 t1 r1 rv
  rw [rv.int]
  exact ⟨i, rfl, f _ h1 q H1 t1 r1⟩
theorem cut_all {xs : List D} {lo hi : Option Int} (h1 : HT.sIx xs.length 0 lo = 0) (h2 : HT.sIx xs.length xs.length hi = xs.length) : cutD xs lo hi = xs := by
  unfold cutD
  rw [h1, h2, List.drop_zero, Nat.sub_zero, List.take_length]
theorem ie_slice {X : Cx} {Hb : Hp} {e : Expr} {lo hi : Option Expr} {me : MTE} {ml mh : MTO} {p2 pos : Pos} (he : IE X Hb e me) (hl : IO X Hb lo ml) (hu : IO X Hb hi mh) : IE X Hb (.Subscript e (.Slice lo hi none p2) pos) (mSl rSl me ml mh) := by
  refine pe_w (pe_slice (sl_tupA.or sl_list) he hl hu) fun σ H Q ⟨env, h, Q0, re, rh, m, f⟩ => ?_
  refine ⟨env, h, _, re, rh, m, fun x h1 q1 vx H1 t1 r1 rx => ?_⟩
  refine ⟨env, h1, _, re.mono t1, r1, q1, fun l h2 q2 H2 t2 r2 => ?_⟩
  refine ⟨env, h2, _, re.mono (t1.trans t2), r2, q2, fun u h3 q3 H3 t3 r3 => ?_⟩
  have f3 := Fin.mono (t1.trans (t2.trans t3)) f
  have rx3 := rx.mono (t2.trans t3)
  cases x <;> first | exact q3.elim | skip
  · obtain ⟨a, vs, rfl, ta, rs⟩ := rx3.tup
    refine .inl ⟨a, vs, rfl, ta, fun ⟨z1, z2⟩ => ?_, fun z p np => ?_⟩
    · rw [← rs.length] at z1 z2
      have q4 : Q0 (.tup (cutD _ l u)) h3 := q3
      rw [cut_all z1 z2] at q4
      exact fin_at f3 q4 r3 (rv_tup ta rs)
    · exact f3 _ h3 q3 _ _ (.new np) (r3.skip np) (rv_tup (.of upd_same) ((rs.cut l u).mono (.new np)))
  · obtain ⟨a, vs, rfl, ta, rs⟩ := rx3.rl
    exact .inr ⟨a, vs, rfl, ta.l, fun p np => f3 _ _ (q3 p (r3.free np)) _ _ (.new np) (r3.new np ⟨_, rfl, rs.cut l u⟩) rv_ref⟩
  · obtain ⟨ds, e, q3⟩ := q3
    rw [rx3.ref]
    obtain ⟨vs, E, rs⟩ := r3.lst e
    exact .inr ⟨_, vs, rfl, .of E, fun p np => f3 _ _ (q3 p (r3.free np)) _ _ (.new np) (r3.new np ⟨_, rfl, rs.cut l u⟩) rv_ref⟩
/-! ### built-ins -/
def rLen : MRA := fun xs h Q => match xs with
  | [.tup ds] => Q (.int ds.length) h
  | [.rl ds] => Q (.int ds.length) h
  | [.str z] => z.length ≤ sizeLine ∧ Q (.int z.length) h
  | [.ref a] => ∃ ds, h a = some (.lst ds) ∧ Q (.int ds.length) h
  | _ => False
def rAbs : MRA := fun xs h Q => match xs with
  | [.int i] => Q (.int (if i < 0 then -i else i)) h
  | _ => False
def rMax2 : MRA := fun xs h Q => match xs with
  | [.int i, .int j] => Q (.int (if j > i then j else i)) h
  | _ => False
def rMin2 : MRA := fun xs h Q => match xs with
  | [.int i, .int j] => Q (.int (if j < i then j else i)) h
  | _ => False
def rInt1 : MRA := fun xs h Q => match xs with
  | [.int i] => Q (.int i) h
  | [.bl k] => Q (.int (if k then 1 else 0)) h
  | _ => False
def rStrI : MRA := fun xs h Q => match xs with
  | [.int i] => i.natAbs.log2 < 1920 ∧ Q (.str (toString i)) h
  | _ => False
def rTuple : MRA := fun xs h Q => match xs with
  | [.tup ds] => Q (.tup ds) h
  | [.rl ds] => Q (.tup ds) h
  | [.ref a] => ∃ ds, h a = some (.lst ds) ∧ Q (.tup ds) h
  | _ => False
def rList : MRA := fun xs h Q => match xs with
  | [.tup ds] => ∀ p, h p = none → Q (.ref p) (up h p (.lst ds))
  | [.rl ds] => ∀ p, h p = none → Q (.ref p) (up h p (.lst ds))
  | [.ref a] => ∃ ds, h a = some (.lst ds) ∧ ∀ p, h p = none → Q (.ref p) (up h p (.lst ds))
  | _ => False
def rSum : MRA := fun xs h Q => match xs with
  | [.ref a] => ∃ ns : List Int, h a = some (.lst (ns.map .int)) ∧ Q (.int ns.sum) h
  | _ => False
def rAll : MRA := fun xs h Q => match xs with
  | [.ref a] => ∃ ns : List Bool, h a = some (.lst (ns.map .bl)) ∧ Q (.bl (ns.all id)) h
  | _ => False
def rAny : MRA := fun xs h Q => match xs with
  | [.ref a] => ∃ ns : List Bool, h a = some (.lst (ns.map .bl)) ∧ Q (.bl (ns.any id)) h
  | _ => False
section
variable {X : Cx}
theorem list1 {α : Type} {p : α → Prop} {xs : List α} (h : ∃ x, xs = [x]) : True := trivial
theorem RVs.one {K : PySem.W.Frag} {H : Hp} {d : D} {vs : List V} (h : RVs K H [d] vs) : ∃ v, vs = [v] ∧ RV K H d v := by
  obtain ⟨v, r, rfl, q, t⟩ := h.inv
  rw [t.inv0]
  exact ⟨v, rfl, q⟩
theorem RVs.two {K : PySem.W.Frag} {H : Hp} {d e : D} {vs : List V} (h : RVs K H [d, e] vs) : ∃ v w, vs = [v, w] ∧ RV K H d v ∧ RV K H e w := by
  obtain ⟨v, r, rfl, q, t⟩ := h.inv
  obtain ⟨w, rfl, q2⟩ := t.one
  exact ⟨v, w, rfl, q, q2⟩
theorem cm_len : CaM X (.builtin "len") rLen := by
  refine ⟨_, call_len_seq.or call_len_str, fun xs h Q0 vs H Q q rh rs f => ?_⟩
  unfold rLen at q
  split at q
  · obtain ⟨v, rfl, rx⟩ := rs.one
    obtain ⟨a, vs, rfl, ta, rs⟩ := rx.tup
    exact .inl ⟨a, vs, rfl, .inr ta, by rw [← rs.length]; exact fin_at f q rh rv_int⟩
  · obtain ⟨v, rfl, rx⟩ := rs.one
    obtain ⟨a, vs, rfl, ta, rs⟩ := rx.rl
    exact .inl ⟨a, vs, rfl, .inl ta.l, by rw [← rs.length]; exact fin_at f q rh rv_int⟩
  · obtain ⟨v, rfl, rx⟩ := rs.one
    rw [rx.str]
    exact .inr ⟨_, rfl, q.1, fin_at f q.2 rh rv_int⟩
  · obtain ⟨v, rfl, rx⟩ := rs.one
    rw [rx.ref]
    obtain ⟨ds, e, q⟩ := q
    obtain ⟨vs, E, rs⟩ := rh.lst e
    exact .inl ⟨_, vs, rfl, .inl (.of E), by rw [← rs.length]; exact fin_at f q rh rv_int⟩
  · exact q.elim
theorem cm_abs : CaM X (.builtin "abs") rAbs := by
  refine ⟨_, call_abs, fun xs h Q0 vs H Q q rh rs f => ?_⟩
  unfold rAbs at q
  split at q
  · obtain ⟨v, rfl, rx⟩ := rs.one
    rw [rx.int]
    exact ⟨_, rfl, fin_at f q rh rv_int⟩
  · exact q.elim
theorem cm_max2 (hc : X.calm = true) : CaM X (.builtin "max") rMax2 := by
  refine ⟨_, call_max2 hc, fun xs h Q0 vs H Q q rh rs f => ?_⟩
  unfold rMax2 at q
  split at q
  · obtain ⟨v, w, rfl, rx, ry⟩ := rs.two
    rw [rx.int, ry.int]
    exact ⟨_, _, rfl, fin_at f q rh rv_int⟩
  · exact q.elim
theorem cm_min2 (hc : X.calm = true) : CaM X (.builtin "min") rMin2 := by
  refine ⟨_, call_min2 hc, fun xs h Q0 vs H Q q rh rs f => ?_⟩
  unfold rMin2 at q
  split at q
  · obtain ⟨v, w, rfl, rx, ry⟩ := rs.two
    rw [rx.int, ry.int]
    exact ⟨_, _, rfl, fin_at f q rh rv_int⟩
  · exact q.elim
theorem cm_int : CaM X (.type "int") rInt1 := by
  refine ⟨_, call_int1, fun xs h Q0 vs H Q q rh rs f => ?_⟩
  unfold rInt1 at q
  split at q
  · obtain ⟨v, rfl, rx⟩ := rs.one
    rw [rx.int]
    exact .inl ⟨_, rfl, fin_at f q rh rv_int⟩
  · obtain ⟨v, rfl, rx⟩ := rs.one
    rw [rx.bl]
    exact .inr ⟨_, rfl, fin_at f q rh rv_int⟩
  · exact q.elim
theorem cm_strI : CaM X (.type "str") rStrI := by
  refine ⟨_, call_str_int, fun xs h Q0 vs H Q q rh rs f => ?_⟩
  unfold rStrI at q
  split at q
  · obtain ⟨v, rfl, rx⟩ := rs.one
    rw [rx.int]
    exact ⟨_, rfl, q.1, fin_at f q.2 rh rv_str⟩
  · exact q.elim
theorem cm_tuple : CaM X (.type "tuple") rTuple := by
  refine ⟨_, call_tuple_of, fun xs h Q0 vs H Q q rh rs f => ?_⟩
  unfold rTuple at q
  split at q
  · obtain ⟨v, rfl, rx⟩ := rs.one
    obtain ⟨a, vs, rfl, ta, rs⟩ := rx.tup
    exact ⟨a, vs, rfl, .inr ⟨ta, fin_at f q rh (rv_tup ta rs)⟩⟩
  · obtain ⟨v, rfl, rx⟩ := rs.one
    obtain ⟨a, vs, rfl, ta, rs⟩ := rx.rl
    exact ⟨a, vs, rfl, .inl ⟨ta.l, fun p np => f _ h q _ _ (.new np) (rh.skip np) (rv_tup (.of upd_same) (rs.mono (.new np)))⟩⟩
  · obtain ⟨v, rfl, rx⟩ := rs.one
    rw [rx.ref]
    obtain ⟨ds, e, q⟩ := q
    obtain ⟨vs, E, rs⟩ := rh.lst e
    exact ⟨_, vs, rfl, .inl ⟨.of E, fun p np => f _ h q _ _ (.new np) (rh.skip np) (rv_tup (.of upd_same) (rs.mono (.new np)))⟩⟩
  · exact q.elim
theorem cm_list : CaM X (.type "list") rList := by
  refine ⟨_, call_list_of, fun xs h Q0 vs H Q q rh rs f => ?_⟩
  unfold rList at q
  split at q
  · obtain ⟨v, rfl, rx⟩ := rs.one
    obtain ⟨a, vs, rfl, ta, rs⟩ := rx.tup
    exact ⟨a, vs, rfl, .inr ta, fun p np => f _ _ (q p (rh.free np)) _ _ (.new np) (rh.new np ⟨_, rfl, rs⟩) rv_ref⟩
  · obtain ⟨v, rfl, rx⟩ := rs.one
    obtain ⟨a, vs, rfl, ta, rs⟩ := rx.rl
    exact ⟨a, vs, rfl, .inl ta.l, fun p np => f _ _ (q p (rh.free np)) _ _ (.new np) (rh.new np ⟨_, rfl, rs⟩) rv_ref⟩
  · obtain ⟨v, rfl, rx⟩ := rs.one
    rw [rx.ref]
    obtain ⟨ds, e, q⟩ := q
    obtain ⟨vs, E, rs⟩ := rh.lst e
    exact ⟨_, vs, rfl, .inl (.of E), fun p np => f _ _ (q p (rh.free np)) _ _ (.new np) (rh.new np ⟨_, rfl, rs⟩) rv_ref⟩
  · exact q.elim
theorem cm_sum (hc : X.calm = true) : CaM X (.builtin "sum") rSum := by
  refine ⟨_, cr_sum hc, fun xs h Q0 vs H Q q rh rs f => ?_⟩
  unfold rSum at q
  split at q
  · obtain ⟨v, rfl, rx⟩ := rs.one
    rw [rx.ref]
    obtain ⟨ds, e, q⟩ := q
    obtain ⟨vs, E, rs⟩ := rh.lst e
    rw [rs.ints] at E
    exact ⟨_, _, rfl, .of E, fin_at f q rh rv_int⟩
  · exact q.elim
theorem cm_all (hc : X.calm = true) : CaM X (.builtin "all") rAll := by
  refine ⟨_, cr_all hc, fun xs h Q0 vs H Q q rh rs f => ?_⟩
  unfold rAll at q
  split at q
  · obtain ⟨v, rfl, rx⟩ := rs.one
    rw [rx.ref]
    obtain ⟨ds, e, q⟩ := q
    obtain ⟨vs, E, rs⟩ := rh.lst e
    rw [rs.bls] at E
    exact ⟨_, _, rfl, .of E, fin_at f q rh rv_bl⟩
  · exact q.elim
theorem cm_any (hc : X.calm = true) : CaM X (.builtin "any") rAny := by
  refine ⟨_, cr_any hc, fun xs h Q0 vs H Q q rh rs f => ?_⟩
  unfold rAny at q
  split at q
  · obtain ⟨v, rfl, rx⟩ := rs.one
    rw [rx.ref]
    obtain ⟨ds, e, q⟩ := q
    obtain ⟨vs, E, rs⟩ := rh.lst e
    rw [rs.bls] at E
    exact ⟨_, _, rfl, .of E, fin_at f q rh rv_bl⟩
  · exact q.elim
end
end M

namespace M
open PySem L2
/-! ### targets: names and tuples of names -/
inductive Tg where
  | nm (i : Nat) | tp (ts : List Tg)
mutual
def asg : Tg → D → ME → Option ME
  | .nm i, d, env => some (env.set i (some d))
  | .tp ts, .tup ds, env => asgs ts ds env
  | .tp _, _, _ => none
def asgs : List Tg → List D → ME → Option ME
  | [], [], env => some env
  | t :: ts, d :: ds, env => match asg t d env with
    | some env' => asgs ts ds env'
    | none => none
  | _, _, _ => none
end
mutual
def gT (K : PySem.W.Frag) : Tg → TG
  | .nm i => gName i
  | .tp ts => gTup K ts.length (gTs K ts)
def gTs (K : PySem.W.Frag) : List Tg → TGs
  | [] => gNil
  | t :: ts => gCons (gT K t) (gTs K ts)
end
mutual
def Tg.in (vs : List Nat) : Tg → Prop
  | .nm i => i ∈ vs
  | .tp ts => Tg.ins vs ts
def Tg.ins (vs : List Nat) : List Tg → Prop
  | [] => True
  | t :: ts => t.in vs ∧ Tg.ins vs ts
end
theorem asgs_len : ∀ {ts : List Tg} {ds : List D} {env env' : ME}, asgs ts ds env = some env' → ts.length = ds.length
  | [], [], _, _, _ => rfl
  | [], _ :: _, _, _, e => by simp [asgs] at e
  | _ :: _, [], _, _, e => by simp [asgs] at e
  | t :: ts, d :: ds, env, env', e => by
    simp only [asgs] at e
    split at e
    · rename_i x y
      rw [List.length_cons, List.length_cons, asgs_len e]
    · cases e
theorem wipe_set {σ : L2.St} {i : Nat} {x : Option V} : ∀ {vs : List Nat}, i ∈ vs → wipe (σ.set i x) vs = wipe σ vs
  | [], h => by cases h
  | v :: vs, h => by
    unfold wipe
    by_cases c : i ∈ vs
    · rw [wipe_set c]
    · have e : i = v := by
        rcases List.mem_cons.mp h with z | z
        · exact z
        · exact absurd z c
      subst e
      have : ∀ (ws : List Nat) (τ : L2.St), i ∉ ws → wipe (τ.set i x) ws = (wipe τ ws).set i x := fun ws => by
        induction ws with
        | nil => intro τ _; rfl
        | cons w ws ih =>
          intro τ hn
          unfold wipe
          rw [ih τ (fun z => hn (List.mem_cons_of_mem _ z)), List.set_comm _ _ (fun z => hn (by rw [z]; exact List.mem_cons_self))]
      rw [this vs σ c, List.set_set]
section
variable {K : PySem.W.Frag} {Hb H : Hp}
mutual
theorem gT_ok : ∀ {t : Tg} {d : D} {env env' : ME} {v : V} {σ : L2.St}, asg t d env = some env' → RV K H d v → REnv K Hb H env σ →
    ∃ σ', (∀ Q : L2.St → Hp → Prop, Q σ' H → gT K t v σ H Q) ∧ REnv K Hb H env' σ' ∧ ∀ vs, t.in vs → wipe σ' vs = wipe σ vs
  | .nm i, d, env, env', v, σ, e, r, re => by
    simp only [asg] at e
    cases e
    exact ⟨_, fun Q q => q, re.set i r, fun vs h => wipe_set h⟩
  | .tp ts, .tup ds, env, env', v, σ, e, r, re => by
    simp only [asg] at e
    obtain ⟨a, vs, rfl, ta, rs⟩ := r.tup
    obtain ⟨σ', h1, h2, h3⟩ := gTs_ok e rs re
    exact ⟨σ', fun Q q => ⟨a, vs, rfl, ta, by rw [asgs_len e, rs.length], h1 Q q⟩, h2, fun ws hw => h3 ws hw⟩
  | .tp ts, .non, _, _, _, _, e, _, _ => by simp [asg] at e
  | .tp ts, .bl _, _, _, _, _, e, _, _ => by simp [asg] at e
  | .tp ts, .int _, _, _, _, _, e, _, _ => by simp [asg] at e
  | .tp ts, .str _, _, _, _, _, e, _, _ => by simp [asg] at e
  | .tp ts, .rl _, _, _, _, _, e, _, _ => by simp [asg] at e
  | .tp ts, .ref _, _, _, _, _, e, _, _ => by simp [asg] at e
theorem gTs_ok : ∀ {ts : List Tg} {ds : List D} {env env' : ME} {xs : List V} {σ : L2.St}, asgs ts ds env = some env' → RVs K H ds xs → REnv K Hb H env σ →
    ∃ σ', (∀ Q : L2.St → Hp → Prop, Q σ' H → gTs K ts xs σ H Q) ∧ REnv K Hb H env' σ' ∧ ∀ vs, Tg.ins vs ts → wipe σ' vs = wipe σ vs
  | [], [], env, env', xs, σ, e, r, re => by
    simp only [asgs] at e
    cases e
    exact ⟨σ, fun Q q => ⟨r.inv0, q⟩, re, fun _ _ => rfl⟩
  | [], _ :: _, _, _, _, _, e, _, _ => by simp [asgs] at e
  | _ :: _, [], _, _, _, _, e, _, _ => by simp [asgs] at e
  | t :: ts, d :: ds, env, env', xs, σ, e, r, re => by
    simp only [asgs] at e
    split at e
    · rename_i env1 e1
      obtain ⟨v, ws, rfl, q, rs⟩ := r.inv
      obtain ⟨σ1, h1, h2, h3⟩ := gT_ok e1 q re
      obtain ⟨σ2, k1, k2, k3⟩ := gTs_ok e rs h2
      exact ⟨σ2, fun Q q => ⟨v, ws, rfl, h1 _ (k1 Q q)⟩, k2, fun vs hv => (k3 vs hv.2).trans (h3 vs hv.1)⟩
    · cases e
end
end
def IG (X : Cx) (e : Expr) (t : Tg) : Prop := PG X e (gT X.K t)
def IGs (X : Cx) (e : List Expr) (t : List Tg) : Prop := PGs X e (gTs X.K t)
section
variable {X : Cx} {Hb : Hp} {a b c e o : Expr} {es : List Expr} {ma mb mc me mo : MTE} {pos : Pos} {mt mu : MTT} {ms : MTA} {r r' : MR2} {s : Stmt} {ss : List Stmt} {m1 m2 : MTS}
theorem ig_name (i : Nat) {x : Str} (hN : X.N.Nodup) (hi : X.N[i]? = some x := by rfl) (hx : Loc X.env.scope x := by first | exact Or.inl rfl | exact Or.inr rfl) (hf : X.fn x = true ∨ X.env.scope.names.lookup x = some .local := by first | exact .inl rfl | exact .inr rfl | assumption) : IG X (.Name x pos) (.nm i) := by
  have h := pg_name (pos := pos) hN hi hx hf
  unfold IG; unfold gT; exact h
theorem ig_nil : IGs X [] [] := by unfold IGs; unfold gTs; exact pgs_nil
theorem ig_cons {t : Tg} {ts : List Tg} (h : IG X e t) (hs : IGs X es ts) (h1 : (assignEach (e :: es) X.env).map (·.2) = assign e X.env :: (assignEach es X.env).map (·.2) := by rfl) : IGs X (e :: es) (t :: ts) := by
  unfold IGs; unfold gTs; exact pgs_cons h hs h1
theorem ig_tup {k : Nat} {ts : List Tg} (hc : X.calm = true) (h : IGs X es ts) (hn : (assignEach es X.env).length = ts.length := by rfl) (hst : (assignEach es X.env).findIdx? (·.1) = none := by rfl) : IG X (.Tuple es k pos) (.tp ts) := by
  unfold IG; unfold gT; exact pg_tup hc h hn hst
/-! ### statements -/
def mNext : MTS := fun D' env h => D'.nx env h
def mSeq (a b : MTS) : MTS := fun D' env h => a { D' with nx := b D' } env h
def mBrk : MTS := fun D' env h => D'.bk env h
def mCt : MTS := fun D' env h => D'.ct env h
def mDrop (a : MTE) : MTS := fun D' env h => a env h fun _ h1 => D'.nx env h1
def mRet (a : MTE) : MTS := fun D' env h => a env h D'.rt
def mRetN : MTS := fun D' env h => D'.rt .non h
def mIf (c : MTT) (a b : MTS) : MTS := fun D' env h => c env h fun k h1 => if k = true then a D' env h1 else b D' env h1
def mAsg (a : MTE) (t : Tg) : MTS := fun D' env h => a env h fun d h1 => ∃ env', asg t d env = some env' ∧ D'.nx env' h1
def mSet (i : Nat) (a : MTE) : MTS := fun D' env h => a env h fun d h1 => D'.nx (env.set i (some d)) h1
abbrev MRSet := D → D → D → MH → (MH → Prop) → Prop
def mPut (r : MRSet) (a o i : MTE) : MTS := fun D' env h => a env h fun d h1 => o env h1 fun x h2 => i env h2 fun y h3 => r x y d h3 fun h4 => D'.nx env h4
def mPar (i j : Nat) (a b : MTE) : MTS := fun D' env h => a env h fun x h1 => b env h1 fun y h2 => D'.nx ((env.set i (some x)).set j (some y)) h2
def mAug (i : Nat) (r : MR2) (a : MTE) : MTS := fun D' env h => ∃ x, env[i]? = some (some x) ∧ a env h fun y h1 => r x y h1 fun z h2 => D'.nx (env.set i (some z)) h2
/-- ends -/
structure FinS (K : PySem.W.Frag) (Hb H : Hp) (D0 : MEnds) (D' : Ends) : Prop where
  nx : ∀ env' h', D0.nx env' h' → ∀ σ' H', TL H H' → REnv K Hb H' env' σ' → HR K h' H' → D'.nx σ' H'
  rt : ∀ d h', D0.rt d h' → ∀ v H', TL H H' → RV K H' d v → HR K h' H' → D'.rt v H'
  bk : ∀ env' h', D0.bk env' h' → ∀ σ' H', TL H H' → REnv K Hb H' env' σ' → HR K h' H' → D'.bk σ' H'
  ct : ∀ env' h', D0.ct env' h' → ∀ σ' H', TL H H' → REnv K Hb H' env' σ' → HR K h' H' → D'.ct σ' H'
theorem FinS.mono {K : PySem.W.Frag} {Hb H H' : Hp} {D0 : MEnds} {D' : Ends} (t : TL H H') (f : FinS K Hb H D0 D') : FinS K Hb H' D0 D' :=
  ⟨fun env' h' q σ' H2 t2 => f.nx env' h' q σ' H2 (t.trans t2), fun d h' q v H2 t2 => f.rt d h' q v H2 (t.trans t2), fun env' h' q σ' H2 t2 => f.bk env' h' q σ' H2 (t.trans t2), fun env' h' q σ' H2 t2 => f.ct env' h' q σ' H2 (t.trans t2)⟩
theorem liftS_iff {K : PySem.W.Frag} {m : MTS} {D' : Ends} {σ : L2.St} {H : Hp} : liftS K Hb m D' σ H ↔ ∃ env h D0, REnv K Hb H env σ ∧ HR K h H ∧ m D0 env h ∧ FinS K Hb H D0 D' :=
  ⟨fun ⟨env, h, D0, re, rh, m, f1, f2, f3, f4⟩ => ⟨env, h, D0, re, rh, m, f1, f2, f3, f4⟩, fun ⟨env, h, D0, re, rh, m, f⟩ => ⟨env, h, D0, re, rh, m, f.nx, f.rt, f.bk, f.ct⟩⟩
theorem is_of {t : TS} {m : MTS} (h : PS X s t) (w : ∀ D' σ H env h D0, REnv X.K Hb H env σ → HR X.K h H → m D0 env h → FinS X.K Hb H D0 D' → t D' σ H) : IS X Hb s m :=
  ps_w h fun D' σ H q => let ⟨env, hh, D0, re, rh, m, f⟩ := liftS_iff.mp q; w D' σ H env hh D0 re rh m f
theorem iss_of {t : TS} {m : MTS} (h : PSs X ss t) (w : ∀ D' σ H env h D0, REnv X.K Hb H env σ → HR X.K h H → m D0 env h → FinS X.K Hb H D0 D' → t D' σ H) : ISs X Hb ss m :=
  pss_w h fun D' σ H q => let ⟨env, hh, D0, re, rh, m, f⟩ := liftS_iff.mp q; w D' σ H env hh D0 re rh m f
theorem iss_nil : ISs X Hb [] mNext := iss_of pss_nil fun D' σ H env h D0 re rh m f => f.nx env h m σ H (.refl H) re rh
theorem iss_cons (h1 : IS X Hb s m1) (h2 : ISs X Hb ss m2) : ISs X Hb (s :: ss) (mSeq m1 m2) := by
  refine iss_of (pss_cons h1 h2) fun D' σ H env h D0 re rh m f => ?_
  refine liftS_iff.mpr ⟨env, h, _, re, rh, m, ?_, f.rt, f.bk, f.ct⟩
  exact fun env' h' q σ' H' t re' rh' => liftS_iff.mpr ⟨env', h', D0, re', rh', q, f.mono t⟩
theorem iss_one (h : IS X Hb s m1) : ISs X Hb [s] m1 := pss_one h
theorem is_pass : IS X Hb (.Pass pos) mNext := is_of ps_pass fun D' σ H env h D0 re rh m f => f.nx env h m σ H (.refl H) re rh
theorem is_break : IS X Hb (.Break pos) mBrk := is_of ps_break fun D' σ H env h D0 re rh m f => f.bk env h m σ H (.refl H) re rh
theorem is_continue : IS X Hb (.Continue pos) mCt := is_of ps_continue fun D' σ H env h D0 re rh m f => f.ct env h m σ H (.refl H) re rh
theorem is_expr (he : IE X Hb e me) (hs : swapsWith e none pos.line X.env = pure false := by rfl) : IS X Hb (.Expr e pos) (mDrop me) := by
  refine is_of (ps_expr he hs) fun D' σ H env h D0 re rh m f => ?_
  exact ⟨env, h, _, re, rh, m, fun d h1 q v H1 t1 r1 rv => f.nx env h1 q σ H1 t1 (re.mono t1) r1⟩
theorem is_ret (he : IE X Hb e me) : IS X Hb (.Return (some e) pos) (mRet me) := by
  refine is_of (ps_ret he) fun D' σ H env h D0 re rh m f => ?_
  exact ⟨env, h, _, re, rh, m, fun d h1 q v H1 t1 r1 rv => f.rt d h1 q v H1 t1 rv r1⟩
theorem is_retN : IS X Hb (.Return none pos) mRetN := is_of ps_retN fun D' σ H env h D0 re rh m f => f.rt .non h m .non H (.refl H) rv_non rh
theorem is_if {ss tt : List Stmt} (hc : IT X Hb c mt) (ha : ISs X Hb ss m1) (hb : ISs X Hb tt m2) : IS X Hb (.If c ss tt pos) (mIf mt m1 m2) := by
  refine is_of (ps_if hc ha hb) fun D' σ H env h D0 re rh m f => ?_
  refine ⟨env, h, _, re, rh, m, fun k h1 q1 H1 t1 r1 => ?_⟩
  cases k with
  | true => exact liftS_iff.mpr ⟨env, h1, D0, re.mono t1, r1, q1, f.mono t1⟩
  | false => exact liftS_iff.mpr ⟨env, h1, D0, re.mono t1, r1, q1, f.mono t1⟩
theorem is_asg {tg : Expr} {t : Tg} (he : IE X Hb e me) (hg : IG X tg t) (hs : swapsWithSole [tg] e pos.line X.env = pure false := by rfl) (hw : swappedStores [tg] e X.env = pure none := by rfl)
    (h1 : (assignEach [tg] X.env).map (·.2) = [assign tg X.env] := by rfl) : IS X Hb (.Assign [tg] e pos) (mAsg me t) := by
  refine is_of (ps_asg he hg hs hw h1) fun D' σ H env h D0 re rh m f => ?_
  refine ⟨env, h, _, re, rh, m, ?_⟩
  rintro d h1 ⟨env', e1, q⟩ v H1 t1 r1 rv
  obtain ⟨σ', k1, k2, _⟩ := gT_ok e1 rv (re.mono t1)
  exact k1 _ (f.nx env' h1 q σ' H1 t1 k2 r1)
theorem is_set (i : Nat) {x : Str} {pos' : Pos} (hN : X.N.Nodup) (he : IE X Hb e me) (hi : X.N[i]? = some x := by rfl) (hx : Loc X.env.scope x := by first | exact Or.inl rfl | exact Or.inr rfl)
    (hs : swapsWith e (some (.Name x pos')) pos.line X.env = pure false := by rfl) (hf : X.fn x = true ∨ X.env.scope.names.lookup x = some .local := by first | exact .inl rfl | exact .inr rfl | assumption) : IS X Hb (.Assign [.Name x pos'] e pos) (mSet i me) := by
  refine is_of (ps_set hN hi hx he hs hf) fun D' σ H env h D0 re rh m f => ?_
  exact ⟨env, h, _, re, rh, m, fun d h1 q v H1 t1 r1 rv => f.nx _ h1 q _ H1 t1 ((re.mono t1).set i rv) r1⟩
/-- o[i] = e -/
def SeM (X : Cx) (r : MRSet) : Prop := ∃ R : TSet, PSet X R ∧ ∀ (o i v : D) (h : MH) (Q0 : MH → Prop) (vo vi vv : V) (H : Hp) (Q : Hp → Prop), r o i v h Q0 → HR X.K h H → RV X.K H o vo → RV X.K H i vi → RV X.K H v vv →
  (∀ h', Q0 h' → ∀ H', TL H H' → HR X.K h' H' → Q H') → R vo vi vv H Q
theorem is_put {i : Expr} {mi : MTE} {rs : MRSet} {pos' : Pos} (hs : SeM X rs) (he : IE X Hb e me) (ho : IE X Hb o mo) (hi : IE X Hb i mi)
    (ha : ∀ v, assign (.Subscript o i pos') X.env v = (do
      let ov ← holding [v] (eval o X.env)
      let iv ← holding [v, ov] (eval i X.env)
      standAt pos'
      holding [v, ov, iv] (setItem ov iv v)
      release [v, ov, iv] []) := by intro _; rfl)
    (h2 : swapsWithSole [.Subscript o i pos'] e pos.line X.env = pure false := by rfl) (hw : swappedStores [.Subscript o i pos'] e X.env = pure none := by rfl)
    (h1 : (assignEach [.Subscript o i pos'] X.env).map (·.2) = [assign (.Subscript o i pos') X.env] := by rfl) : IS X Hb (.Assign [.Subscript o i pos'] e pos) (mPut rs me mo mi) := by
  obtain ⟨R, hR, hi'⟩ := hs
  refine is_of (ps_asg he (pg_sub ho hi hR ha) h2 hw h1) fun D' σ H env h D0 re rh m f => ?_
  refine ⟨env, h, _, re, rh, m, fun d h1 q1 v H1 t1 r1 rv => ?_⟩
  refine ⟨env, h1, _, re.mono t1, r1, q1, fun x h2 q2 vx H2 t2 r2 rx => ?_⟩
  refine ⟨env, h2, _, (re.mono t1).mono t2, r2, q2, fun y h3 q3 vy H3 t3 r3 ry => ?_⟩
  refine hi' x y d h3 _ vx vy v H3 _ q3 r3 (rx.mono t3) ry (rv.mono (t2.trans t3)) fun h4 q4 H4 t4 r4 => ?_
  have tt := t1.trans (t2.trans (t3.trans t4))
  exact f.nx env h4 q4 σ H4 tt (re.mono tt) r4
theorem is_par (i j : Nat) {x y : Str} {px py pt : Pos} {kt k2 pt2} (hc : X.calm = true) (hN : X.N.Nodup) (ha : IE X Hb a ma) (hb : IE X Hb b mb)
    (hi : X.N[i]? = some x := by rfl) (hj : X.N[j]? = some y := by rfl) (hij : i ≠ j := by decide)
    (hx : X.env.scope.names.lookup x = some .local := by rfl) (hy : X.env.scope.names.lookup y = some .local := by rfl)
    (hw : swappedStores [.Tuple [.Name x px, .Name y py] kt pt] (.Tuple [a, b] k2 pt2) X.env = pure (some [x, y]) := by rfl)
    (hs : swapsWithSole [.Tuple [.Name x px, .Name y py] kt pt] (.Tuple [a, b] k2 pt2) pos.line X.env = pure false := by rfl)
    (hA : starEach [a, b] X.env = (false, eval a X.env) :: starEach [b] X.env := by rfl) (hB : starEach [b] X.env = (false, eval b X.env) :: starEach [] X.env := by rfl) :
    IS X Hb (.Assign [.Tuple [.Name x px, .Name y py] kt pt] (.Tuple [a, b] k2 pt2) pos) (mPar i j ma mb) := by
  refine is_of (ps_par hc hN hi hj hij hx hy (ia_cons ha (ia_cons hb ia_nil hB) hA) hw hs) fun D' σ H env h D0 re rh m f => ?_
  refine ⟨env, h, (fun ds h1 => ∃ u w, ds = [u, w] ∧ D0.nx ((env.set i (some u)).set j (some w)) h1), re, rh, ?_, ?_⟩
  · show ma env h fun u h1 => mb env h1 fun w h2 => ∃ u' w', [u, w] = [u', w'] ∧ _
    have m' : ma env h fun x h1 => mb env h1 fun y h2 => D0.nx ((env.set i (some x)).set j (some y)) h2 := m
    have e : (fun u h1 => mb env h1 fun w h2 => ∃ u' w', [u, w] = [u', w'] ∧ D0.nx ((env.set i (some u')).set j (some w')) h2) = (fun x h1 => mb env h1 fun y h2 => D0.nx ((env.set i (some x)).set j (some y)) h2) := by
      funext u h1
      refine congrArg _ ?_
      funext w h2
      refine propext ⟨?_, fun q => ⟨u, w, rfl, q⟩⟩
      rintro ⟨u', w', z, q⟩
      cases z
      exact q
    rw [e]
    exact m'
  · rintro ds h1 ⟨u, w, rfl, q⟩ vs H1 t1 r1 rs
    obtain ⟨v1, v2, rfl, rx, ry⟩ := rs.two
    exact ⟨v1, v2, rfl, f.nx _ h1 q _ H1 t1 (((re.mono t1).set i rx).set j ry) r1⟩
/-- in place, by values -/
def IpM (X : Cx) (op : Operator) (r : MR2) : Prop := ∃ R : TIp, PIp X op R ∧ ∀ (x y : D) (h : MH) (Q0 : MQ) (vx vy : V) (H : Hp) (Q : VK), r x y h Q0 → HR X.K h H → RV X.K H x vx → RV X.K H y vy → Fin X.K H Q0 Q → R vx vy H Q
def rIAdd : MR2 := fun x y h Q => match x, y with
  | .int i, .int j => Q (.int (i + j)) h
  | _, _ => False
theorem im_add : IpM X .Add rIAdd := by
  refine ⟨_, ip_add, fun x y h Q0 vx vy H Q q rh rx ry f => ?_⟩
  cases x <;> cases y <;> first | exact q.elim | skip
  rw [rx.int, ry.int]
  exact ⟨_, _, rfl, rfl, fin_at f q rh rv_int⟩
theorem im_sub : IpM X .Sub rSub := by
  refine ⟨_, ip_sub, fun x y h Q0 vx vy H Q q rh rx ry f => ?_⟩
  cases x <;> cases y <;> first | exact q.elim | skip
  rw [rx.int, ry.int]
  exact ⟨_, _, rfl, rfl, fin_at f q rh rv_int⟩
theorem is_aug (i : Nat) {x : Str} {op : Operator} {pos' : Pos} (hN : X.N.Nodup) (ho : IpM X op r) (he : IE X Hb e me) (hi : X.N[i]? = some x := by rfl) (hx : Loc X.env.scope x := by first | exact Or.inl rfl | exact Or.inr rfl)
    (hf : X.fn x = true ∨ X.env.scope.names.lookup x = some .local := by first | exact .inl rfl | exact .inr rfl | assumption) : IS X Hb (.AugAssign (.Name x pos') op e pos) (mAug i r me) := by
  obtain ⟨R, hR, hi'⟩ := ho
  refine is_of (ps_aug hN hi hx he hR hf) fun D' σ H env h D0 re rh m f => ?_
  obtain ⟨d, e1, m⟩ := m
  obtain ⟨v, e2, rv⟩ := re.2.2 i d e1
  refine ⟨v, e2, env, h, _, re, rh, m, fun y h1 q1 vy H1 t1 r1 ry => ?_⟩
  refine hi' d y h1 _ v vy H1 _ q1 r1 (rv.mono t1) ry fun z h2 q2 vz H2 t2 r2 rz => ?_
  exact f.nx _ h2 q2 _ H2 (t1.trans t2) ((re.mono (t1.trans t2)).set i rz) r2
/-- xs[i] = v -/
def rSetL : MRSet := fun o i v h Q => match o, i with
  | .ref a, .int k => ∃ ds, h a = some (.lst ds) ∧ ∃ j, ixN ds.length k = some j ∧ Q (up h a (.lst (ds.set j v)))
  | _, _ => False
theorem se_list : SeM X rSetL := by
  refine ⟨_, set_list, fun o i v h Q0 vo vi vv H Q q rh ro ri rv f => ?_⟩
  cases o <;> cases i <;> first | exact q.elim | skip
  obtain ⟨ds, e, j, z, q⟩ := q
  rw [ro.ref, ri.int]
  obtain ⟨vs, E, rs⟩ := rh.lst e
  have t : TL H (upd H _ (.lst (vs.set j vv))) := .put E (fun _ z => by cases z) (fun _ _ z => by cases z)
  refine ⟨_, vs, _, j, rfl, rfl, E, by rw [← rs.length]; exact z, ?_⟩
  exact f _ q _ t (rh.put t ⟨_, rfl, (rs.set j rv).mono t⟩)
/-! ### while -/
def mWhile (c : MTT) (b : MTS) : MTS := fun D' env h => ∃ W : Nat → ME → MH → Prop, (∃ m, W m env h) ∧ ∀ m env h, W m env h →
  c env h fun k h1 => if k = true then b { D' with nx := fun env' h' => ∃ m', m' < m ∧ W m' env' h', ct := fun env' h' => ∃ m', m' < m ∧ W m' env' h', bk := D'.nx } env h1 else D'.nx env h1
theorem is_while {body : List Stmt} (hp : PassesOwn (model X.prog X.w) X.A X.env X.xe) (hc : IT X Hb c mt) (hb : ISs X Hb body m1) : IS X Hb (.While c body [] pos) (mWhile mt m1) := by
  refine is_of (ps_while hp hc hb) fun D' σ H env h D0 re rh m f => ?_
  obtain ⟨W, ⟨m0, w0⟩, turn⟩ := m
  refine ⟨fun m σ' H' => ∃ env' h', TL H H' ∧ REnv X.K Hb H' env' σ' ∧ HR X.K h' H' ∧ W m env' h', ⟨m0, env, h, .refl H, re, rh, w0⟩, ?_⟩
  rintro m1 σ1 H1 ⟨env1, h1, t1, re1, rh1, w1⟩
  refine ⟨env1, h1, _, re1, rh1, turn m1 env1 h1 w1, fun k h2 q2 H2 t2 r2 => ?_⟩
  cases k with
  | true =>
    refine ⟨fun σ' H' => ∃ env' h', (∃ m', m' < m1 ∧ W m' env' h') ∧ TL H H' ∧ REnv X.K Hb H' env' σ' ∧ HR X.K h' H', ?_, liftS_iff.mpr ⟨env1, h2, _, re1.mono t2, r2, q2, ?_, ?_, ?_, ?_⟩⟩
    · rintro σ' H' ⟨env', h', ⟨m', l, w⟩, t, re', rh'⟩
      exact ⟨m', l, env', h', t, re', rh', w⟩
    · exact fun env' h' q σ' H' t re' rh' => ⟨env', h', q, (t1.trans t2).trans t, re', rh'⟩
    · exact fun d h' q v H' t => f.rt d h' q v H' ((t1.trans t2).trans t)
    · exact fun env' h' q σ' H' t => f.nx env' h' q σ' H' ((t1.trans t2).trans t)
    · exact fun env' h' q σ' H' t re' rh' => ⟨env', h', q, (t1.trans t2).trans t, re', rh'⟩
  | false => exact f.nx env1 h2 q2 σ1 H2 (t1.trans t2) (re1.mono t2) r2
/-! ### what is walked -/
structure MSrc where
  n : Nat
  item : Nat → D
  ok : MH → Prop
abbrev MTI := ME → MH → (MSrc → MH → Prop) → Prop
structure SrcOk (K : PySem.W.Frag) (H0 : Hp) (S : MSrc) (J : It) : Prop where
  go : ∀ i h H, TL H0 H → HR K h H → S.ok h → i < S.n → J.go i H
  yld : ∀ i h H, TL H0 H → HR K h H → S.ok h → i < S.n → ∀ x H', J.yld i H x H' → TL H H' ∧ HR K h H' ∧ RV K H' (S.item i) x
  stop : ∀ h H, TL H0 H → HR K h H → S.ok h → J.stop S.n H
def liftI (K : PySem.W.Frag) (Hb : Hp) (m : MTI) : TI := fun σ H R => ∃ env h, ∃ Q0 : MSrc → MH → Prop, REnv K Hb H env σ ∧ HR K h H ∧ m env h Q0 ∧ ∀ S h', Q0 S h' → ∀ J H', TL H H' → HR K h' H' → SrcOk K H' S J → R J H'
def II (X : Cx) (Hb : Hp) (tg e : Expr) (m : MTI) : Prop := PI X tg e (liftI X.K Hb m)
theorem pi_w {tg e : Expr} {t t' : TI} (h : PI X tg e t) (w : ∀ σ H R, t' σ H R → t σ H R) : PI X tg e t' := ⟨fun pins s σ H R I q => h.run pins s σ H R I (w σ H R q)⟩
def ForW (S : MSrc) (g : Tg) (b : MTS) (D' : MEnds) (env : ME) (h1 : MH) : Prop := ∃ W : Nat → ME → MH → Prop, W 0 env h1 ∧ ∀ k env' h', k ≤ S.n → W k env' h' → S.ok h' ∧
  (k < S.n → ∃ env2, asg g (S.item k) env' = some env2 ∧ b { D' with nx := W (k + 1), ct := W (k + 1), bk := D'.nx } env2 h') ∧ (k = S.n → D'.nx env' h')
def mFor (i : MTI) (g : Tg) (b : MTS) : MTS := fun D' env h => i env h fun S h1 => ForW S g b D' env h1
theorem is_for {iter tg : Expr} {body : List Stmt} {mi : MTI} {g : Tg} (hp : PassesOwn (model X.prog X.w) X.A X.env X.xe) (hc : X.calm = true) (hi : II X Hb tg iter mi) (hg : IG X tg g) (hb : ISs X Hb body m1)
    (hs : ∀ x, foldedSetIterable iter X.env x = pure x := by intro _; rfl) : IS X Hb (.For tg iter body [] pos) (mFor mi g m1) := by
  refine is_of (ps_for hp hc hi hg hb hs) fun D' σ H env h D0 re rh m f => ?_
  refine ⟨env, h, _, re, rh, m, ?_⟩
  rintro S h1 ⟨W, w0, turn⟩ J H1 t1 r1 so
  refine ⟨fun i m σ' H' => m = S.n - i ∧ i ≤ S.n ∧ ∃ env' h', TL H1 H' ∧ REnv X.K Hb H' env' σ' ∧ HR X.K h' H' ∧ W i env' h', ⟨S.n, rfl, Nat.zero_le _, env, h1, .refl H1, re.mono t1, r1, w0⟩, ?_⟩
  rintro i m σ2 H2 ⟨rfl, hi, env2, h2, t2, re2, r2, w2⟩
  obtain ⟨ok, q1, q2⟩ := turn i env2 h2 hi w2
  by_cases c : i < S.n
  · obtain ⟨env3, e3, q⟩ := q1 c
    refine .inr ⟨so.go i h2 H2 t2 r2 ok c, fun σ' H' => ∃ env' h', W (i + 1) env' h' ∧ TL H1 H' ∧ REnv X.K Hb H' env' σ' ∧ HR X.K h' H', ?_, fun x H3 hy => ?_⟩
    · rintro σ' H' ⟨env', h', w, t, re', rh'⟩
      exact ⟨_, by omega, rfl, c, env', h', t, re', rh', w⟩
    · obtain ⟨t3, r3, rx⟩ := so.yld i h2 H2 t2 r2 ok c x H3 hy
      obtain ⟨σ3, k1, k2, _⟩ := gT_ok e3 rx (re2.mono t3)
      have t13 := t1.trans (t2.trans t3)
      refine k1 _ (liftS_iff.mpr ⟨env3, h2, _, k2, r3, q, ?_, ?_, ?_, ?_⟩)
      · exact fun env' h' q σ' H' t re' rh' => ⟨env', h', q, (t2.trans t3).trans t, re', rh'⟩
      · exact fun d h' q v H' t => f.rt d h' q v H' (t13.trans t)
      · exact fun env' h' q σ' H' t => f.nx env' h' q σ' H' (t13.trans t)
      · exact fun env' h' q σ' H' t re' rh' => ⟨env', h', q, (t2.trans t3).trans t, re', rh'⟩
  · have e : i = S.n := by omega
    subst e
    exact .inl ⟨so.stop h2 H2 t2 r2 ok, f.nx env2 h2 (q2 rfl) σ2 H2 (t1.trans t2) re2 r2⟩
end
end M

/-! enumerate of a tuple -/
namespace PySem
open Sem (wp)
set_option maxHeartbeats 1000000 in
theorem meets_enumerate_newT {v : Value} {o : Obj} {H : Heap → Prop} (B : Begins v o H) :
    Meets (Builtin.«enumerate.__new__» ⟨[.type "enumerate", v], []⟩) (fun _ R s => H s.heap ∧
      R (.ok (.ret (.ref (s.heap.push o).objs.size))) { s with heap := (s.heap.push o).push { cls := .type "enumerate", data := .fields #[.none, .bool false, .ref s.heap.objs.size, rawInt 0, .none, .none] } }) :=
  .of_wp fun prog w A R s h => by
    obtain ⟨hp, g, d, tk, os⟩ := s; obtain ⟨h1, h⟩ := h
    have hsub := sub_enumerate
    have q1 : ∀ {A' : Around} {E : Value → Shared → Prop} {Q : Value → Shared → Prop}, Q (.ref hp.objs.size) ⟨hp.push o, g, d, tk, os⟩ → wpAny (model prog w) A' (pyIter v) Q E ⟨hp, g, d, tk, os⟩ :=
      fun q => B.iter prog w _ _ ⟨hp, g, d, tk, os⟩ _ h1 q
    wp_walk using q1
    refine wpAny_stack_any fun st => wpAny_pure ?_
    split
    · rename_i c _ _ _ _ _
      cases (c == Value.type "enumerate")
      · wp_walk using q1
        exact ⟨_, rfl, h⟩
      · wp_walk using q1
        exact ⟨_, rfl, h⟩
    · wp_walk using q1
      exact ⟨_, rfl, h⟩
theorem call_enumerate_tup {prog : Program} {w : World} {A : Around} {E : Value → Shared → Prop} {s : Shared} {l : Addr} {items : Array Value} {Q : Value → Shared → Prop} (hL : s.heap.IsTuple l items)
    (h : ∀ h', IsEnum h' (s.heap.objs.size + 1) s.heap.objs.size 0 .none → h'.IsTupleIter s.heap.objs.size l 0 → h'.objs.size = s.heap.objs.size + 2 →
      (∀ b o, s.heap.get? b = some o → h'.get? b = some o) → Q (.ref (s.heap.objs.size + 1)) { s with heap := h' }) :
    wpAny (model prog w) A (call (.type "enumerate") [.ref l]) Q E s := by
  have B := begins_tuple l items
  refine callType_new F.called_enumerate (by decide) (F.typeCall_enumerate_1 _) (F.newCall_enumerate_1 _) (fun obj => F.args_object_init_2 obj _) F.entry_enumerate_new
    (meets_enumerate_newT B) ⟨hL, ?_⟩
  have hz : (s.heap.push { cls := .type "tuple_iterator", data := .fields #[.ref l, .int 0 0] }).objs.size = s.heap.objs.size + 1 := Heap.size_push ..
  show _ ∧ _
  rw [hz]
  have he : IsEnum ((s.heap.push { cls := .type "tuple_iterator", data := .fields #[.ref l, .int 0 0] }).push
      { cls := .type "enumerate", data := .fields #[.none, .bool false, .ref s.heap.objs.size, rawInt 0, .none, .none] }) (s.heap.objs.size + 1) s.heap.objs.size 0 .none := by
    have := Heap.get?_push_size (s.heap.push { cls := .type "tuple_iterator", data := .fields #[.ref l, .int 0 0] })
      (o := { cls := .type "enumerate", data := .fields #[.none, .bool false, .ref s.heap.objs.size, rawInt 0, .none, .none] }) rfl
    rw [hz] at this; exact this
  refine ⟨⟨_, he, rfl⟩, h _ he ⟨_, Heap.get?_push_of_some _ (Heap.get?_push_size _ rfl), rfl, rfl⟩ (by rw [Heap.size_push, hz]) fun b o x => Heap.get?_push_of_some _ (Heap.get?_push_of_some _ x)⟩
end PySem
namespace M
open PySem L2
def IteT (K : PySem.W.Frag) (a : Addr) : It :=
  ⟨fun i H => ∃ (xs : List V) (x : V), SqT K H a xs ∧ xs[i]? = some x, fun i H v H' => ∃ T x, v = .ref T ∧ H T = none ∧ H' = upd H T (.tup [.int (i : Nat), x]) ∧ ∀ xs, SqT K H a xs → xs[i]? = some x, fun i H => ∃ xs : List V, SqT K H a xs ∧ xs.length = i⟩
theorem iter_ne {h : Heap} {a it : Addr} {i : Nat} {items : Array Value} (t : PyProof.Rows.IsTup h a items) (s : h.IsTupleIter it a i) : a ≠ it := by
  intro e
  subst e
  obtain ⟨o, e1, c1, _⟩ := t
  obtain ⟨o2, e2, c2, _⟩ := s
  rw [e1] at e2
  cases e2
  rw [c1] at c2
  exact absurd (Value.type.inj c2) (by decide)
theorem enum_ne {h : Heap} {a e it : Addr} {c : Int} {old : Value} {items : Array Value} (t : PyProof.Rows.IsTup h a items) (s : IsEnum h e it c old) : e ≠ a := by
  intro z
  subst z
  obtain ⟨o, e1, c1, _⟩ := t
  have s' := s
  unfold IsEnum at s'
  rw [e1] at s'
  have s2 := Option.some.inj s'
  rw [s2] at c1
  exact absurd (Value.type.inj c1) (by decide)
theorem turn_enumT {P : Program} {w : World} {K : PySem.W.Frag} {elts : List Expr} {kk : Nat} {tpos : Pos} (a e it : Addr) :
    Turn P w K (.Tuple elts kk tpos) (IteT K a) [e, it] e (fun i h => (∃ old, IsEnum h e it ((i : Nat) : Int) old) ∧ h.IsTupleIter it a i ∧ e ≠ it) where
  mem := by simp
  obj := fun i h st b hb => by
    obtain ⟨⟨old, he⟩, ⟨o, ho, hc, hd⟩, _⟩ := st
    have e' : b = e ∨ b = it := by simpa using hb
    rcases e' with z | z
    · rw [z]; exact ⟨_, he, fun v q => nomatch q⟩
    · rw [z]; exact ⟨o, ho, fun v q => by rw [hd] at q; cases q⟩
  keep := fun i h h' st k => let ⟨⟨old, he⟩, hi, hne⟩ := st; ⟨⟨old, k e (by simp) _ he⟩, hi.at fun o q => k it (by simp) o q, hne⟩
  item := by
    intro X hP hw hK hc i pins s σ H E I hf st hg
    subst hP hw hK
    obtain ⟨⟨old, he⟩, hit, hne⟩ := st
    obtain ⟨xs, x, hq, hx⟩ := hg
    obtain ⟨its, rv, p, hz⟩ := I.tuple hq
    obtain ⟨u, hu, ru⟩ := rv.get hx
    have hel : e < s.heap.objs.size := Heap.lt_size he
    have hil : it < s.heap.objs.size := by obtain ⟨_, q, _⟩ := hit; exact Heap.lt_size q
    have D := Draws.tuple (prog := X.prog) (w := X.w) (A := X.A.in1) (show X.A.in1.handled = none from I.ok.hd hc) it a (iter_ne p hit) its.toArray
    have hlt : i < its.toArray.size := by
      have q := (List.getElem?_eq_some_iff.mp hu).1
      simpa using q
    refine wpAny_pyNext_enum_itemD D he ⟨hit, show s.heap.IsTuple a its.toArray from p⟩ hlt hne (fun q => ?_) fun y h' tk hP ho st' hT hsz hk => ?_
    · have e' : e = it ∨ e = a := by simpa using q
      rcases e' with z | z
      · exact hne z
      · exact enum_ne p he z
    have hP' : its.toArray[i]? = some y := hP
    have ey : y = u := by
      have hu' : its.toArray[i]? = some u := by simpa using hu
      rw [hu'] at hP'
      exact (Option.some.inj hP').symm
    subst ey
    refine ⟨_, rfl, wpAny_letOwnedTupleGo_enum (s := { s with heap := h', toks := tk + 1 }) ho fun h'' he' sb => ?_⟩
    have hT2 : h''.get? s.heap.objs.size = some { cls := .type "tuple", data := .seq #[.int i tk, y] } := (sb.2 _ (Nat.ne_of_gt hel)).trans hT
    have new : ObjOk X.prog X.w (upd H s.heap.objs.size (.tup [.int (i : Nat), x])) h'' s.heap.objs.size (.tup [.int (i : Nat), x]) :=
      ⟨by show 2 ≤ sizeLine; decide, [.int i tk, y], .cons ⟨_, rfl⟩ (.cons ru .nil), ⟨_, hT2, rfl, _, rfl⟩⟩
    have I1 : Inv X pins σ (upd H s.heap.objs.size (.tup [.int (i : Nat), x])) { s with heap := h'', toks := tk + 1 } :=
      I.turnedNew (ch := [e, it]) (fun b ob hb q => (sb.2 b (fun z => hb (by simp [z]))).trans (hk b ob (fun z => hb (by simp [z])) (fun z => hb (by simp [z])) q)) hf (Nat.le_refl _) new
    refine ⟨.ref s.heap.objs.size, _, I1, rfl, ⟨_, x, rfl, I.hok.fresh (Nat.le_refl _), rfl, fun ys hy => by rw [I.tuple_inj hy hq]; exact hx⟩, ⟨⟨y, ?_⟩, st'.1.at fun o q => (sb.2 it (Ne.symm hne)).trans q, hne⟩, fun b hb => ?_⟩
    · have e1 : ((i + 1 : Nat) : Int) = (i : Int) + 1 := by omega
      rw [e1]; exact he'
    · have hb' : b < s.heap.objs.size := by
        have e' : b = e ∨ b = it := by simpa using hb
        rcases e' with z | z
        · rw [z]; exact hel
        · rw [z]; exact hil
      rw [upd_ne (Nat.ne_of_lt hb')]
      exact (hf b hb).1
  done := by
    intro X hP hw hK hc i pins s σ H E I hf st hg
    subst hP hw hK
    obtain ⟨⟨old, he⟩, hit, hne⟩ := st
    obtain ⟨xs, hq, hx⟩ := hg
    obtain ⟨its, rv, p, hz⟩ := I.tuple hq
    obtain ⟨f0, f1, f2, f3, f4, f5⟩ := hf it (by simp)
    have hl := rv.length
    have D := Draws.tuple (prog := X.prog) (w := X.w) (A := X.A.in1) (show X.A.in1.handled = none from I.ok.hd hc) it a (iter_ne p hit) its.toArray
    have ei : i = its.toArray.size := by simp; omega
    rw [ei] at hit
    exact wpAny_pyNext_enum_endD D he ⟨hit, show s.heap.IsTuple a its.toArray from p⟩ fun h' eb => ⟨rfl, I.turned (t' := s.toks) (fun b o hb q => eb b o hb q) f0 f1 f3 f4 f5⟩
  self := fun A i s Q E st h => let ⟨⟨_, he⟩, _⟩ := st; wpAny_pyIter_enum he h
def iEnumA (K : PySem.W.Frag) (ta : TA) : TI := fun σ H R => ta σ H fun vs H1 => ∃ a xs, vs = [.ref a] ∧ ((SqL K H1 a xs ∧ R (Ite K a) H1) ∨ (SqT K H1 a xs ∧ R (IteT K a) H1))
theorem pi_enumA {X : Cx} {e : Expr} {ta : TA} {p pos tpos : Pos} {elts : List Expr} {kk : Nat} (hg : Gl X "enumerate") (hm : X.mg "enumerate" = none) (ha : PA X [e] ta) (hs : starEach [e] X.env = [(false, eval e X.env)] := by rfl) :
    PI X (.Tuple elts kk tpos) (.Call (.Name "enumerate" p) [e] [] pos) (iEnumA X.K ta) := by
  refine ⟨fun pins s σ H R I h => ?_⟩
  refine PyProof.Rows.Call_ (ld_blt I hg hm PyProof.Rows.boot_enumerate (PyProof.Rows.callWith_type1 (thn (ha.run pos pins s σ H _ I h) fun us s1 ⟨vs, H1, I1, r1, q1⟩ => ?_) hs rfl))
  obtain ⟨a, xs, ex, q1⟩ := q1
  subst ex
  cases r1 with
  | cons r rr =>
    cases rr
    cases r
    have fr : ∀ b, b ∈ [s1.heap.objs.size + 1, s1.heap.objs.size] → FpOk X pins H1 b := fun b hb => by
      have e' : b = s1.heap.objs.size + 1 ∨ b = s1.heap.objs.size := by simpa using hb
      have hle : s1.heap.objs.size ≤ b := by
        rcases e' with z | z
        · rw [z]; exact Nat.le_add_right _ _
        · rw [z]; exact Nat.le_refl _
      exact I1.fpOk hle (I1.hok.fresh hle)
    rcases q1 with ⟨hq, q⟩ | ⟨hq, q⟩
    · obtain ⟨its, rv, p', hz⟩ := I1.list hq
      refine call_enumerate_list p'.isList fun h' he hit hsz hk => wpAny_pyIter_enum he ?_
      have I2 : Inv X pins σ H1 { s1 with heap := h' } := I1.kept (t' := s1.toks) hk
      exact ⟨s1.heap.objs.size + 1, [s1.heap.objs.size + 1, s1.heap.objs.size], _, _, H1, rfl, I2, turn_enum a (s1.heap.objs.size + 1) s1.heap.objs.size, ⟨⟨.none, he⟩, hit, Nat.succ_ne_self _⟩, fr, q⟩
    · obtain ⟨its, rv, p', hz⟩ := I1.tuple hq
      refine call_enumerate_tup (show s1.heap.IsTuple a its.toArray from p') fun h' he hit hsz hk => wpAny_pyIter_enum he ?_
      have I2 : Inv X pins σ H1 { s1 with heap := h' } := I1.kept (t' := s1.toks) hk
      exact ⟨s1.heap.objs.size + 1, [s1.heap.objs.size + 1, s1.heap.objs.size], _, _, H1, rfl, I2, turn_enumT a (s1.heap.objs.size + 1) s1.heap.objs.size, ⟨⟨.none, he⟩, hit, Nat.succ_ne_self _⟩, fr, q⟩
/-- a list, a tuple or a text, by its value -/
def iSeqA (K : PySem.W.Frag) (tl : TE) : TI := fun σ H R => tl σ H fun x H1 => (∃ a xs, x = .ref a ∧ SqL K H1 a xs ∧ R (Itl K a) H1) ∨ (∃ a xs, x = .ref a ∧ SqT K H1 a xs ∧ R (Itt K a) H1) ∨ ∃ z, x = .str z ∧ R (Its z) H1
theorem pi_seqA {X : Cx} {tg l : Expr} {tl : TE} (hl : PE X l tl) : PI X tg l (iSeqA X.K tl) := by
  refine ⟨fun pins s σ H R I h => ?_⟩
  refine thn (hl.run pins s σ H _ I h) fun v s1 ⟨x, H1, I1, r1, q1⟩ => ?_
  rcases q1 with ⟨a, xs, e, hq, q⟩ | ⟨a, xs, e, hq, q⟩ | ⟨z, e, q⟩
  · subst e
    cases r1
    obtain ⟨its, rv, p, hz⟩ := I1.list hq
    refine wpAny_pyIter_list p.isList ?_
    refine ⟨s1.heap.objs.size, [s1.heap.objs.size], _, _, H1, rfl, I1.kept (t' := s1.toks) fun b o e => Heap.get?_push_of_some _ e, turn_list a _, ⟨_, Heap.get?_push_size _ rfl, rfl, rfl⟩, fun b hb => ?_, q⟩
    have e : b = s1.heap.objs.size := by simpa using hb
    subst e
    exact I1.fpOk (Nat.le_refl _) (I1.hok.fresh (Nat.le_refl _))
  · subst e
    cases r1
    obtain ⟨its, rv, p, hz⟩ := I1.tuple hq
    refine wpAny_pyIter_tuple (show s1.heap.IsTuple a its.toArray from p) ?_
    refine ⟨s1.heap.objs.size, [s1.heap.objs.size], _, _, H1, rfl, I1.kept (t' := s1.toks) fun b o e => Heap.get?_push_of_some _ e, turn_tuple a _, ⟨_, Heap.get?_push_size _ rfl, rfl, rfl⟩, fun b hb => ?_, q⟩
    have e : b = s1.heap.objs.size := by simpa using hb
    subst e
    exact I1.fpOk (Nat.le_refl _) (I1.hok.fresh (Nat.le_refl _))
  · subst e
    obtain ⟨t, rfl⟩ := r1
    cases ha : z.cps.all (· < 128)
    · exact wpAny_pyIter_wide ha (pi_one (tk := s1.toks) I1 _ (turn_str _ z t "str_iterator" (.inr rfl)) ⟨_, Heap.get?_push_size _ rfl, rfl, rfl⟩ q)
    · exact wpAny_pyIter_ascii ha (pi_one (tk := s1.toks) I1 _ (turn_str _ z t "str_ascii_iterator" (.inl rfl)) ⟨_, Heap.get?_push_size _ rfl, rfl, rfl⟩ q)
/-! ### sources -/
def srcR (lo : Int) (n : Nat) (c : Int) : MSrc := ⟨n, fun i => .int (lo + (i : Nat) * c), fun _ => True⟩
def srcD (ds : List D) (ok : MH → Prop) : MSrc := ⟨ds.length, fun i => ds.getD i .non, ok⟩
def srcE (ds : List D) (ok : MH → Prop) : MSrc := ⟨ds.length, fun i => .tup [.int (i : Nat), ds.getD i .non], ok⟩
def srcZ (ds es : List D) (ok : MH → Prop) : MSrc := ⟨min ds.length es.length, fun i => .tup [ds.getD i .non, es.getD i .non], ok⟩
def mRange1 (a : MTE) : MTI := fun env h R => a env h fun x h1 => ∃ j, x = .int j ∧ -(2 ^ 62) ≤ j ∧ j < 2 ^ 62 ∧ R (srcR 0 j.toNat 1) h1
def mRange2 (a b : MTE) : MTI := fun env h R => a env h fun x h1 => b env h1 fun y h2 => ∃ i j, x = .int i ∧ y = .int j ∧ (-(2 ^ 62) ≤ i ∧ i < 2 ^ 62 ∧ -(2 ^ 62) ≤ j ∧ j < 2 ^ 62) ∧ R (srcR i (j - i).toNat 1) h2
def mRange3 (a b c : MTE) : MTI := fun env h R => a env h fun x h1 => b env h1 fun y h2 => c env h2 fun z h3 => ∃ i j k n, x = .int i ∧ y = .int j ∧ z = .int k ∧ RgC i j k n ∧ R (srcR i n k) h3
def mIter (a : MTE) : MTI := fun env h R => a env h fun x h1 => match x with
  | .tup ds => R (srcD ds fun _ => True) h1
  | .rl ds => R (srcD ds fun _ => True) h1
  | .str z => R (srcD (z.cps.toList.map fun c => .str ⟨#[c]⟩) fun _ => True) h1
  | .ref a => ∃ ds, h1 a = some (.lst ds) ∧ R (srcD ds fun h => h a = some (.lst ds)) h1
  | _ => False
def mEnum (a : MTE) : MTI := fun env h R => a env h fun x h1 => match x with
  | .tup ds => R (srcE ds fun _ => True) h1
  | .rl ds => R (srcE ds fun _ => True) h1
  | .ref a => ∃ ds, h1 a = some (.lst ds) ∧ R (srcE ds fun h => h a = some (.lst ds)) h1
  | _ => False
def mZip (a b : MTE) : MTI := fun env h R => a env h fun x h1 => b env h1 fun y h2 => match x, y with
  | .tup ds, .tup es => R (srcZ ds es fun _ => True) h2
  | .ref a, .ref b => ∃ ds es, h2 a = some (.lst ds) ∧ h2 b = some (.lst es) ∧ R (srcZ ds es fun h => h a = some (.lst ds) ∧ h b = some (.lst es)) h2
  | _, _ => False
theorem getD_some {ds : List D} {i : Nat} {d : D} (h : i < ds.length) : ds[i]? = some (ds.getD i d) := by
  rw [List.getD_eq_getElem?_getD, List.getElem?_eq_getElem h]; rfl
section
variable {X : Cx} {Hb : Hp} {tg a b c e : Expr} {ma mb mc : MTE} {p pos tpos : Pos} {elts : List Expr} {kk : Nat}
theorem so_itr {K : PySem.W.Frag} {H : Hp} {lo : Int} {n : Nat} : SrcOk K H (srcR lo n 1) (Itr lo n) where
  go := fun i h H _ _ _ hi => hi
  yld := fun i h H1 _ rh _ _ x H' y => by
    obtain ⟨e1, e2⟩ := y
    subst e1 e2
    refine ⟨.refl _, rh, ?_⟩
    show RV _ _ (.int (lo + (i : Nat) * 1)) _
    rw [Int.mul_one]; exact rv_int
  stop := fun h H _ _ _ => Nat.le_refl _
theorem so_itc {K : PySem.W.Frag} {H : Hp} {lo c : Int} {n : Nat} : SrcOk K H (srcR lo n c) (Itc lo c n) where
  go := fun i h H _ _ _ hi => hi
  yld := fun i h H1 _ rh _ _ x H' y => by
    obtain ⟨e1, e2⟩ := y
    subst e1 e2
    exact ⟨.refl _, rh, rv_int⟩
  stop := fun h H _ _ _ => Nat.le_refl _
theorem so_tup {K : PySem.W.Frag} {H : Hp} {a : Addr} {ds : List D} {vs : List V} (ta : SqT K H a vs) (rs : RVs K H ds vs) : SrcOk K H (srcD ds fun _ => True) (Itt K a) where
  go := fun i h H1 t _ _ hi => by
    obtain ⟨v, e, _⟩ := rs.get (List.getElem?_eq_getElem (show i < ds.length from hi))
    exact ⟨vs, v, sqT_mono t ta, e⟩
  yld := fun i h H1 t rh _ hi x H' y => by
    obtain ⟨e1, y⟩ := y
    subst e1
    obtain ⟨v, e, r⟩ := (rs.mono t).get (getD_some (d := .non) (show i < ds.length from hi))
    have e2 := y vs (sqT_mono t ta)
    rw [e] at e2
    cases e2
    exact ⟨.refl _, rh, r⟩
  stop := fun h H1 t _ _ => ⟨vs, sqT_mono t ta, by rw [← rs.length]; exact Nat.le_refl _⟩
theorem so_rl {K : PySem.W.Frag} {H : Hp} {a : Addr} {ds : List D} {vs : List V} (ta : SqI K H a vs) (rs : RVs K H ds vs) : SrcOk K H (srcD ds fun _ => True) (Itl K a) where
  go := fun i h H1 t _ _ hi => by
    obtain ⟨v, e, _⟩ := rs.get (List.getElem?_eq_getElem (show i < ds.length from hi))
    exact ⟨vs, v, (sqI_mono t ta).l, e⟩
  yld := fun i h H1 t rh _ hi x H' y => by
    obtain ⟨e1, y⟩ := y
    subst e1
    obtain ⟨v, e, r⟩ := (rs.mono t).get (getD_some (d := .non) (show i < ds.length from hi))
    have e2 := y vs (sqI_mono t ta).l
    rw [e] at e2
    cases e2
    exact ⟨.refl _, rh, r⟩
  stop := fun h H1 t _ _ => ⟨vs, (sqI_mono t ta).l, by rw [← rs.length]; exact Nat.le_refl _⟩
theorem so_lst {K : PySem.W.Frag} {H : Hp} {a : Addr} {ds : List D} : SrcOk K H (srcD ds fun h => h a = some (.lst ds)) (Itl K a) where
  go := fun i h H1 t rh ok hi => by
    obtain ⟨vs, E, rs⟩ := rh.lst ok
    obtain ⟨v, e, _⟩ := rs.get (List.getElem?_eq_getElem (show i < ds.length from hi))
    exact ⟨vs, v, .of E, e⟩
  yld := fun i h H1 t rh ok hi x H' y => by
    obtain ⟨e1, y⟩ := y
    subst e1
    obtain ⟨vs, E, rs⟩ := rh.lst ok
    obtain ⟨v, e, r⟩ := rs.get (getD_some (d := .non) (show i < ds.length from hi))
    have e2 := y vs (.of E)
    rw [e] at e2
    cases e2
    exact ⟨.refl _, rh, r⟩
  stop := fun h H1 t rh ok => by
    obtain ⟨vs, E, rs⟩ := rh.lst ok
    exact ⟨vs, .of E, by rw [← rs.length]; exact Nat.le_refl _⟩
theorem so_str {K : PySem.W.Frag} {H : Hp} {z : Str} : SrcOk K H (srcD (z.cps.toList.map fun c => .str ⟨#[c]⟩) fun _ => True) (Its z) where
  go := fun i h H1 t rh ok hi => by
    have hi' : i < (z.cps.toList.map fun c => D.str ⟨#[c]⟩).length := hi
    rw [List.length_map] at hi'
    show i < z.cps.size
    simpa using hi'
  yld := fun i h H1 t rh ok hi x H' y => by
    obtain ⟨e1, c, e2, e3⟩ := y
    subst e1 e3
    refine ⟨.refl _, rh, ?_⟩
    have e4 : (z.cps.toList.map fun c => D.str ⟨#[c]⟩)[i]? = some (.str ⟨#[c]⟩) := by
      rw [List.getElem?_map]
      have : z.cps.toList[i]? = some c := by simpa using e2
      rw [this]; rfl
    show RV _ _ ((z.cps.toList.map fun c => D.str ⟨#[c]⟩).getD i .non) _
    rw [List.getD_eq_getElem?_getD, e4]
    exact rv_str
  stop := fun h H1 t rh ok => by
    show z.cps.size ≤ (z.cps.toList.map fun c => D.str ⟨#[c]⟩).length
    rw [List.length_map]; simp
theorem so_enL {K : PySem.W.Frag} {H : Hp} {a : Addr} {ds : List D} : SrcOk K H (srcE ds fun h => h a = some (.lst ds)) (Ite K a) where
  go := fun i h H1 t rh ok hi => by
    obtain ⟨vs, E, rs⟩ := rh.lst ok
    obtain ⟨v, e, _⟩ := rs.get (List.getElem?_eq_getElem (show i < ds.length from hi))
    exact ⟨vs, v, .of E, e⟩
  yld := fun i h H1 t rh ok hi x H' y => by
    obtain ⟨T, z, e1, n, e2, y⟩ := y
    subst e1 e2
    obtain ⟨vs, E, rs⟩ := rh.lst ok
    obtain ⟨v, e, r⟩ := rs.get (getD_some (d := .non) (show i < ds.length from hi))
    have e2 := y vs (.of E)
    rw [e] at e2
    cases e2
    exact ⟨.new n, rh.skip n, rv_tup (.of upd_same) (.cons rv_int (.cons (r.mono (.new n)) .nil))⟩
  stop := fun h H1 t rh ok => by
    obtain ⟨vs, E, rs⟩ := rh.lst ok
    exact ⟨vs, .of E, by rw [← rs.length]; exact Nat.le_refl _⟩
theorem so_enI {K : PySem.W.Frag} {H : Hp} {a : Addr} {ds : List D} {vs : List V} (ta : SqI K H a vs) (rs : RVs K H ds vs) : SrcOk K H (srcE ds fun _ => True) (Ite K a) where
  go := fun i h H1 t rh ok hi => by
    obtain ⟨v, e, _⟩ := rs.get (List.getElem?_eq_getElem (show i < ds.length from hi))
    exact ⟨vs, v, (sqI_mono t ta).l, e⟩
  yld := fun i h H1 t rh ok hi x H' y => by
    obtain ⟨T, z, e1, n, e2, y⟩ := y
    subst e1 e2
    obtain ⟨v, e, r⟩ := (rs.mono t).get (getD_some (d := .non) (show i < ds.length from hi))
    have e2 := y vs (sqI_mono t ta).l
    rw [e] at e2
    cases e2
    exact ⟨.new n, rh.skip n, rv_tup (.of upd_same) (.cons rv_int (.cons (r.mono (.new n)) .nil))⟩
  stop := fun h H1 t rh ok => ⟨vs, (sqI_mono t ta).l, by rw [← rs.length]; exact Nat.le_refl _⟩
theorem so_enT {K : PySem.W.Frag} {H : Hp} {a : Addr} {ds : List D} {vs : List V} (ta : SqT K H a vs) (rs : RVs K H ds vs) : SrcOk K H (srcE ds fun _ => True) (IteT K a) where
  go := fun i h H1 t rh ok hi => by
    obtain ⟨v, e, _⟩ := rs.get (List.getElem?_eq_getElem (show i < ds.length from hi))
    exact ⟨vs, v, sqT_mono t ta, e⟩
  yld := fun i h H1 t rh ok hi x H' y => by
    obtain ⟨T, z, e1, n, e2, y⟩ := y
    subst e1 e2
    obtain ⟨v, e, r⟩ := (rs.mono t).get (getD_some (d := .non) (show i < ds.length from hi))
    have e2 := y vs (sqT_mono t ta)
    rw [e] at e2
    cases e2
    exact ⟨.new n, rh.skip n, rv_tup (.of upd_same) (.cons rv_int (.cons (r.mono (.new n)) .nil))⟩
  stop := fun h H1 t rh ok => ⟨vs, sqT_mono t ta, rs.length.symm⟩
theorem so_zL {K : PySem.W.Frag} {H : Hp} {a b : Addr} {ds es : List D} : SrcOk K H (srcZ ds es fun h => h a = some (.lst ds) ∧ h b = some (.lst es)) (Itz K a b) where
  go := fun i h H1 t rh ok hi => by
    obtain ⟨vs, E, rs⟩ := rh.lst ok.1
    obtain ⟨ws, E2, rt⟩ := rh.lst ok.2
    have hi' : i < min ds.length es.length := hi
    obtain ⟨v, e, _⟩ := rs.get (List.getElem?_eq_getElem (show i < ds.length by omega))
    obtain ⟨w, e2, _⟩ := rt.get (List.getElem?_eq_getElem (show i < es.length by omega))
    exact ⟨vs, ws, v, w, .of E, .of E2, e, e2⟩
  yld := fun i h H1 t rh ok hi x H' y => by
    obtain ⟨T, z, z2, e1, n, e2, y, y2⟩ := y
    subst e1 e2
    obtain ⟨vs, E, rs⟩ := rh.lst ok.1
    obtain ⟨ws, E2, rt⟩ := rh.lst ok.2
    have hi' : i < min ds.length es.length := hi
    obtain ⟨v, e, r⟩ := rs.get (getD_some (d := .non) (show i < ds.length by omega))
    obtain ⟨w, f, r2⟩ := rt.get (getD_some (d := .non) (show i < es.length by omega))
    have e2 := y vs (.of E)
    rw [e] at e2
    cases e2
    have f2 := y2 ws (.of E2)
    rw [f] at f2
    cases f2
    exact ⟨.new n, rh.skip n, rv_tup (.of upd_same) (.cons (r.mono (.new n)) (.cons (r2.mono (.new n)) .nil))⟩
  stop := fun h H1 t rh ok => by
    obtain ⟨vs, E, rs⟩ := rh.lst ok.1
    obtain ⟨ws, E2, rt⟩ := rh.lst ok.2
    refine ⟨vs, ws, .of E, .of E2, ?_⟩
    show vs.length ≤ min ds.length es.length ∨ ws.length ≤ min ds.length es.length
    rw [← rs.length, ← rt.length]
    omega
theorem so_zT {K : PySem.W.Frag} {H : Hp} {a b : Addr} {ds es : List D} {vs ws : List V} (ta : SqT K H a vs) (rs : RVs K H ds vs) (tb : SqT K H b ws) (rt : RVs K H es ws) : SrcOk K H (srcZ ds es fun _ => True) (RZ.ItzT K a b) where
  go := fun i h H1 t rh ok hi => by
    have hi' : i < min ds.length es.length := hi
    obtain ⟨v, e, _⟩ := rs.get (List.getElem?_eq_getElem (show i < ds.length by omega))
    obtain ⟨w, e2, _⟩ := rt.get (List.getElem?_eq_getElem (show i < es.length by omega))
    exact ⟨vs, ws, v, w, sqT_mono t ta, sqT_mono t tb, e, e2⟩
  yld := fun i h H1 t rh ok hi x H' y => by
    obtain ⟨T, z, z2, e1, n, e2, y, y2⟩ := y
    subst e1 e2
    have hi' : i < min ds.length es.length := hi
    obtain ⟨v, e, r⟩ := (rs.mono t).get (getD_some (d := .non) (show i < ds.length by omega))
    obtain ⟨w, f, r2⟩ := (rt.mono t).get (getD_some (d := .non) (show i < es.length by omega))
    have e2 := y vs (sqT_mono t ta)
    rw [e] at e2
    cases e2
    have f2 := y2 ws (sqT_mono t tb)
    rw [f] at f2
    cases f2
    exact ⟨.new n, rh.skip n, rv_tup (.of upd_same) (.cons (r.mono (.new n)) (.cons (r2.mono (.new n)) .nil))⟩
  stop := fun h H1 t rh ok => by
    refine ⟨vs, ws, sqT_mono t ta, sqT_mono t tb, ?_⟩
    show vs.length ≤ min ds.length es.length ∨ ws.length ≤ min ds.length es.length
    rw [← rs.length, ← rt.length]
    omega
theorem ii_range1 (hm : X.mg "range" = none) (ha : IE X Hb a ma) (hg : Gl X "range" := by rfl) (hs : starEach [a] X.env = [(false, eval a X.env)] := by rfl) : II X Hb tg (.Call (.Name "range" p) [a] [] pos) (mRange1 ma) := by
  refine pi_w (pi_range1 hg hm (ia_cons ha ia_nil hs) hs) fun σ H R ⟨env, h, Q0, re, rh, m, f⟩ => ?_
  refine ⟨env, h, (fun ds h1 => ∃ j, ds = [.int j] ∧ -(2 ^ 62) ≤ j ∧ j < 2 ^ 62 ∧ Q0 (srcR 0 j.toNat 1) h1), re, rh, ?_, ?_⟩
  · have e : (fun x h1 => ∃ j, [x] = [D.int j] ∧ -(2 ^ 62) ≤ j ∧ j < 2 ^ 62 ∧ Q0 (srcR 0 j.toNat 1) h1) = (fun x h1 => ∃ j, x = .int j ∧ -(2 ^ 62) ≤ j ∧ j < 2 ^ 62 ∧ Q0 (srcR 0 j.toNat 1) h1) := by
      funext x h1
      simp only [List.cons.injEq, and_true]
    show ma env h (fun x h1 => ∃ j, [x] = [D.int j] ∧ -(2 ^ 62) ≤ j ∧ j < 2 ^ 62 ∧ Q0 (srcR 0 j.toNat 1) h1)
    rw [e]
    exact m
  · rintro ds h1 ⟨j, rfl, l1, l2, q⟩ vs H1 t1 r1 rs
    obtain ⟨v, rfl, rx⟩ := rs.one
    rw [rx.int]
    exact ⟨j, rfl, l1, l2, f _ h1 q _ H1 t1 r1 so_itr⟩
theorem ii_range2 (hm : X.mg "range" = none) (ha : IE X Hb a ma) (hb : IE X Hb b mb) (hg : Gl X "range" := by rfl) (hs : starEach [a, b] X.env = [(false, eval a X.env), (false, eval b X.env)] := by rfl) (hs2 : starEach [b] X.env = [(false, eval b X.env)] := by rfl) :
    II X Hb tg (.Call (.Name "range" p) [a, b] [] pos) (mRange2 ma mb) := by
  refine pi_w (pi_range2 hg hm (ia_cons ha (ia_cons hb ia_nil hs2) (by rw [hs, hs2])) hs hs2) fun σ H R ⟨env, h, Q0, re, rh, m, f⟩ => ?_
  refine ⟨env, h, (fun ds h1 => ∃ i j, ds = [.int i, .int j] ∧ (-(2 ^ 62) ≤ i ∧ i < 2 ^ 62 ∧ -(2 ^ 62) ≤ j ∧ j < 2 ^ 62) ∧ Q0 (srcR i (j - i).toNat 1) h1), re, rh, ?_, ?_⟩
  · have e : (fun x h1 => mb env h1 fun y h2 => ∃ i j, [x, y] = [D.int i, D.int j] ∧ (-(2 ^ 62) ≤ i ∧ i < 2 ^ 62 ∧ -(2 ^ 62) ≤ j ∧ j < 2 ^ 62) ∧ Q0 (srcR i (j - i).toNat 1) h2) = (fun x h1 => mb env h1 fun y h2 => ∃ i j, x = .int i ∧ y = .int j ∧ (-(2 ^ 62) ≤ i ∧ i < 2 ^ 62 ∧ -(2 ^ 62) ≤ j ∧ j < 2 ^ 62) ∧ Q0 (srcR i (j - i).toNat 1) h2) := by
      funext x h1
      refine congrArg _ ?_
      funext y h2
      simp only [List.cons.injEq, and_true, and_assoc]
    show ma env h (fun x h1 => mb env h1 fun y h2 => ∃ i j, [x, y] = [D.int i, D.int j] ∧ (-(2 ^ 62) ≤ i ∧ i < 2 ^ 62 ∧ -(2 ^ 62) ≤ j ∧ j < 2 ^ 62) ∧ Q0 (srcR i (j - i).toNat 1) h2)
    rw [e]
    exact m
  · rintro ds h1 ⟨i, j, rfl, l, q⟩ vs H1 t1 r1 rs
    obtain ⟨v, w, rfl, rx, ry⟩ := rs.two
    rw [rx.int, ry.int]
    exact ⟨i, j, rfl, l, f _ h1 q _ H1 t1 r1 so_itr⟩
theorem ii_iter (ha : IE X Hb a ma) : II X Hb tg a (mIter ma) := by
  refine pi_w (pi_seqA ha) fun σ H R ⟨env, h, Q0, re, rh, m, f⟩ => ?_
  refine ⟨env, h, _, re, rh, m, fun x h1 q v H1 t1 r1 rx => ?_⟩
  cases x <;> first | exact q.elim | skip
  · rw [rx.str]
    exact .inr (.inr ⟨_, rfl, f _ h1 q _ H1 t1 r1 so_str⟩)
  · obtain ⟨a, vs, rfl, ta, rs⟩ := rx.tup
    exact .inr (.inl ⟨a, vs, rfl, ta, f _ h1 q _ H1 t1 r1 (so_tup ta rs)⟩)
  · obtain ⟨a, vs, rfl, ta, rs⟩ := rx.rl
    exact .inl ⟨a, vs, rfl, ta.l, f _ h1 q _ H1 t1 r1 (so_rl ta rs)⟩
  · obtain ⟨ds, e, q⟩ := q
    rw [rx.ref]
    obtain ⟨vs, E, rs⟩ := r1.lst e
    exact .inl ⟨_, vs, rfl, .of E, f _ h1 q _ H1 t1 r1 so_lst⟩
theorem ii_enum (hm : X.mg "enumerate" = none) (ha : IE X Hb a ma) (hg : Gl X "enumerate" := by rfl) (hs : starEach [a] X.env = [(false, eval a X.env)] := by rfl) : II X Hb (.Tuple elts kk tpos) (.Call (.Name "enumerate" p) [a] [] pos) (mEnum ma) := by
  refine pi_w (pi_enumA hg hm (pa_cons ha pa_nil hs) hs) fun σ H R ⟨env, h, Q0, re, rh, m, f⟩ => ?_
  refine ⟨env, h, _, re, rh, m, fun x h1 q v H1 t1 r1 rx => ?_⟩
  cases x <;> first | exact q.elim | skip
  · obtain ⟨a, vs, rfl, ta, rs⟩ := rx.tup
    exact ⟨a, vs, rfl, .inr ⟨ta, f _ h1 q _ H1 t1 r1 (so_enT ta rs)⟩⟩
  · obtain ⟨a, vs, rfl, ta, rs⟩ := rx.rl
    exact ⟨a, vs, rfl, .inl ⟨ta.l, f _ h1 q _ H1 t1 r1 (so_enI ta rs)⟩⟩
  · obtain ⟨ds, e, q⟩ := q
    rw [rx.ref]
    obtain ⟨vs, E, rs⟩ := r1.lst e
    exact ⟨_, vs, rfl, .inl ⟨.of E, f _ h1 q _ H1 t1 r1 so_enL⟩⟩
theorem ii_zip (hm : X.mg "zip" = none) (ha : IE X Hb a ma) (hb : IE X Hb b mb) (hg : Gl X "zip" := by rfl)
    (hs : starEach [a, b] X.env = (false, eval a X.env) :: starEach [b] X.env := by rfl) (hs2 : starEach [b] X.env = (false, eval b X.env) :: starEach [] X.env := by rfl) (hpl : (backTo pos (starEach [b] X.env)).any (·.1) = false := by rfl) :
    II X Hb (.Tuple elts kk tpos) (.Call (.Name "zip" p) [a, b] [] pos) (mZip ma mb) := by
  refine pi_w (RZ.pi_zipA hg hm (pa_cons ha (pa_cons hb pa_nil hs2) hs) hs hpl) fun σ H R ⟨env, h, Q0, re, rh, m, f⟩ => ?_
  refine ⟨env, h, _, re, rh, m, fun x h1 q1 v H1 t1 r1 rx => ?_⟩
  refine ⟨env, h1, _, re.mono t1, r1, q1, fun y h2 q w H2 t2 r2 ry => ?_⟩
  have t12 := t1.trans t2
  have rx2 := rx.mono t2
  cases x <;> cases y <;> first | exact q.elim | skip
  · obtain ⟨a, vs, rfl, ta, rs⟩ := rx2.tup
    obtain ⟨b, ws, rfl, tb, rt⟩ := ry.tup
    exact ⟨a, b, vs, ws, rfl, .inr ⟨ta, tb, f _ h2 q _ H2 t12 r2 (so_zT ta rs tb rt)⟩⟩
  · obtain ⟨ds, es, e, e2, q⟩ := q
    rw [rx2.ref, ry.ref]
    obtain ⟨vs, E, rs⟩ := r2.lst e
    obtain ⟨ws, E2, rt⟩ := r2.lst e2
    exact ⟨_, _, vs, ws, rfl, .inl ⟨.of E, .of E2, f _ h2 q _ H2 t12 r2 so_zL⟩⟩
theorem ii_range3 (hm : X.mg "range" = none) (ha : IE X Hb a ma) (hb : IE X Hb b mb) (hc : IE X Hb c mc) (hg : Gl X "range" := by rfl) (hs : starEach [a, b, c] X.env = (false, eval a X.env) :: starEach [b, c] X.env := by rfl)
    (hs2 : starEach [b, c] X.env = (false, eval b X.env) :: starEach [c] X.env := by rfl) (hs3 : starEach [c] X.env = (false, eval c X.env) :: starEach [] X.env := by rfl) (hpl : (backTo pos (starEach [b, c] X.env)).any (·.1) = false := by rfl) :
    II X Hb tg (.Call (.Name "range" p) [a, b, c] [] pos) (mRange3 ma mb mc) := by
  refine pi_w (pi_range3 hg hm (pa_cons ha (pa_cons hb (pa_cons hc pa_nil hs3) hs2) hs) hs hpl) fun σ H R ⟨env, h, Q0, re, rh, m, f⟩ => ?_
  refine ⟨env, h, _, re, rh, m, fun x h1 q1 v H1 t1 r1 rx => ?_⟩
  refine ⟨env, h1, _, re.mono t1, r1, q1, fun y h2 q2 w H2 t2 r2 ry => ?_⟩
  refine ⟨env, h2, _, re.mono (t1.trans t2), r2, q2, fun z h3 q w3 H3 t3 r3 rz => ?_⟩
  obtain ⟨i, j, k, n, rfl, rfl, rfl, rg, q⟩ := q
  rw [rx.int, ry.int, rz.int]
  exact ⟨i, j, k, n, rfl, rg, f _ h3 q _ H3 (t1.trans (t2.trans t3)) r3 so_itc⟩
end
end M

namespace M
open PySem L2
/-! ### comprehensions -/
def mwipe (env : ME) : List Nat → ME
  | [] => env
  | v :: vs => (mwipe env vs).set v none
theorem REnv.wipe {K : PySem.W.Frag} {Hb H : Hp} {env : ME} {σ : L2.St} (r : REnv K Hb H env σ) : ∀ vs : List Nat, REnv K Hb H (mwipe env vs) (L2.wipe σ vs)
  | [] => r
  | v :: vs => by
    have q := r.wipe vs
    unfold mwipe L2.wipe
    refine ⟨q.1, by rw [List.length_set, List.length_set]; exact q.2.1, fun j d' e => ?_⟩
    by_cases c : v = j
    · subst c
      by_cases hl : v < (mwipe env vs).length
      · rw [List.getElem?_set_self hl] at e
        cases e
      · rw [List.getElem?_eq_none (by rw [List.length_set]; omega)] at e
        cases e
    · rw [List.getElem?_set_ne c] at e ⊢
      exact q.2.2 j d' e
theorem wipe_comm {σ : L2.St} {v : Nat} : ∀ {vs : List Nat}, L2.wipe (σ.set v none) vs = (L2.wipe σ vs).set v none
  | [] => rfl
  | w :: vs => by
    unfold L2.wipe
    rw [wipe_comm]
    by_cases c : v = w
    · subst c; rfl
    · rw [List.set_comm _ _ c]
theorem wipe_wipe (σ : L2.St) : ∀ vs : List Nat, L2.wipe (L2.wipe σ vs) vs = L2.wipe σ vs
  | [] => rfl
  | v :: vs => by
    show (L2.wipe ((L2.wipe σ vs).set v none) vs).set v none = (L2.wipe σ vs).set v none
    rw [wipe_comm, wipe_wipe σ vs, List.set_set]
mutual
def Tg.inb (vs : List Nat) : Tg → Bool
  | .nm i => vs.contains i
  | .tp ts => Tg.insb vs ts
def Tg.insb (vs : List Nat) : List Tg → Bool
  | [] => true
  | t :: ts => t.inb vs && Tg.insb vs ts
end
mutual
theorem Tg.in_of {vs : List Nat} : ∀ {t : Tg}, t.inb vs = true → t.in vs
  | .nm i, h => by
    simp only [Tg.inb] at h
    simp only [Tg.in]
    simpa using h
  | .tp ts, h => by
    simp only [Tg.inb] at h
    simp only [Tg.in]
    exact Tg.ins_of h
theorem Tg.ins_of {vs : List Nat} : ∀ {ts : List Tg}, Tg.insb vs ts = true → Tg.ins vs ts
  | [], _ => by simp only [Tg.ins]
  | t :: ts, h => by
    simp only [Tg.insb, Bool.and_eq_true] at h
    simp only [Tg.ins]
    exact ⟨Tg.in_of h.1, Tg.ins_of h.2⟩
end
theorem ro_lst {K : PySem.W.Frag} {H : Hp} {ds : List D} {vs : List V} (r : RVs K H ds vs) : RO K H (.lst ds) (.lst vs) := ⟨vs, rfl, r⟩
def LcW (S : MSrc) (g : Tg) (t : MTT) (e : MTE) (vs : List Nat) (env : ME) (h1 : MH) (Q : MQ) : Prop := ∀ p, h1 p = none → ∃ W : Nat → MH → Prop, W 0 (up h1 p (.lst [])) ∧ ∀ k h', k ≤ S.n → W k h' → S.ok h' ∧
  (k < S.n → ∃ env2, asg g (S.item k) (mwipe env vs) = some env2 ∧ t env2 h' fun b h3 => if b = true then e env2 h3 fun y h4 => ∃ acc, h4 p = some (.lst acc) ∧ acc.length < sizeLine ∧ W (k + 1) (up h4 p (.lst (acc ++ [y]))) else W (k + 1) h3) ∧
  (k = S.n → Q (.ref p) h')
def mLc (i : MTI) (g : Tg) (t : MTT) (e : MTE) (vs : List Nat) : MTE := fun env h Q => i env h fun S h1 => LcW S g t e vs env h1 Q
def ITs (X : Cx) (Hb : Hp) (ifs : List Expr) (m : MTT) : Prop := PTs X ifs (liftT X.K Hb m)
def mYes : MTT := fun _ h Q => Q true h
section
variable {X : Cx} {Hb : Hp} {elt tg iter : Expr} {ifs : List Expr} {scope : Scope} {pos : Pos} {mi : MTI} {g : Tg} {mt : MTT} {me : MTE}
theorem its_nil : ITs X Hb [] mYes := ⟨fun pins s σ H Q I q => by
  obtain ⟨env, h, Q0, re, rh, m, f⟩ := q
  exact pts_nil.run pins s σ H Q I (f true h m H (.refl H) rh)⟩
theorem its_one {c : Expr} (h : IT X Hb c mt) : ITs X Hb [c] mt := pts_one h
theorem lc_lift {own : List (Str × Nat)} {K : PySem.W.Frag} {σ : L2.St} {H : Hp} {Q : VK} (hin : g.inb (own.map (·.2)) = true) (q : lift K Hb (mLc mi g mt me (own.map (·.2))) σ H Q) : tLc (liftI K Hb mi) (gT K g) (liftT K Hb mt) (lift K Hb me) (own.map (·.2)) σ H Q := by
  obtain ⟨env, h, Q0, re, rh, m, f⟩ := q
  refine ⟨env, h, _, re, rh, m, fun S h1 m1 J H1 t1 r1 so Dl hD => ?_⟩
  obtain ⟨W, w0, turn⟩ := m1 Dl (r1.free hD)
  have tD : TL H1 (upd H1 Dl (.lst [])) := .new hD
  refine ⟨fun i m H' => m = S.n - i ∧ i ≤ S.n ∧ TL H1 H' ∧ ∃ h', HR K h' H' ∧ W i h', ⟨S.n, rfl, Nat.zero_le _, tD, _, r1.new hD (ro_lst .nil), w0⟩, ?_⟩
  rintro i m H2 ⟨rfl, hi, t2, h2, r2, w2⟩
  obtain ⟨ok, q1, q2⟩ := turn i h2 hi w2
  by_cases c : i < S.n
  · obtain ⟨env2, e2, q⟩ := q1 c
    refine .inr ⟨so.go i h2 H2 t2 r2 ok c, fun H' => TL H1 H' ∧ ∃ h', HR K h' H' ∧ W (i + 1) h', ?_, fun x H3 hy => ?_⟩
    · rintro H' ⟨t, h', rh', w⟩
      exact ⟨_, by omega, rfl, c, t, h', rh', w⟩
    · obtain ⟨t3, r3, rx⟩ := so.yld i h2 H2 t2 r2 ok c x H3 hy
      have t13 := t1.trans (t2.trans t3)
      obtain ⟨σ3, k1, k2, k3⟩ := gT_ok e2 rx ((re.mono t13).wipe (own.map (·.2)))
      refine k1 _ ⟨(k3 _ (Tg.in_of hin)).trans (wipe_wipe _ _), env2, h2, _, k2, r3, q, fun b h4 q4 H4 t4 r4 => ?_⟩
      cases b with
      | true =>
        refine ⟨env2, h4, _, k2.mono t4, r4, q4, ?_⟩
        rintro y h5 ⟨acc, ea, z, w⟩ v H5 t5 r5 ry
        obtain ⟨vs, E, rs⟩ := r5.lst ea
        have tp : TL H5 (upd H5 Dl (.lst (vs ++ [v]))) := .put E (fun _ z => by cases z) (fun _ _ z => by cases z)
        refine ⟨vs, E, by rw [← rs.length]; exact z, t2.trans (t3.trans (t4.trans (t5.trans tp))), _, r5.put tp (ro_lst ((rs.append (.cons ry .nil)).mono tp)), w⟩
      | false => exact ⟨t2.trans (t3.trans t4), h4, r4, q4⟩
  · have e : i = S.n := by omega
    subst e
    exact .inl ⟨so.stop h2 H2 t2 r2 ok, f _ h2 (q2 rfl) _ H2 (t1.trans t2) r2 rv_ref⟩
theorem ie_lc {own : List (Str × Nat)} (hc : X.calm = true) (hN : X.N.Nodup) (hin : g.inb (own.map (·.2)) = true) (hi : II X Hb tg iter mi) (ok : BlkOk X.N X.env.scope scope own)
    (hg : ∀ (s : Shared) (H : Hp) (C : Addr) (cl : List (Str × Addr)) (fp : List Addr), IG (X.blk s H scope (compEnvC scope cl C X.env) fp) tg g) (ht : ∀ (s : Shared) (H : Hp) (C : Addr) (cl : List (Str × Addr)) (fp : List Addr), ITs (X.blk s H scope (compEnvC scope cl C X.env) fp) Hb ifs mt)
    (he : ∀ (s : Shared) (H : Hp) (C : Addr) (cl : List (Str × Addr)) (fp : List Addr), IE (X.blk s H scope (compEnvC scope cl C X.env) fp) Hb elt me) (hs : ∀ x, foldedSetIterable iter X.env x = pure x := by intro _; rfl) :
    IE X Hb (.ListComp elt [⟨tg, iter, ifs, 0⟩] scope pos) (mLc mi g mt me (own.map (·.2))) :=
  pe_w (pe_lc (g := gT X.K g) (tt := liftT X.K Hb mt) (te := lift X.K Hb me) hc hN hi ok hg ht he hs) fun σ H Q q => lc_lift hin q
theorem is_setLc (i : Nat) {y : Str} {py spos : Pos} {own : List (Str × Nat)} (hc : X.calm = true) (hN : X.N.Nodup) (hin : g.inb (own.map (·.2)) = true) (hy : X.N[i]? = some y) (hyl : X.env.scope.names.lookup y = some .local)
    (hsw : swapsWith (.ListComp elt [⟨tg, iter, ifs, 0⟩] scope pos) (some (.Name y py)) spos.line X.env = pure true) (hi : II X Hb tg iter mi) (ok : BlkOk X.N X.env.scope scope own)
    (hg : ∀ (s : Shared) (H : Hp) (C : Addr) (cl : List (Str × Addr)) (fp : List Addr), IG (X.blk s H scope (compEnvC scope cl C X.env) fp) tg g) (ht : ∀ (s : Shared) (H : Hp) (C : Addr) (cl : List (Str × Addr)) (fp : List Addr), ITs (X.blk s H scope (compEnvC scope cl C X.env) fp) Hb ifs mt)
    (he : ∀ (s : Shared) (H : Hp) (C : Addr) (cl : List (Str × Addr)) (fp : List Addr), IE (X.blk s H scope (compEnvC scope cl C X.env) fp) Hb elt me) (hs : ∀ x, foldedSetIterable iter X.env x = pure x := by intro _; rfl) :
    IS X Hb (.Assign [.Name y py] (.ListComp elt [⟨tg, iter, ifs, 0⟩] scope pos) spos) (mSet i (mLc mi g mt me (own.map (·.2)))) := by
  refine is_of (ps_setLc (g := gT X.K g) (tt := liftT X.K Hb mt) (te := lift X.K Hb me) hc hN hy hyl hsw hi ok hg ht he hs) fun D' σ H env h D0 re rh m f => ?_
  refine lc_lift (Hb := Hb) hin ⟨env, h, _, re, rh, m, fun d h1 q v H1 t1 r1 rv => ?_⟩
  exact f.nx _ h1 q _ H1 t1 ((re.mono t1).set i rv) r1
end
/-! ### built-in methods -/
def tyM (T : String) (x : D) (h : MH) : Prop := match x with
  | .ref a => T = "list" ∧ ∃ ds, h a = some (.lst ds)
  | .str _ => T = "str"
  | .rl _ => T = "list"
  | _ => False
abbrev MRM := D → List D → MH → MQ → Prop
def MtI (X : Cx) (id : String) (r : MRM) : Prop := ∃ R : V → List V → Hp → VK → Prop, MtR X id R ∧ ∀ (x : D) (xs : List D) (h : MH) (Q0 : MQ) (vx : V) (vs : List V) (H : Hp) (Q : VK), r x xs h Q0 → HR X.K h H → RV X.K H x vx → RVs X.K H xs vs → Fin X.K H Q0 Q → R vx vs H Q
def mBM (T : String) (r : MRM) (o : MTE) (t : MTA) : MTE := fun env h Q => o env h fun x h1 => tyM T x h1 ∧ t env h1 fun xs h2 => r x xs h2 Q
section
variable {X : Cx} {Hb : Hp} {o e : Expr} {es : List Expr} {mo : MTE} {ms : MTA} {name : Str} {apos cpos : Pos} {T id : String} {r : MRM}
theorem tyV_of {K : PySem.W.Frag} {x : D} {h : MH} {H : Hp} {v : V} (t : tyM T x h) (rh : HR K h H) (rx : RV K H x v) : tyV K T v H := by
  cases x <;> first | exact False.elim t | skip
  · obtain rfl : T = "str" := t
    rw [rx.str]; rfl
  · obtain rfl : T = "list" := t
    obtain ⟨a, vs, rfl, ta, _⟩ := rx.rl
    exact .inl ⟨rfl, vs, ta.l⟩
  · obtain ⟨rfl, ds, e⟩ := t
    rw [rx.ref]
    obtain ⟨vs, E, _⟩ := rh.lst e
    exact .inl ⟨rfl, vs, .of E⟩
theorem ie_bm (pa : PlainAttrs T) (slot : Slot T name id) (hty : typeOf (.builtin id) = pure (.type "method_descriptor")) (hm : MtI X id r) (ho : IE X Hb o mo) (ha : IA X Hb (e :: es) ms)
    (hbase : attributeBase o name X.env (eval o X.env) = eval o X.env := by rfl)
    (hfew : ((backTo cpos (starEach (e :: es) X.env)).all (fun x => !x.1) && (backToKw cpos (keywordEach [] X.env)).all (fun x => x.1.isSome)
      && decide ((e :: es).length + ([] : List Keyword).length + (if ([] : List Keyword).isEmpty then 0 else 1) < 30)) = true := by rfl)
    (hline : (apos.endLine == cpos.line) = true := by rfl) (hs : starEach (e :: es) X.env = (false, eval e X.env) :: starEach es X.env := by rfl) (hplain : (backTo cpos (starEach es X.env)).any (·.1) = false := by rfl) :
    IE X Hb (.Call (.Attribute o name apos) (e :: es) [] cpos) (mBM T r mo ms) := by
  obtain ⟨R, hR, hi⟩ := hm
  refine pe_w (pe_bm pa slot hty hR ho ha hbase hfew hline hs hplain) fun σ H Q ⟨env, h, Q0, re, rh, m, f⟩ => ?_
  refine ⟨env, h, _, re, rh, m, fun x h1 ⟨ty, q⟩ vx H1 t1 r1 rx => ⟨tyV_of ty r1 rx, ?_⟩⟩
  refine ⟨env, h1, _, re.mono t1, r1, q, fun ds h2 q2 vs H2 t2 r2 rs => ?_⟩
  exact hi x ds h2 Q0 vx vs H2 Q q2 r2 (rx.mono t2) rs (Fin.mono (t1.trans t2) f)
theorem ie_bm0 (pa : PlainAttrs T) (slot : Slot T name id) (hty : typeOf (.builtin id) = pure (.type "method_descriptor")) (hm : MtI X id r) (ho : IE X Hb o mo)
    (hbase : attributeBase o name X.env (eval o X.env) = eval o X.env := by rfl) (hline : (apos.endLine == cpos.line) = true := by rfl) : IE X Hb (.Call (.Attribute o name apos) [] [] cpos) (mBM T r mo mNil) := by
  obtain ⟨R, hR, hi⟩ := hm
  refine pe_w (pe_bm0 pa slot hty hR ho hbase hline) fun σ H Q ⟨env, h, Q0, re, rh, m, f⟩ => ?_
  refine ⟨env, h, _, re, rh, m, fun x h1 ⟨ty, q⟩ vx H1 t1 r1 rx => ⟨tyV_of ty r1 rx, ?_⟩⟩
  exact hi x [] h1 Q0 vx [] H1 Q q r1 rx .nil (Fin.mono t1 f)
def rAppend : MRM := fun x xs h Q => match x, xs with
  | .ref a, [y] => ∃ ds, h a = some (.lst ds) ∧ ds.length < sizeLine ∧ Q .non (up h a (.lst (ds ++ [y])))
  | _, _ => False
theorem mi_append : MtI X "list.append" rAppend := by
  refine ⟨_, mt_append, fun x xs h Q0 vx vs H Q q rh rx rs f => ?_⟩
  unfold rAppend at q
  split at q
  · obtain ⟨ds, e, z, q⟩ := q
    obtain ⟨v, rfl, ry⟩ := rs.one
    obtain ⟨ws, E, rt⟩ := rh.lst e
    rw [rx.ref]
    have t : TL H (upd H _ (.lst (ws ++ [v]))) := .put E (fun _ z => by cases z) (fun _ _ z => by cases z)
    exact ⟨_, ws, v, rfl, rfl, E, by rw [← rt.length]; exact z, f _ _ q _ _ t (rh.put t ⟨_, rfl, (rt.append (.cons ry .nil)).mono t⟩) rv_non⟩
  · exact q.elim
def rExtend : MRM := fun x xs h Q => match x, xs with
  | .ref a, [.ref b] => ∃ ds es, h a = some (.lst ds) ∧ h b = some (.lst es) ∧ ds.length + es.length ≤ sizeLine ∧ Q .non (up h a (.lst (ds ++ es)))
  | _, _ => False
theorem mi_extend : MtI X "list.extend" rExtend := by
  refine ⟨_, mt_extend, fun x xs h Q0 vx vs H Q q rh rx rs f => ?_⟩
  unfold rExtend at q
  split at q
  · obtain ⟨ds, es, e, e2, z, q⟩ := q
    obtain ⟨v, rfl, ry⟩ := rs.one
    obtain ⟨ws, E, rt⟩ := rh.lst e
    obtain ⟨us, E2, ru⟩ := rh.lst e2
    rw [rx.ref, ry.ref]
    have t : TL H (upd H _ (.lst (ws ++ us))) := .put E (fun _ z => by cases z) (fun _ _ z => by cases z)
    exact ⟨_, _, ws, us, rfl, rfl, E, E2, by rw [← rt.length, ← ru.length]; exact z, f _ _ q _ _ t (rh.put t ⟨_, rfl, (rt.append ru).mono t⟩) rv_non⟩
  · exact q.elim
end
/-! ### defs -/
abbrev MXE := Addr → MH → Prop
abbrev MSp := List D → MH → MQ → MXE → Prop
def FinE (K : PySem.W.Frag) (H : Hp) (E0 : MXE) (E : XK) : Prop := ∀ C h', E0 C h' → ∀ od H', TL H H' → HR K h' H' → E (.ref C) od H'
theorem FinE.mono {K : PySem.W.Frag} {H H' : Hp} {E0 : MXE} {E : XK} (t : TL H H') (f : FinE K H E0 E) : FinE K H' E0 E := fun C h' q od H2 t2 => f C h' q od H2 (t.trans t2)
def liftSp (K : PySem.W.Frag) (sp : MSp) : Sp := fun vs H Q E => ∃ ds h, ∃ Q0 : MQ, ∃ E0 : MXE, RVs K H ds vs ∧ HR K h H ∧ sp ds h Q0 E0 ∧ Fin K H Q0 Q ∧ FinE K H E0 E
abbrev noE : MXE := fun _ _ => False
def mCall (sp : MSp) (E : MXE) (t : MTA) : MTE := fun env h Q => t env h fun xs h1 => sp xs h1 Q E
def mstart (N : List Str) (ds : List D) : ME := ds.map some ++ List.replicate (N.length - ds.length) none
theorem renv_start {K : PySem.W.Frag} {H : Hp} {N : List Str} {ds : List D} {vs : List V} (r : RVs K H ds vs) : REnv K H H (mstart N ds) (L2.start N vs) := by
  refine ⟨.refl H, ?_, fun i d e => ?_⟩
  · unfold mstart L2.start
    simp [r.length]
  · unfold mstart at e
    unfold L2.start
    by_cases c : i < ds.length
    · rw [List.getElem?_append_left (by rw [List.length_map]; exact c), List.getElem?_map] at e
      cases q : ds[i]? with
      | none => rw [q] at e; cases e
      | some d' =>
        rw [q] at e
        cases e
        obtain ⟨v, e1, rv⟩ := r.get q
        refine ⟨v, ?_, rv⟩
        rw [List.getElem?_append_left (by rw [List.length_map, ← r.length]; exact c), List.getElem?_map, e1]
        rfl
    · rw [List.getElem?_append_right (by rw [List.length_map]; omega), List.getElem?_replicate] at e
      split at e <;> cases e
section
variable {X : Cx} {Hb : Hp} {CX : CXT} {k : Nat} {f C : Addr} {fd : FuncData} {ps : List Str} {sp : MSp} {x m : Str} {p pos apos : Pos} {e o : Expr} {es : List Expr} {mo : MTE} {ms : MTA}
theorem ie_callX {E : XK} {E0 : MXE} (F : FnOk X.prog X.w X.K X.mg X.base CX k f fd ps (liftSp X.K sp)) (hr : Room k X.A) (hm : X.mg x = some (.ref f)) (hk : PySem.W.keepIn X.K (.ref f) = true) (hb : Binds X.K fd ps []) (hx : Passes CX X E) (fe : FinE X.K Hb E0 E)
    (ha : IA X Hb (e :: es) ms) (hg : Gl X x := by rfl) (hdb : (x == ("__debug__" : Str)) = false := by decide) (he : starEach (e :: es) X.env = (false, eval e X.env) :: starEach es X.env := by rfl) (hpl : (backTo pos (starEach es X.env)).any (·.1) = false := by rfl) :
    IE X Hb (.Call (.Name x p) (e :: es) [] pos) (mCall sp E0 ms) := by
  refine pe_w (pe_call F hr hg hm hk hb .nil hx ha hdb he hpl) fun σ H Q ⟨env, h, Q0, re, rh, m, fq⟩ => ?_
  refine ⟨env, h, _, re, rh, m, fun ds h1 q vs H1 t1 r1 rs => ?_⟩
  show liftSp X.K sp (vs ++ []) H1 Q E
  rw [List.append_nil]
  exact ⟨ds, h1, Q0, E0, rs, r1, q, Fin.mono t1 fq, fe.mono (re.1.trans t1)⟩
theorem ie_call (F : FnOk X.prog X.w X.K X.mg X.base CX0 k f fd ps (liftSp X.K sp)) (hr : Room k X.A) (hm : X.mg x = some (.ref f)) (hk : PySem.W.keepIn X.K (.ref f) = true) (hb : Binds X.K fd ps [])
    (ha : IA X Hb (e :: es) ms) (hg : Gl X x := by rfl) (hdb : (x == ("__debug__" : Str)) = false := by decide) (he : starEach (e :: es) X.env = (false, eval e X.env) :: starEach es X.env := by rfl) (hpl : (backTo pos (starEach es X.env)).any (·.1) = false := by rfl) :
    IE X Hb (.Call (.Name x p) (e :: es) [] pos) (mCall sp noE ms) := ie_callX F hr hm hk hb pass0 (fun _ _ q => q.elim) ha hg hdb he hpl
theorem ie_call0 (F : FnOk X.prog X.w X.K X.mg X.base CX0 k f fd ps (liftSp X.K sp)) (hr : Room k X.A) (hm : X.mg x = some (.ref f)) (hk : PySem.W.keepIn X.K (.ref f) = true) (hb : Binds X.K fd ps [])
    (hg : Gl X x := by rfl) (hdb : (x == ("__debug__" : Str)) = false := by decide) : IE X Hb (.Call (.Name x p) [] [] pos) (mCall sp noE mNil) := by
  refine pe_w (pe_call0 F hr hg hm hk hb .nil pass0 hdb) fun σ H Q ⟨env, h, Q0, re, rh, m, fq⟩ => ?_
  exact ⟨[], h, Q0, noE, .nil, rh, m, fq, fun _ _ q => q.elim⟩
end
section
variable {P : Program} {w : World} {K : PySem.W.Frag} {mg : Str → Option Value} {base : Heap}
/-- a def that lets nothing out -/
theorem fnM {x qual : Str} {st : Stmt} {f : Addr} {fd : FuncData} {N ps : List Str} {k : Nat} {sp : MSp} {m : MTS} (F : Fun K x qual st f fd) (S : FnScope N ps (defScope st))
    (len : ∀ ds h Q E, sp ds h Q E → ds.length = ps.length)
    (d : ∀ (cdv : Value) (A : Around) (outer : List Env) (s : Shared) (H : Hp) (E : XK), Room k (A.deeper (PyProof.Rows.envOfC qual (defScope st) s.heap.objs.size f cdv)) → ISs (cxOf CX0 P w K mg base N qual (defScope st) f cdv A outer s H E).nox H (defBody st) m)
    (hm : ∀ ds h Q E, sp ds h Q E → m { nx := fun _ h' => Q .non h', rt := Q } (mstart N ds) h) : FnOk P w K mg base CX0 (k + 1) f fd ps (liftSp K sp) := by
  refine F.ok S (fun vs H Q E ⟨ds, h, Q0, E0, rs, rh, q, fq, fe⟩ => by rw [← rs.length]; exact len ds h Q0 E0 q) fun cdv A outer s H vs Q E hr ⟨ds, h, Q0, E0, rs, rh, q, fq, fe⟩ => ?_
  refine ⟨_, d cdv A outer s H E hr, ?_⟩
  refine liftS_iff.mpr ⟨mstart N ds, h, _, renv_start rs, rh, hm ds h Q0 E0 q, ?_, ?_, ?_, ?_⟩
  · exact fun env' h' q σ' H' t re' rh' => fq _ h' q _ H' t rh' rv_non
  · exact fun d h' q v H' t rv rh' => fq d h' q v H' t rh' rv
  · exact fun _ _ q => q.elim
  · exact fun _ _ q => q.elim
end
end M

namespace M
open PySem L2
/-! ### == -/
def isSc : D → D → Bool
  | .non, .non => true | .non, .int _ => true | .int _, .non => true | .non, .bl _ => true | .bl _, .non => true | .non, .str _ => true | .str _, .non => true
  | .int _, .int _ => true | .bl _, .bl _ => true | .str _, .str _ => true
  | .int _, .str _ => true | .str _, .int _ => true | .bl _, .str _ => true | .str _, .bl _ => true
  | _, _ => false
def eqS : D → D → Bool
  | .non, .non => true
  | .int i, .int j => decide (i = j)
  | .bl i, .bl j => decide (i = j)
  | .str i, .str j => decide (i = j)
  | _, _ => false
mutual
inductive DP (h : MH) : D → PyData → Prop
  | non : DP h .non .none
  | bl (b : Bool) : DP h (.bl b) (.bool b)
  | int (i : Int) : DP h (.int i) (.int i)
  | str (x : Str) : DP h (.str x) (.str x)
  | lst {a : Addr} {ds : List D} {ps : List PyData} : h a = some (.lst ds) → DPs h ds ps → DP h (.ref a) (.list ps)
  | rl {ds : List D} {ps : List PyData} : DPs h ds ps → DP h (.rl ds) (.list ps)
  | tup {ds : List D} {ps : List PyData} : DPs h ds ps → DP h (.tup ds) (.tuple ps)
inductive DPs (h : MH) : List D → List PyData → Prop
  | nil : DPs h [] []
  | cons {d : D} {ds : List D} {p : PyData} {ps : List PyData} : DP h d p → DPs h ds ps → DPs h (d :: ds) (p :: ps)
end
section
variable {K : PySem.W.Frag} {h : MH} {H : Hp}
mutual
theorem DP.dp (rh : HR K h H) : ∀ {d : D} {p : PyData} {v : V}, DP h d p → RV K H d v → Dp K H v p
  | _, _, _, .non, r => by rw [r.non]; exact .non
  | _, _, _, .bl b, r => by rw [r.bl]; exact .bl b
  | _, _, _, .int i, r => by rw [r.int]; exact .int i
  | _, _, _, .str x, r => by rw [r.str]; exact .str x
  | _, _, _, .lst e s, r => by
    rw [r.ref]
    obtain ⟨vs, E, rs⟩ := rh.lst e
    exact .lst (.of E) (DPs.dp rh s rs)
  | _, _, _, .rl s, r => by
    obtain ⟨a, vs, rfl, ta, rs⟩ := r.rl
    exact .lst ta.l (DPs.dp rh s rs)
  | _, _, _, .tup s, r => by
    obtain ⟨a, vs, rfl, ta, rs⟩ := r.tup
    exact .tup ta (DPs.dp rh s rs)
theorem DPs.dp (rh : HR K h H) : ∀ {ds : List D} {ps : List PyData} {vs : List V}, DPs h ds ps → RVs K H ds vs → DpAll K H vs ps
  | _, _, _, .nil, r => by rw [r.inv0]; exact .nil
  | _, _, _, .cons a b, r => by
    obtain ⟨v, ws, rfl, q, t⟩ := r.inv
    exact .cons (DP.dp rh a q) (DPs.dp rh b t)
end
end
def rEqD (x y : D) (h : MH) (Q : MQ) : Prop := ∃ p q, DP h x p ∧ DP h y q ∧ SeqAt.shaped p = true ∧ SeqAt.shaped q = true ∧ Q (.bl (PyData.eqv p q)) h
def rNeD (x y : D) (h : MH) (Q : MQ) : Prop := ∃ p q, DP h x p ∧ DP h y q ∧ SeqAt.shaped p = true ∧ SeqAt.shaped q = true ∧ Q (.bl (!PyData.eqv p q)) h
def rEq : MR2 := fun x y h Q => if isSc x y = true then Q (.bl (eqS x y)) h else rEqD x y h Q
def rNe : MR2 := fun x y h Q => if isSc x y = true then Q (.bl (!eqS x y)) h else rNeD x y h Q
section
variable {X : Cx}
theorem sc_of {K : PySem.W.Frag} {H : Hp} {x y : D} {vx vy : V} (c : isSc x y = true) (rx : RV K H x vx) (ry : RV K H y vy) : scal vx vy = true ∧ decide (vx = vy) = eqS x y := by
  cases x <;> cases y <;> first | (cases c; done) | skip
  all_goals simp only [RV] at rx ry
  all_goals subst rx ry
  all_goals refine ⟨rfl, ?_⟩
  all_goals (first | rfl | (simp only [eqS, decide_eq_decide, V.int.injEq, V.bl.injEq, V.str.injEq]) | (simp [eqS]))
theorem om_eq (hu : X.A.units + 64 < cLine) : OpM X (compareOp .Eq) rEq := by
  refine ⟨_, op_eq.or (op_eqD hu), fun x y h Q0 vx vy H Q q rh rx ry f => ?_⟩
  unfold rEq at q
  split at q
  · rename_i c
    obtain ⟨c1, c2⟩ := sc_of c rx ry
    exact .inl ⟨c1, by rw [c2]; exact fin_at f q rh rv_bl⟩
  · obtain ⟨p, p', d1, d2, s1, s2, q⟩ := q
    exact .inr ⟨p, p', d1.dp rh rx, d2.dp rh ry, s1, s2, fin_at f q rh rv_bl⟩
theorem om_ne (hu : X.A.units + 64 < cLine) : OpM X (compareOp .NotEq) rNe := by
  refine ⟨_, op_ne.or (op_neD hu), fun x y h Q0 vx vy H Q q rh rx ry f => ?_⟩
  unfold rNe at q
  split at q
  · rename_i c
    obtain ⟨c1, c2⟩ := sc_of c rx ry
    exact .inl ⟨c1, by rw [c2]; exact fin_at f q rh rv_bl⟩
  · obtain ⟨p, p', d1, d2, s1, s2, q⟩ := q
    exact .inr ⟨p, p', d1.dp rh rx, d2.dp rh ry, s1, s2, fin_at f q rh rv_bl⟩
/-! ### in: flat things -/
def flatD : D → Bool
  | .non => true
  | .bl _ => true
  | .int _ => true
  | .str _ => true
  | _ => false
def eqF : D → D → Bool
  | .non, .non => true
  | .bl a, .bl b => a == b
  | .bl a, .int b => (if a then 1 else 0) == b
  | .int a, .bl b => a == (if b then 1 else 0)
  | .int a, .int b => a == b
  | .str a, .str b => a == b
  | _, _ => false
def inF (x : D) (ds : List D) : Bool := ds.any fun y => eqF y x
def rIn (neg : Bool) : MR2 := fun x y h Q => match y with
  | .tup ds => flatD x = true ∧ ds.all flatD = true ∧ Q (.bl (if neg then !inF x ds else inF x ds)) h
  | .rl ds => flatD x = true ∧ ds.all flatD = true ∧ Q (.bl (if neg then !inF x ds else inF x ds)) h
  | .ref a => ∃ ds, h a = some (.lst ds) ∧ flatD x = true ∧ ds.all flatD = true ∧ Q (.bl (if neg then !inF x ds else inF x ds)) h
  | .str z => ∃ w, x = .str w ∧ Q (.bl (if neg then !(!(Builtin.Str.occurrences z w 0 z.length 1).isEmpty) else !(Builtin.Str.occurrences z w 0 z.length 1).isEmpty)) h
  | _ => False
theorem flat_of {K : PySem.W.Frag} {H : Hp} {x : D} {v : V} (c : flatD x = true) (r : RV K H x v) : flatV v = true := by
  cases x <;> first | (cases c; done) | skip
  all_goals simp only [RV] at r
  all_goals subst r
  all_goals rfl
theorem eqF_of {K : PySem.W.Frag} {H : Hp} {x y : D} {v w : V} (c : flatD x = true) (r : RV K H x v) (c2 : flatD y = true) (r2 : RV K H y w) : eqV v w = eqF x y := by
  cases x <;> first | (cases c; done) | skip
  all_goals (cases y <;> first | (cases c2; done) | skip)
  all_goals simp only [RV] at r r2
  all_goals subst r r2
  all_goals rfl
theorem flats_of {K : PySem.W.Frag} {H : Hp} : ∀ {ds : List D} {vs : List V}, ds.all flatD = true → RVs K H ds vs → vs.all flatV = true
  | [], _, _, r => by rw [r.inv0]; rfl
  | d :: ds, _, c, r => by
    obtain ⟨v, ws, rfl, q, t⟩ := r.inv
    rw [List.all_cons, Bool.and_eq_true] at c ⊢
    exact ⟨flat_of c.1 q, flats_of c.2 t⟩
theorem inF_of {K : PySem.W.Frag} {H : Hp} {x : D} {v : V} (c : flatD x = true) (r : RV K H x v) : ∀ {ds : List D} {vs : List V}, ds.all flatD = true → RVs K H ds vs → inV v vs = inF x ds
  | [], _, _, q => by rw [q.inv0]; rfl
  | d :: ds, _, c2, q => by
    obtain ⟨w, ws, rfl, q1, t⟩ := q.inv
    rw [List.all_cons, Bool.and_eq_true] at c2
    have ih := inF_of c r c2.2 t
    unfold inV inF at ih ⊢
    rw [List.any_cons, List.any_cons, ih, eqF_of c2.1 q1 c r]
theorem om_in : OpM X (compareOp .In) (rIn false) := by
  refine ⟨_, op_in_seq.or op_in_str, fun x y h Q0 vx vy H Q q rh rx ry f => ?_⟩
  cases y <;> first | exact q.elim | skip
  · obtain ⟨w, rfl, q⟩ := q
    rw [rx.str, ry.str]
    exact .inr ⟨_, _, rfl, rfl, fin_at f q rh rv_bl⟩
  · obtain ⟨c1, c2, q⟩ := q
    obtain ⟨a, vs, rfl, ta, rs⟩ := ry.tup
    exact .inl ⟨a, vs, rfl, .inr ta, flat_of c1 rx, flats_of c2 rs, by rw [inF_of c1 rx c2 rs]; exact fin_at f q rh rv_bl⟩
  · obtain ⟨c1, c2, q⟩ := q
    obtain ⟨a, vs, rfl, ta, rs⟩ := ry.rl
    exact .inl ⟨a, vs, rfl, .inl ta.l, flat_of c1 rx, flats_of c2 rs, by rw [inF_of c1 rx c2 rs]; exact fin_at f q rh rv_bl⟩
  · obtain ⟨ds, e, c1, c2, q⟩ := q
    rw [ry.ref]
    obtain ⟨vs, E, rs⟩ := rh.lst e
    exact .inl ⟨_, vs, rfl, .inl (.of E), flat_of c1 rx, flats_of c2 rs, by rw [inF_of c1 rx c2 rs]; exact fin_at f q rh rv_bl⟩
theorem om_notIn : OpM X (compareOp .NotIn) (rIn true) := by
  refine ⟨_, op_notIn_seq.or op_notin_str, fun x y h Q0 vx vy H Q q rh rx ry f => ?_⟩
  cases y <;> first | exact q.elim | skip
  · obtain ⟨w, rfl, q⟩ := q
    rw [rx.str, ry.str]
    exact .inr ⟨_, _, rfl, rfl, fin_at f q rh rv_bl⟩
  · obtain ⟨c1, c2, q⟩ := q
    obtain ⟨a, vs, rfl, ta, rs⟩ := ry.tup
    exact .inl ⟨a, vs, rfl, .inr ta, flat_of c1 rx, flats_of c2 rs, by rw [inF_of c1 rx c2 rs]; exact fin_at f q rh rv_bl⟩
  · obtain ⟨c1, c2, q⟩ := q
    obtain ⟨a, vs, rfl, ta, rs⟩ := ry.rl
    exact .inl ⟨a, vs, rfl, .inl ta.l, flat_of c1 rx, flats_of c2 rs, by rw [inF_of c1 rx c2 rs]; exact fin_at f q rh rv_bl⟩
  · obtain ⟨ds, e, c1, c2, q⟩ := q
    rw [ry.ref]
    obtain ⟨vs, E, rs⟩ := rh.lst e
    exact .inl ⟨_, vs, rfl, .inl (.of E), flat_of c1 rx, flats_of c2 rs, by rw [inF_of c1 rx c2 rs]; exact fin_at f q rh rv_bl⟩
/-! ### is -/
def isN : D → Bool | .non => true | _ => false
def rIs (neg : Bool) : MR2 := fun x y h Q => match y with
  | .non => Q (.bl (if neg then !isN x else isN x)) h
  | .bl b => ∃ a, x = .bl a ∧ Q (.bl (if neg then !decide (a = b) else decide (a = b))) h
  | _ => False
theorem isN_of {K : PySem.W.Frag} {H : Hp} {x : D} {v : V} (r : RV K H x v) : decide (v = .non) = isN x := by
  cases x <;> simp only [RV] at r <;> first | (subst r; rfl) | (obtain ⟨a, vs, e, _⟩ := r; subst e; rfl)
theorem om_is : OpM X (compareOp .Is) (rIs false) := by
  refine ⟨_, op_isN.or op_isBl, fun x y h Q0 vx vy H Q q rh rx ry f => ?_⟩
  cases y <;> first | exact q.elim | skip
  · exact .inl ⟨ry.non, by rw [isN_of rx]; exact fin_at f q rh rv_bl⟩
  · obtain ⟨a, rfl, q⟩ := q
    rw [rx.bl, ry.bl]
    exact .inr ⟨_, _, rfl, rfl, fin_at f q rh rv_bl⟩
theorem om_isnot : OpM X (compareOp .IsNot) (rIs true) := by
  refine ⟨_, op_notN.or op_notBl, fun x y h Q0 vx vy H Q q rh rx ry f => ?_⟩
  cases y <;> first | exact q.elim | skip
  · exact .inl ⟨ry.non, by rw [isN_of rx]; exact fin_at f q rh rv_bl⟩
  · obtain ⟨a, rfl, q⟩ := q
    rw [rx.bl, ry.bl]
    exact .inr ⟨_, _, rfl, rfl, fin_at f q rh rv_bl⟩
/-! ### max, min, sorted of ints in a list -/
def rMaxL : MRA := fun xs h Q => match xs with
  | [.ref a] => ∃ ns : List Int, h a = some (.lst (ns.map .int)) ∧ 0 < ns.length ∧ ∀ m, m ∈ ns → (∀ y, y ∈ ns → y ≤ m) → Q (.int m) h
  | _ => False
def rMinL : MRA := fun xs h Q => match xs with
  | [.ref a] => ∃ ns : List Int, h a = some (.lst (ns.map .int)) ∧ 0 < ns.length ∧ ∀ m, m ∈ ns → (∀ y, y ∈ ns → m ≤ y) → Q (.int m) h
  | _ => False
theorem cm_maxL (hc : X.calm = true) : CaM X (.builtin "max") rMaxL := by
  refine ⟨_, cr_max hc, fun xs h Q0 vs H Q q rh rs f => ?_⟩
  unfold rMaxL at q
  split at q
  · obtain ⟨v, rfl, rx⟩ := rs.one
    rw [rx.ref]
    obtain ⟨ns, e, l, q⟩ := q
    obtain ⟨vs, E, rs⟩ := rh.lst e
    rw [rs.ints] at E
    exact ⟨_, ns, rfl, .of E, l, fun m h1 h2 => fin_at f (q m h1 h2) rh rv_int⟩
  · exact q.elim
theorem cm_minL (hc : X.calm = true) : CaM X (.builtin "min") rMinL := by
  refine ⟨_, cr_min hc, fun xs h Q0 vs H Q q rh rs f => ?_⟩
  unfold rMinL at q
  split at q
  · obtain ⟨v, rfl, rx⟩ := rs.one
    rw [rx.ref]
    obtain ⟨ns, e, l, q⟩ := q
    obtain ⟨vs, E, rs⟩ := rh.lst e
    rw [rs.ints] at E
    exact ⟨_, ns, rfl, .of E, l, fun m h1 h2 => fin_at f (q m h1 h2) rh rv_int⟩
  · exact q.elim
end
end M

namespace M
open PySem L2
/-! ### isinstance -/
def tyD (h : MH) : D → String
  | .non => "NoneType"
  | .bl _ => "bool"
  | .int _ => "int"
  | .str _ => "str"
  | .tup _ => "tuple"
  | .rl _ => "list"
  | .ref a => match h a with
    | some (.lst _) => "list"
    | some (.dK _) => "dict"
    | some (.dT _) => "dict"
    | _ => "?"
def isTy (t c : String) : Bool := t == c || (t == "bool" && c == "int")
structure Kt (c : String) : Prop where
  yes : ∀ (K : PySem.W.Frag) (t : String), t = "NoneType" ∨ t = "bool" ∨ t = "int" ∨ t = "str" ∨ t = "tuple" ∨ t = "list" ∨ t = "dict" → PySem.W.kitOne K (.type t) (.type c) = some (isTy t c)
theorem kt_int : Kt "int" := ⟨fun K t h => by rcases h with e | e | e | e | e | e | e <;> subst e <;> exact kit_ty (by decide +kernel)⟩
theorem kt_bool : Kt "bool" := ⟨fun K t h => by rcases h with e | e | e | e | e | e | e <;> subst e <;> exact kit_ty (by decide +kernel)⟩
theorem kt_str : Kt "str" := ⟨fun K t h => by rcases h with e | e | e | e | e | e | e <;> subst e <;> exact kit_ty (by decide +kernel)⟩
theorem kt_tuple : Kt "tuple" := ⟨fun K t h => by rcases h with e | e | e | e | e | e | e <;> subst e <;> exact kit_ty (by decide +kernel)⟩
theorem kt_list : Kt "list" := ⟨fun K t h => by rcases h with e | e | e | e | e | e | e <;> subst e <;> exact kit_ty (by decide +kernel)⟩
theorem kt_dict : Kt "dict" := ⟨fun K t h => by rcases h with e | e | e | e | e | e | e <;> subst e <;> exact kit_ty (by decide +kernel)⟩
theorem bt_int : bootBuiltins "int" = some (.type "int") := PyProof.Rows.boot_int
theorem bt_bool : bootBuiltins "bool" = some (.type "bool") := PyProof.Rows.boot_bool
theorem bt_str : bootBuiltins "str" = some (.type "str") := PyProof.Rows.boot_str
theorem bt_tuple : bootBuiltins "tuple" = some (.type "tuple") := PyProof.Rows.boot_tuple
theorem bt_list : bootBuiltins "list" = some (.type "list") := PyProof.Rows.boot_list
theorem bt_dict : bootBuiltins "dict" = some (.type "dict") := PyProof.Rows.boot_dict
def mIsi (c : String) (a : MTE) : MTE := fun env h Q => a env h fun x h1 => tyD h1 x ≠ "?" ∧ Q (.bl (isTy (tyD h1 x) c)) h1
theorem tyX_of {K : PySem.W.Frag} {h : MH} {H : Hp} {x : D} {v : V} (n : tyD h x ≠ "?") (rh : HR K h H) (r : RV K H x v) :
    TyX K H v (.type (tyD h x)) ∧ (tyD h x = "NoneType" ∨ tyD h x = "bool" ∨ tyD h x = "int" ∨ tyD h x = "str" ∨ tyD h x = "tuple" ∨ tyD h x = "list" ∨ tyD h x = "dict") := by
  cases x with
  | non => rw [r.non]; exact ⟨.base .non, .inl rfl⟩
  | bl b => rw [r.bl]; exact ⟨.base (.bl b), .inr (.inl rfl)⟩
  | int b => rw [r.int]; exact ⟨.base (.int b), .inr (.inr (.inl rfl))⟩
  | str b => rw [r.str]; exact ⟨.base (.str b), .inr (.inr (.inr (.inl rfl)))⟩
  | tup ds =>
    obtain ⟨a, vs, rfl, ta, _⟩ := r.tup
    refine ⟨?_, .inr (.inr (.inr (.inr (.inl rfl))))⟩
    rcases ta with (e | ⟨o, e⟩) | ⟨o, its, n, e, c, _⟩
    · exact .base (.tup e)
    · exact .fTuple e
    · exact .kTuple e c
  | rl ds =>
    obtain ⟨a, vs, rfl, ta, _⟩ := r.rl
    refine ⟨?_, .inr (.inr (.inr (.inr (.inr (.inl rfl)))))⟩
    rcases ta with ⟨o, e⟩ | ⟨o, its, n, e, c, _⟩
    · exact .base (.frz e)
    · exact .kList e c
  | ref a =>
    rw [r.ref]
    cases e : h a with
    | none => exact absurd (by show (match h a with | some (.lst _) => "list" | some (.dK _) => "dict" | some (.dT _) => "dict" | _ => "?") = "?"; rw [e]) n
    | some o =>
      cases o with
      | lst ds =>
        have e1 : tyD h (.ref a) = "list" := by show (match h a with | some (.lst _) => "list" | some (.dK _) => "dict" | some (.dT _) => "dict" | _ => "?") = "list"; rw [e]
        obtain ⟨vs, E, _⟩ := rh.lst e
        rw [e1]
        exact ⟨.base (.lst E), .inr (.inr (.inr (.inr (.inr (.inl rfl)))))⟩
      | dK ds =>
        have e1 : tyD h (.ref a) = "dict" := by show (match h a with | some (.lst _) => "list" | some (.dK _) => "dict" | some (.dT _) => "dict" | _ => "?") = "dict"; rw [e]
        obtain ⟨vs, E, _⟩ := rh.dK e
        rw [e1]
        exact ⟨.base (.dK E), .inr (.inr (.inr (.inr (.inr (.inr rfl)))))⟩
      | dT ds =>
        have e1 : tyD h (.ref a) = "dict" := by show (match h a with | some (.lst _) => "list" | some (.dK _) => "dict" | some (.dT _) => "dict" | _ => "?") = "dict"; rw [e]
        obtain ⟨vs, E, _⟩ := rh.dT e
        rw [e1]
        exact ⟨.base (.dT E), .inr (.inr (.inr (.inr (.inr (.inr rfl)))))⟩
      | fT fs ws od => exact absurd (by show (match h a with | some (.lst _) => "list" | some (.dK _) => "dict" | some (.dT _) => "dict" | _ => "?") = "?"; rw [e]) n
section
variable {X : Cx} {Hb : Hp} {e : Expr} {es : List Expr} {me : MTE} {pos p p2 : Pos} {c : Str} {cn : String}
theorem ie_isi (hm : X.mg "isinstance" = none) (hmc : X.mg c = none) (he : IE X Hb e me) (hv : bootBuiltins c = some (.type cn)) (k : Kt cn) (hg : Gl X "isinstance" := by rfl) (hgc : Gl X c := by rfl) (hn : c ≠ "__name__" := by decide) (hd : (c == ("__debug__" : Str)) = false := by decide)
    (hs : starEach [e, .Name c p2] X.env = (false, eval e X.env) :: starEach [.Name c p2] X.env := by rfl) (hs2 : starEach [.Name c p2] X.env = (false, eval (.Name c p2) X.env) :: starEach [] X.env := by rfl) (hpl : (backTo pos (starEach [.Name c p2] X.env)).any (·.1) = false := by rfl) :
    IE X Hb (.Call (.Name "isinstance" p) [e, .Name c p2] [] pos) (mIsi cn me) := by
  refine pe_w (pe_callB call_isi hg hm PyProof.Rows.boot_isinstance (pa_cons he (pa_cons (pe_bltn (v := .ty cn) hgc hmc hv rfl hn hd) pa_nil hs2) hs) (by decide) (by decide) hs hpl) fun σ H Q ⟨env, h, Q0, re, rh, m, f⟩ => ?_
  refine ⟨env, h, _, re, rh, m, fun x h1 q v H1 t1 r1 rx => ?_⟩
  obtain ⟨ty, cs⟩ := tyX_of q.1 r1 rx
  exact ⟨v, .ty cn, _, _, _, rfl, .ty cn, ty, k.yes _ _ cs, f _ h1 q.2 _ H1 t1 r1 rv_bl⟩
/-! ### a list unpacked -/
def mAsgL (a : MTE) (ts : List Tg) : MTS := fun D' env h => a env h fun d h1 => ∃ b ds, d = .ref b ∧ h1 b = some (.lst ds) ∧ ∃ env', asgs ts ds env = some env' ∧ D'.nx env' h1
theorem is_asgL {ts : List Tg} {k : Nat} {pt : Pos} (hc : X.calm = true) (he : IE X Hb e me) (hg : IGs X es ts) (hn : (assignEach es X.env).length = ts.length := by rfl) (hst : (assignEach es X.env).findIdx? (·.1) = none := by rfl)
    (hs : swapsWithSole [.Tuple es k pt] e pos.line X.env = pure false := by rfl) (hw : swappedStores [.Tuple es k pt] e X.env = pure none := by rfl)
    (h1 : (assignEach [.Tuple es k pt] X.env).map (·.2) = [assign (.Tuple es k pt) X.env] := by rfl) : IS X Hb (.Assign [.Tuple es k pt] e pos) (mAsgL me ts) := by
  refine is_of (ps_asg he (pg_unl (t := gTs X.K ts) (n := ts.length) hc hg hn hst) hs hw h1) fun D' σ H env h D0 re rh m f => ?_
  refine ⟨env, h, _, re, rh, m, ?_⟩
  rintro d h1 ⟨b, ds, rfl, e1, env', e2, q⟩ v H1 t1 r1 rv
  obtain ⟨vs, E, rs⟩ := r1.lst e1
  rw [rv.ref]
  obtain ⟨σ', k1, k2, _⟩ := gTs_ok e2 rs (re.mono t1)
  exact ⟨b, vs, rfl, .of E, by rw [asgs_len e2, rs.length], k1 _ (f.nx env' h1 q σ' H1 t1 k2 r1)⟩
end
/-! ### a def of the text, a constant of the text -/
structure Fd (K : PySem.W.Frag) (mg : Str → Option Value) (x qual : Str) (st : Stmt) (ps : List Str) where
  a : Addr
  fd : FuncData
  F : Fun K x qual st a fd
  b : Binds K fd ps []
  m : mg x = some (.ref a)
structure Gc (K : PySem.W.Frag) (mg : Str → Option Value) (x : Str) (d : D) where
  u : Value
  v : V
  m : mg x = some u
  r : RelV v u
  rv : ∀ H, RV K H d v
theorem Gc.ie {X : Cx} {Hb : Hp} {x : Str} {d : D} {pos : Pos} (g : Gc X.K X.mg x d) (hg : Gl X x := by rfl) (hd : (x == ("__debug__" : Str)) = false := by decide) : IE X Hb (.Name x pos) (mC d) := ie_c (pe_glob hg g.m g.r hd) g.rv
/-! ### the end -/
theorem start_law {K : PySem.W.Frag} {H : Hp} {a : Addr} {ns : List Int} {sp : MSp} (hl : ns.length ≤ 63) (hb : ∀ z ∈ ns, Builtin.Int.intBits z ≤ 1048576) (hO : Only H) (hS : SqL K H a (ns.map V.int))
    (h : sp [.rl (ns.map .int)] (fun _ => none) (fun d _ => d = .bl true) noE) : liftSp K sp [.ref a] H (fun v _ => v = .bl true) fun _ _ _ => False := by
  have hI : SqI K H a (ns.map V.int) := by
    rcases hS with (e | ⟨o, e⟩) | e
    · rcases hO a with z | ⟨o, xs, z⟩
      · rw [e] at z; cases z
      · rw [e] at z; cases z
    · exact .inl ⟨o, e⟩
    · exact .inr e
  refine ⟨_, _, _, _, .cons ?_ .nil, fun _ _ e => (by cases e), h, fun d h' q v H' t rh rv => ?_, fun _ _ q => q.elim⟩
  · simp only [RV]
    exact ⟨a, _, rfl, hI, .of_ints⟩
  · subst q
    exact rv.bl
/-! ### frames -/
def Fr (S : List Addr) (h h' : MH) : Prop := ∀ b o, b ∉ S → h b = some o → h' b = some o
theorem Fr.refl {S : List Addr} {h : MH} : Fr S h h := fun _ _ _ e => e
theorem Fr.trans {S : List Addr} {h h1 h2 : MH} (a : Fr S h h1) (b : Fr S h1 h2) : Fr S h h2 := fun c o n e => b c o n (a c o n e)
theorem Fr.mono {S S' : List Addr} {h h1 : MH} (a : Fr S h h1) (s : ∀ x ∈ S, x ∈ S') : Fr S' h h1 := fun c o n e => a c o (fun z => n (s _ z)) e
theorem Fr.new {S : List Addr} {h : MH} {p : Addr} {o : MO} (n : h p = none) : Fr S h (up h p o) := fun b u _ e => by rw [up_ne (ne_of e n)]; exact e
theorem Fr.put {S : List Addr} {h : MH} {p : Addr} {o : MO} (n : p ∈ S) : Fr S h (up h p o) := fun b u nb e => by rw [up_ne (fun z => nb (by rw [z]; exact n))]; exact e
theorem Fr.at0 {h h' : MH} (f : Fr [] h h') {a : Addr} {o : MO} (e : h a = some o) : h' a = some o := f a o (by simp) e
theorem Fr.at1 {h h' : MH} {p a : Addr} {o : MO} (f : Fr [p] h h') (e : h a = some o) (n : a ≠ p) : h' a = some o := f a o (by simpa using n) e
theorem Fr.free {h h' : MH} (f : Fr [] h h') {a : Addr} (e : h' a = none) : h a = none := by
  cases q : h a with
  | none => rfl
  | some o => rw [f.at0 q] at e; cases e
/-! ### the walk -/
theorem seq_ {a b : MTS} {D' : MEnds} {env : ME} {h : MH} (k : a { D' with nx := b D' } env h) : mSeq a b D' env h := k
theorem ite_ {c : Prop} [Decidable c] {A B : Prop} (h1 : c → A) (h2 : ¬ c → B) : if decide c = true then A else B := by
  by_cases h : c
  · rw [if_pos (decide_eq_true h)]; exact h1 h
  · rw [if_neg (by simpa using h)]; exact h2 h
theorem iteb_ {c : Bool} {A B : Prop} (h1 : c = true → A) (h2 : c = false → B) : if c = true then A else B := by
  cases c with
  | true => rw [if_pos rfl]; exact h1 rfl
  | false => rw [if_neg Bool.false_ne_true]; exact h2 rfl
end M
namespace M
open PySem L2
section
variable {D' : MEnds} {env : ME} {h : MH} {e o i : MTE} {a b : MTS} {c : MTT} {n j : Nat} {t : Tg} {ts : List Tg} {r : MR2} {rs : MRSet}
theorem set_ (k : e env h fun d h1 => D'.nx (env.set n (some d)) h1) : mSet n e D' env h := k
theorem ret_ (k : e env h D'.rt) : mRet e D' env h := k
theorem retN_ (k : D'.rt .non h) : mRetN D' env h := k
theorem drop_ (k : e env h fun _ h1 => D'.nx env h1) : mDrop e D' env h := k
theorem next_ (k : D'.nx env h) : mNext D' env h := k
theorem brk_ (k : D'.bk env h) : mBrk D' env h := k
theorem ct_ (k : D'.ct env h) : mCt D' env h := k
theorem if_ (k : c env h fun k h1 => if k = true then a D' env h1 else b D' env h1) : mIf c a b D' env h := k
theorem asg_ (k : e env h fun d h1 => ∃ env', asg t d env = some env' ∧ D'.nx env' h1) : mAsg e t D' env h := k
theorem asgL_ (k : e env h fun d h1 => ∃ b ds, d = .ref b ∧ h1 b = some (.lst ds) ∧ ∃ env', asgs ts ds env = some env' ∧ D'.nx env' h1) : mAsgL e ts D' env h := k
theorem put_ (k : e env h fun d h1 => o env h1 fun x h2 => i env h2 fun y h3 => rs x y d h3 fun h4 => D'.nx env h4) : mPut rs e o i D' env h := k
theorem for_ {i : MTI} (k : i env h fun S h1 => ForW S t a D' env h1) : mFor i t a D' env h := k
theorem while_ (W : Nat → ME → MH → Prop) (m : Nat) (w0 : W m env h) (turn : ∀ m env h, W m env h →
  c env h fun k h1 => if k = true then a { D' with nx := fun env' h' => ∃ m', m' < m ∧ W m' env' h', ct := fun env' h' => ∃ m', m' < m ∧ W m' env' h', bk := D'.nx } env h1 else D'.nx env h1) : mWhile c a D' env h := ⟨W, ⟨m, w0⟩, turn⟩
/-- the loop's word -/
theorem forW {S : MSrc} {h1 : MH} (W : Nat → ME → MH → Prop) (w0 : W 0 env h1) (ok : ∀ k env' h', W k env' h' → S.ok h') (turn : ∀ k env' h', k < S.n → W k env' h' →
    ∃ env2, asg t (S.item k) env' = some env2 ∧ a { D' with nx := W (k + 1), ct := W (k + 1), bk := D'.nx } env2 h') (fin : ∀ env' h', W S.n env' h' → D'.nx env' h') : ForW S t a D' env h1 :=
  ⟨W, w0, fun k env' h' hk w => ⟨ok k env' h' w, fun hl => turn k env' h' hl w, fun e => fin env' h' (e ▸ w)⟩⟩
/-- a comprehension whose element and test leave the heap's things as they are -/
theorem lcW {S : MSrc} {h1 : MH} {Q : MQ} {tt : MTT} {vs : List Nat} (f : Nat → Option D) (ok : ∀ h', Fr [] h1 h' → S.ok h') (hz : S.n ≤ 100000) (turn : ∀ k h', k < S.n → Fr [] h1 h' →
    ∃ env2, asg t (S.item k) (mwipe env vs) = some env2 ∧ ∀ R : Bool → MH → Prop, (∀ h3, Fr [] h' h3 → R (f k).isSome h3) → tt env2 h' R)
    (el : ∀ k h' env2 d, k < S.n → Fr [] h1 h' → asg t (S.item k) (mwipe env vs) = some env2 → f k = some d → ∀ R : MQ, (∀ h3, Fr [] h' h3 → R d h3) → e env2 h' R)
    (fin : ∀ p h', Fr [] h1 h' → h1 p = none → h' p = some (.lst ((List.range S.n).filterMap f)) → Q (.ref p) h') : LcW S t tt e vs env h1 Q := by
  intro p np
  refine ⟨fun k h' => Fr [] h1 h' ∧ h' p = some (.lst ((List.range k).filterMap f)), ⟨.new np, up_same⟩, fun k h' hk ⟨fr, ep⟩ => ⟨ok h' fr, fun hl => ?_, fun e => fin p h' fr np (e ▸ ep)⟩⟩
  obtain ⟨env2, ea, ht⟩ := turn k h' hl fr
  refine ⟨env2, ea, ht _ fun h3 f3 => ?_⟩
  have e3 := f3.at0 ep
  have sz : ((List.range k).filterMap f).length < sizeLine := by
    have := List.length_filterMap_le f (List.range k)
    rw [List.length_range] at this
    rw [sizeLine_eq]; omega
  cases q : f k with
  | none =>
    refine ⟨fr.trans f3, ?_⟩
    rw [List.range_succ, List.filterMap_append, List.filterMap_cons, q, List.filterMap_nil, List.append_nil]
    exact e3
  | some d =>
    refine el k h3 env2 d hl (fr.trans f3) ea q _ fun h4 f4 => ?_
    refine ⟨_, f4.at0 e3, sz, fun b o nb e => ?_, ?_⟩
    · rw [up_ne (ne_of e np)]
      exact f4.at0 (f3.at0 (fr.at0 e))
    · rw [up_same, List.range_succ, List.filterMap_append, List.filterMap_cons, q, List.filterMap_nil]
theorem par_ (k : e env h fun x h1 => o env h1 fun y h2 => D'.nx ((env.set n (some x)).set j (some y)) h2) : mPar n j e o D' env h := k
theorem aug_ (k : ∃ x, env[n]? = some (some x) ∧ e env h fun y h1 => r x y h1 fun z h2 => D'.nx (env.set n (some z)) h2) : mAug n r e D' env h := k
end
section
variable {α : Type} {x y z u v w : α} {xs : List α}
theorem at0 : atI (x :: xs) 0 = some x := atI_nat (j := 0) rfl
theorem at1 : atI (x :: y :: xs) 1 = some y := atI_nat (j := 1) rfl
theorem at2 : atI (x :: y :: z :: xs) 2 = some z := atI_nat (j := 2) rfl
theorem at3 : atI (x :: y :: z :: u :: xs) 3 = some u := atI_nat (j := 3) rfl
theorem at4 : atI (x :: y :: z :: u :: v :: xs) 4 = some v := atI_nat (j := 4) rfl
theorem at5 : atI (x :: y :: z :: u :: v :: w :: xs) 5 = some w := atI_nat (j := 5) rfl
end
theorem srcR_item {lo c : Int} {n k : Nat} : (srcR lo n c).item k = .int (lo + (k : Nat) * c) := rfl
theorem srcR_n {lo c : Int} {n : Nat} : (srcR lo n c).n = n := rfl
theorem srcD_n {ds : List D} {ok : MH → Prop} : (srcD ds ok).n = ds.length := rfl
theorem srcE_n {ds : List D} {ok : MH → Prop} : (srcE ds ok).n = ds.length := rfl
theorem srcZ_n {ds es : List D} {ok : MH → Prop} : (srcZ ds es ok).n = min ds.length es.length := rfl
theorem srcD_item {ds : List D} {ok : MH → Prop} {k : Nat} : (srcD ds ok).item k = ds.getD k .non := rfl
theorem srcE_item {ds : List D} {ok : MH → Prop} {k : Nat} : (srcE ds ok).item k = .tup [.int (k : Nat), ds.getD k .non] := rfl
theorem srcZ_item {ds es : List D} {ok : MH → Prop} {k : Nat} : (srcZ ds es ok).item k = .tup [ds.getD k .non, es.getD k .non] := rfl
end M

namespace M
open PySem L2
/-! ### more rules -/
def mRev (a : MTE) : MTE := fun env h Q => a env h fun x h1 => match x with
  | .rl ds => ∀ p, h1 p = none → Q (.ref p) (up h1 p (.lst ds.reverse))
  | .ref a => ∃ ds, h1 a = some (.lst ds) ∧ ∀ p, h1 p = none → Q (.ref p) (up h1 p (.lst ds.reverse))
  | _ => False
theorem RVs.reverse {K : PySem.W.Frag} {H : Hp} : ∀ {ds : List D} {vs : List V}, RVs K H ds vs → RVs K H ds.reverse vs.reverse
  | [], _, h => by rw [h.inv0]; exact .nil
  | d :: ds, _, h => by
    obtain ⟨v, r, rfl, q, t⟩ := h.inv
    rw [List.reverse_cons, List.reverse_cons]
    exact t.reverse.append (.cons q .nil)
theorem rgV_ints (a b : Int) : rgV a b = ((List.range (b - a).toNat).map fun i => a + (i : Nat)).map V.int := by
  unfold rgV; rw [List.map_map]; rfl
def rgI (a b : Int) : List Int := (List.range (b - a).toNat).map fun i => a + (i : Nat)
def mTupR1 (a : MTE) : MTE := fun env h Q => a env h fun x h1 => ∃ j, x = .int j ∧ RgOk 0 j ∧ Q (.tup ((rgI 0 j).map .int)) h1
def mLstR1 (a : MTE) : MTE := fun env h Q => a env h fun x h1 => ∃ j, x = .int j ∧ RgOk 0 j ∧ ∀ p, h1 p = none → Q (.ref p) (up h1 p (.lst ((rgI 0 j).map .int)))
section
variable {X : Cx} {Hb : Hp} {a e o i : Expr} {ma me mo mi : MTE} {pos p p2 p3 pa : Pos} {k : Nat}
theorem ie_revL (he : IE X Hb e me) : IE X Hb (.Subscript e (.Slice none none (some (.UnaryOp .USub (.Constant (.int 1) k p) p2)) p3) pos) (mRev me) := by
  refine pe_w (pe_revL he) fun σ H Q ⟨env, h, Q0, re, rh, m, f⟩ => ?_
  refine ⟨env, h, _, re, rh, m, fun x h1 q v H1 t1 r1 rx => ?_⟩
  have f1 := Fin.mono t1 f
  cases x <;> first | exact q.elim | skip
  · obtain ⟨a, vs, rfl, ta, rs⟩ := rx.rl
    exact ⟨a, vs, rfl, ta.l, fun p np => f1 _ _ (q p (r1.free np)) _ _ (.new np) (r1.new np (ro_lst rs.reverse)) rv_ref⟩
  · obtain ⟨ds, e, q⟩ := q
    rw [rx.ref]
    obtain ⟨vs, E, rs⟩ := r1.lst e
    exact ⟨_, vs, rfl, .of E, fun p np => f1 _ _ (q p (r1.free np)) _ _ (.new np) (r1.new np (ro_lst rs.reverse)) rv_ref⟩
theorem ie_tupR1 (hm : X.mg "tuple" = none) (hr : X.mg "range" = none) (ha : IE X Hb a ma) (hc : X.calm = true := by rfl) (hg : Gl X "tuple" := by rfl) (hg2 : Gl X "range" := by rfl) (na : starEach [a] X.env = (false, eval a X.env) :: starEach [] X.env := by rfl)
    (na2 : starEach [.Call (.Name "range" p2) [a] [] pa] X.env = (false, eval (.Call (.Name "range" p2) [a] [] pa) X.env) :: starEach [] X.env := by rfl) : IE X Hb (.Call (.Name "tuple" p) [.Call (.Name "range" p2) [a] [] pa] [] pos) (mTupR1 ma) := by
  refine pe_w (pe_tupRg hc hg hm (prg_1 hg2 hr ha na) na2) fun σ H Q ⟨env, h, Q0, re, rh, m, f⟩ => ?_
  refine ⟨env, h, _, re, rh, m, ?_⟩
  rintro d h1 ⟨j, rfl, ok, q⟩ v H1 t1 r1 rx
  rw [rx.int]
  refine ⟨j, rfl, ok, fun p np => ?_⟩
  rw [rgV_ints]
  exact f _ h1 q _ _ (t1.trans (.new np)) (r1.skip np) (rv_tup (.of upd_same) .of_ints)
theorem ie_lstR1 (hm : X.mg "list" = none) (hr : X.mg "range" = none) (ha : IE X Hb a ma) (hc : X.calm = true := by rfl) (hg : Gl X "list" := by rfl) (hg2 : Gl X "range" := by rfl) (na : starEach [a] X.env = (false, eval a X.env) :: starEach [] X.env := by rfl)
    (na2 : starEach [.Call (.Name "range" p2) [a] [] pa] X.env = (false, eval (.Call (.Name "range" p2) [a] [] pa) X.env) :: starEach [] X.env := by rfl) : IE X Hb (.Call (.Name "list" p) [.Call (.Name "range" p2) [a] [] pa] [] pos) (mLstR1 ma) := by
  refine pe_w (pe_listRg hc hg hm (prg_1 hg2 hr ha na) na2) fun σ H Q ⟨env, h, Q0, re, rh, m, f⟩ => ?_
  refine ⟨env, h, _, re, rh, m, ?_⟩
  rintro d h1 ⟨j, rfl, ok, q⟩ v H1 t1 r1 rx
  rw [rx.int]
  refine ⟨j, rfl, ok, fun p np => ?_⟩
  rw [rgV_ints]
  exact f _ _ (q p (r1.free np)) _ _ (t1.trans (.new np)) (r1.new np (ro_lst .of_ints)) rv_ref
def rPopAt : MRM := fun x xs h Q => match x, xs with
  | .ref a, [.int i] => ∃ ds, h a = some (.lst ds) ∧ 0 ≤ i ∧ i < ds.length ∧ ds.length < 2 ^ 62 ∧ ∃ y, ds[i.toNat]? = some y ∧ Q y (up h a (.lst (ds.eraseIdx i.toNat)))
  | _, _ => False
theorem RVs.eraseIdx {K : PySem.W.Frag} {H : Hp} : ∀ {ds : List D} {vs : List V} (n : Nat), RVs K H ds vs → RVs K H (ds.eraseIdx n) (vs.eraseIdx n)
  | [], _, _, h => by rw [h.inv0]; exact .nil
  | d :: ds, _, 0, h => by
    obtain ⟨v, r, rfl, q, t⟩ := h.inv
    exact t
  | d :: ds, _, n + 1, h => by
    obtain ⟨v, r, rfl, q, t⟩ := h.inv
    exact .cons q (t.eraseIdx n)
theorem mi_popAt : MtI X "list.pop" rPopAt := by
  refine ⟨_, mt_popAt, fun x xs h Q0 vx vs H Q q rh rx rs f => ?_⟩
  unfold rPopAt at q
  split at q
  · rename_i a i
    obtain ⟨ds, e, i0, i1, i2, y, ey, q⟩ := q
    obtain ⟨v, rfl, ry⟩ := rs.one
    obtain ⟨ws, E, rt⟩ := rh.lst e
    rw [rx.ref, ry.int]
    obtain ⟨u, eu, ru⟩ := rt.get ey
    have t : TL H (upd H _ (.lst (ws.eraseIdx i.toNat))) := .put E (fun _ z => by cases z) (fun _ _ z => by cases z)
    have hl := rt.length
    have e2 : ixN ws.length i = some i.toNat := by
      unfold ixN
      rw [if_pos i0, if_pos (by omega)]
    exact ⟨_, ws, i, i.toNat, u, rfl, rfl, E, by omega, by omega, (ixN_seq e2).1, eu, f _ _ q _ _ t (rh.put t (ro_lst ((rt.eraseIdx _).mono t))) (ru.mono t)⟩
  · exact q.elim
def rPop : MRM := fun x xs h Q => match x, xs with
  | .ref a, [] => ∃ ds, h a = some (.lst ds) ∧ ∃ y, ds[ds.length - 1]? = some y ∧ Q y (up h a (.lst ds.dropLast))
  | _, _ => False
theorem RVs.dropLast {K : PySem.W.Frag} {H : Hp} {ds : List D} {vs : List V} (h : RVs K H ds vs) : RVs K H ds.dropLast vs.dropLast := by
  rw [List.dropLast_eq_take, List.dropLast_eq_take, h.length]; exact h.take _
theorem mi_pop : MtI X "list.pop" rPop := by
  refine ⟨_, mt_pop, fun x xs h Q0 vx vs H Q q rh rx rs f => ?_⟩
  unfold rPop at q
  split at q
  · obtain ⟨ds, e, y, ey, q⟩ := q
    obtain ⟨ws, E, rt⟩ := rh.lst e
    rw [rx.ref, rs.inv0]
    obtain ⟨u, eu, ru⟩ := rt.get ey
    have t : TL H (upd H _ (.lst ws.dropLast)) := .put E (fun _ z => by cases z) (fun _ _ z => by cases z)
    exact ⟨_, ws, u, rfl, rfl, E, by rw [← rt.length]; exact eu, f _ _ q _ _ t (rh.put t (ro_lst (rt.dropLast.mono t))) (ru.mono t)⟩
  · exact q.elim
/-! ### sorted ints of a list -/
def rSorted : MRA := fun xs h Q => match xs with
  | [.ref a] => ∃ ns : List Int, h a = some (.lst (ns.map .int)) ∧ ∀ (ns' : List Int) p, ns'.Perm ns → ns'.Pairwise (· ≤ ·) → h p = none → Q (.ref p) (up h p (.lst (ns'.map .int)))
  | _ => False
theorem cm_sorted : CaM X (.builtin "sorted") rSorted := by
  refine ⟨_, cr_sortedI, fun xs h Q0 vs H Q q rh rs f => ?_⟩
  unfold rSorted at q
  split at q
  · obtain ⟨v, rfl, rx⟩ := rs.one
    rw [rx.ref]
    obtain ⟨ns, e, q⟩ := q
    obtain ⟨vs, E, rs⟩ := rh.lst e
    rw [rs.ints] at E
    exact ⟨_, ns, rfl, .of E, fun ns' p h1 h2 np => f _ _ (q ns' p h1 h2 (rh.free np)) _ _ (.new np) (rh.new np (ro_lst .of_ints)) rv_ref⟩
  · exact q.elim
/-! ### xs[i] op= e -/
def mAugS (r : MR2) (o i e : MTE) : MTS := fun D' env h => o env h fun x h1 => i env h1 fun y h2 => rIx x y h2 (fun z h3 => e env h3 fun w h4 => r z w h4 fun u h5 => rSetL x y u h5 fun h6 => D'.nx env h6) ∧ ∃ a, x = .ref a
theorem pget_list : PGet X (rIxL X.K) := by
  intro pins s σ H x y v u Q I rx ry h
  obtain ⟨p, xs, i, z, rfl, rfl, hq, he, q⟩ := h
  cases rx
  obtain ⟨t, rfl⟩ := ry
  obtain ⟨its, r, pl, hz⟩ := I.list hq
  obtain ⟨j, h1, h2, h3, h4, h5⟩ := atI_get he
  obtain ⟨w, ew, rw'⟩ := r.get h2
  have hl := r.length
  have hn := L2.line63
  have fin : EP X pins σ Q w s := ⟨z, H, I, rw', q⟩
  by_cases h0 : 0 ≤ i
  · have hj : i.toNat = j := by
      rw [seqIndex_of h0 h5] at h1
      exact Option.some.inj h1
    exact wpAny_getItem_list pl.isList h0 (by omega) (by rw [hj]; simpa using ew) fin
  · have hj : (i + (its.toArray.size : Int)).toNat = j := by
      rw [seqIndex_neg (by omega) h4] at h1
      rw [List.size_toArray, ← hl]
      exact Option.some.inj h1
    exact wpAny_getItem_list_neg pl.isList (by omega) (by rw [List.size_toArray] <;> omega) (by omega) (by rw [hj]; simpa using ew) fin
theorem is_augS {op : Operator} {r : MR2} {tpos : Pos} (hp : IpM X op r) (ho : IE X Hb o mo) (hi : IE X Hb i mi) (he : IE X Hb e me)
    (ha : ∀ ov iv new, augStore i ov iv new = (do holding [new, ov, iv] (setItem ov iv new); release [new, ov, iv] []; pure .next) := by intros; rfl) : IS X Hb (.AugAssign (.Subscript o i tpos) op e pos) (mAugS r mo mi me) := by
  obtain ⟨R, hR, hr⟩ := hp
  obtain ⟨RS, hRS, hs⟩ := se_list (X := X)
  refine is_of (ps_augS ho hi pget_list he hR hRS ha) fun D' σ H env h D0 re rh m f => ?_
  refine ⟨env, h, _, re, rh, m, fun x h1 q1 vx H1 t1 r1 rx => ?_⟩
  refine ⟨env, h1, _, re.mono t1, r1, q1, fun y h2 q2 vy H2 t2 r2 ry => ?_⟩
  have q2 : rIx x y h2 _ ∧ ∃ a, x = .ref a := q2
  obtain ⟨q2, a, rfl⟩ := q2
  cases y <;> first | exact q2.elim | skip
  rename_i k _z
  obtain ⟨ds, e0, d, ed, q2⟩ := q2
  obtain ⟨vs, E, rs⟩ := r2.lst e0
  obtain ⟨v, e1, rv⟩ := rs.atI ed
  have rx2 := rx.mono t2
  rw [rx2.ref, ry.int]
  refine ⟨a, vs, k, v, rfl, rfl, .of E, e1, ?_⟩
  refine ⟨env, h2, _, (re.mono t1).mono t2, r2, q2, fun w h4 q4 vw H4 t4 r4 rw' => ?_⟩
  refine hr d w h4 _ v vw H4 _ q4 r4 (rv.mono t4) rw' fun u h5 q5 vu H5 t5 r5 ru => ?_
  refine hs (.ref a) (.int k) u h5 _ _ _ vu H5 _ q5 r5 rv_ref rv_int ru fun h6 q6 H6 t6 r6 => ?_
  have tt := t1.trans (t2.trans (t4.trans (t5.trans t6)))
  exact f.nx env h6 q6 σ H6 tt (re.mono tt) r6
end
end M

namespace M
open PySem L2
/-- a promise of nothing (the foot of a recursion) -/
theorem fnNone {P : Program} {w : World} {K : PySem.W.Frag} {mg : Str → Option Value} {base : Heap} {CX : CXT} {k : Nat} {f : Addr} {fd : FuncData} {ps : List Str} {sp : MSp} (h : ∀ ds h Q E, ¬ sp ds h Q E) : FnOk P w K mg base CX k f fd ps (liftSp K sp) :=
  ⟨fun vs H Q E ⟨ds, hh, Q0, E0, _, _, q, _⟩ => absurd q (h _ _ _ _), fun A outer s H args us vs Q E _ _ _ _ ⟨ds, hh, Q0, E0, _, _, q, _⟩ => absurd q (h _ _ _ _)⟩
section
variable {D' : MEnds} {env : ME} {h : MH} {e o i : MTE} {a b : MTS} {c : MTT} {n j : Nat} {t : Tg} {ts : List Tg} {r : MR2} {rs : MRSet}
/-- a comprehension that changes the things at L: I tells what holds behind each item -/
theorem lcS {S : MSrc} {h1 : MH} {Q : MQ} {tt : MTT} {vs : List Nat} (L : List Addr) (I : Nat → List D → MH → Prop) (hL : ∀ a ∈ L, h1 a ≠ none)
    (stab : ∀ k acc h' p o, h1 p = none → I k acc h' → I k acc (up h' p o)) (i0 : I 0 [] h1) (ok : ∀ h', Fr L h1 h' → S.ok h') (hz : S.n ≤ 100000)
    (turn : ∀ k acc h', k < S.n → Fr L h1 h' → I k acc h' → acc.length ≤ k → ∃ env2, asg t (S.item k) (mwipe env vs) = some env2 ∧ ∀ R : Option D → MH → Prop,
      (∀ h3, Fr L h' h3 → I (k + 1) acc h3 → R none h3) → (∀ y h4, Fr L h' h4 → I (k + 1) (acc ++ [y]) h4 → R (some y) h4) →
      tt env2 h' fun b h3 => if b = true then e env2 h3 fun y h4 => R (some y) h4 else R none h3)
    (fin : ∀ p h' acc, Fr L h1 h' → h1 p = none → h' p = some (.lst acc) → I S.n acc h' → Q (.ref p) h') : LcW S t tt e vs env h1 Q := by
  intro p np
  have pL : p ∉ L := fun z => hL p z np
  refine ⟨fun k h' => Fr L h1 h' ∧ ∃ acc, h' p = some (.lst acc) ∧ acc.length ≤ k ∧ I k acc h', ⟨.new np, [], up_same, Nat.le_refl _, stab _ _ _ _ _ np i0⟩, ?_⟩
  rintro k h' hk ⟨fr, acc, ea, la, ia⟩
  refine ⟨ok h' fr, fun hl => ?_, fun e => fin p h' acc fr np ea (e ▸ ia)⟩
  obtain ⟨env2, eg, ht⟩ := turn k acc h' hl fr ia la
  refine ⟨env2, eg, ?_⟩
  have key := ht (fun d h3 => match d with
    | some y => ∃ acc, h3 p = some (.lst acc) ∧ acc.length < sizeLine ∧ (Fr L h1 (up h3 p (.lst (acc ++ [y]))) ∧ ∃ acc2, (up h3 p (.lst (acc ++ [y]))) p = some (.lst acc2) ∧ acc2.length ≤ k + 1 ∧ I (k + 1) acc2 (up h3 p (.lst (acc ++ [y]))))
    | none => Fr L h1 h3 ∧ ∃ acc, h3 p = some (.lst acc) ∧ acc.length ≤ k + 1 ∧ I (k + 1) acc h3) ?_ ?_
  · exact key
  · exact fun h3 f3 i3 => ⟨fr.trans f3, acc, f3 _ _ pL ea, by omega, i3⟩
  · intro y h4 f4 i4
    have e4 := f4 _ _ pL ea
    refine ⟨acc, e4, by rw [sizeLine_eq]; omega, fun b o nb e => ?_, _, up_same, by rw [List.length_append, List.length_singleton]; omega, stab _ _ _ _ _ np i4⟩
    rw [up_ne (ne_of e np)]
    exact f4 _ _ nb (fr _ _ nb e)
end
theorem inF_ints {x : Int} {xs : List Int} : inF (.int x) (xs.map .int) = decide (x ∈ xs) := by
  unfold inF
  rw [List.any_map]
  induction xs with
  | nil => rfl
  | cons y ys ih =>
    rw [List.any_cons, ih]
    show (y == x || _) = _
    rw [show (y == x) = decide (y = x) from rfl, ← Bool.decide_or]
    refine decide_eq_decide.mpr ?_
    rw [List.mem_cons, eq_comm]
theorem flat_ints {xs : List Int} : (xs.map D.int).all flatD = true := by
  rw [List.all_map]
  exact List.all_eq_true.mpr fun _ _ => rfl
theorem atI_ints {xs : List Int} {i : Nat} {x : Int} (h : xs[i]? = some x) : atI (xs.map D.int) (i : Int) = some (.int x) := atI_nat (by rw [List.getElem?_map, h]; rfl)
theorem atI_map {α : Type} {f : α → D} {xs : List α} {i : Nat} {x : α} (h : xs[i]? = some x) : atI (xs.map f) (i : Int) = some (f x) := atI_nat (by rw [List.getElem?_map, h]; rfl)
theorem atI_lt {ds : List D} {r : Int} (h0 : 0 ≤ r) (h1 : r < ds.length) : ∃ d, atI ds r = some d ∧ d ∈ ds := by
  have e : r = (r.toNat : Int) := by omega
  have hl : r.toNat < ds.length := by omega
  have h := atI_nat (List.getElem?_eq_getElem hl)
  rw [← e] at h
  exact ⟨ds[r.toNat], h, List.getElem_mem hl⟩
theorem ints_inj : ∀ {xs ys : List Int}, xs.map D.int = ys.map D.int → xs = ys
  | [], [], _ => rfl
  | [], _ :: _, h => by cases h
  | _ :: _, [], h => by cases h
  | x :: xs, y :: ys, h => by
    rw [List.map_cons, List.map_cons] at h
    injection h with h1 h2
    injection h1 with h1
    rw [h1, ints_inj h2]
theorem Fr.lst1 {L : List Addr} {h h' : MH} {a : Addr} {o : MO} (f : Fr L h h') (e : h a = some o) (n : a ∉ L) : h' a = some o := f a o n e

section
variable {env : ME} {e : MTE} {t : Tg}
/-- a comprehension that changes nothing that stood -/
theorem lcP {S : MSrc} {h1 : MH} {Q : MQ} {tt : MTT} {vs : List Nat} (f : Nat → Option D) (ok : ∀ h', Fr [] h1 h' → S.ok h') (hz : S.n ≤ 100000)
    (turn : ∀ k h', k < S.n → Fr [] h1 h' → ∃ env2, asg t (S.item k) (mwipe env vs) = some env2 ∧ ∀ R : Option D → MH → Prop,
      (∀ h3, Fr [] h' h3 → R (f k) h3) → tt env2 h' fun b h3 => if b = true then e env2 h3 fun y h4 => R (some y) h4 else R none h3)
    (fin : ∀ p h', Fr [] h1 h' → h1 p = none → h' p = some (.lst ((List.range S.n).filterMap f)) → Q (.ref p) h') : LcW S t tt e vs env h1 Q := by
  refine lcS [] (fun k acc _ => acc = (List.range k).filterMap f) (by simp) (fun _ _ _ _ _ _ i => i) rfl ok hz (fun k acc h' hk fr ia _ => ?_) (fun p h' acc fr np ep ia => fin p h' fr np (ia ▸ ep))
  obtain ⟨env2, ea, ht⟩ := turn k h' hk fr
  refine ⟨env2, ea, fun R r0 r1 => ht R fun h3 f3 => ?_⟩
  have e1 : (List.range (k + 1)).filterMap f = (List.range k).filterMap f ++ (match f k with | some d => [d] | none => []) := by
    rw [List.range_succ, List.filterMap_append, List.filterMap_cons]
    cases f k <;> rfl
  cases q : f k with
  | none => exact r0 h3 f3 (by rw [e1, q, List.append_nil]; exact ia)
  | some d => exact r1 d h3 f3 (by rw [e1, q, ia])
theorem range_fm {α β : Type} (xs : List α) (g : α → Option β) : (List.range xs.length).filterMap (fun k => (xs[k]?).bind g) = xs.filterMap g := by
  induction xs with
  | nil => rfl
  | cons x xs ih =>
    rw [List.length_cons, List.range_succ_eq_map, List.filterMap_cons, List.filterMap_map]
    show (match g x with | none => _ | some b => _) = _
    rw [List.filterMap_cons]
    have e : (List.range xs.length).filterMap ((fun k => ((x :: xs)[k]?).bind g) ∘ Nat.succ) = xs.filterMap g := by
      rw [← ih]; rfl
    rw [e]; cases g x <;> rfl
theorem getD_map {α : Type} {f : α → D} {xs : List α} {k : Nat} (h : k < xs.length) : (xs.map f).getD k .non = f xs[k] := by
  rw [List.getD_eq_getElem?_getD, List.getElem?_map, List.getElem?_eq_getElem h]; rfl
theorem lcL {α : Type} (xs : List α) (enc : α → D) (g : α → Option D) {okk : MH → Prop} {h1 : MH} {Q : MQ} {tt : MTT} {vs : List Nat} (ok : ∀ h', Fr [] h1 h' → okk h') (hz : xs.length ≤ 100000)
    (turn : ∀ x h', x ∈ xs → Fr [] h1 h' → ∃ env2, asg t (enc x) (mwipe env vs) = some env2 ∧ ∀ R : Option D → MH → Prop,
      (∀ h3, Fr [] h' h3 → R (g x) h3) → tt env2 h' fun b h3 => if b = true then e env2 h3 fun y h4 => R (some y) h4 else R none h3)
    (fin : ∀ p h', Fr [] h1 h' → h1 p = none → h' p = some (.lst (xs.filterMap g)) → Q (.ref p) h') : LcW (srcD (xs.map enc) okk) t tt e vs env h1 Q := by
  have hn : (srcD (xs.map enc) okk).n = xs.length := List.length_map ..
  refine lcP (fun k => (xs[k]?).bind g) ok (by rw [hn]; exact hz) (fun k h' hk fr => ?_) (fun p h' fr np ep => fin p h' fr np ?_)
  · rw [hn] at hk
    have e1 : (srcD (xs.map enc) okk).item k = enc xs[k] := getD_map hk
    rw [e1, List.getElem?_eq_getElem hk]
    exact turn xs[k] h' (List.getElem_mem hk) fr
  · rw [hn, range_fm] at ep
    exact ep
theorem fm_some {α : Type} (xs : List α) (g : α → D) : xs.filterMap (fun x => some (g x)) = xs.map g := by
  induction xs with
  | nil => rfl
  | cons x xs ih => rw [List.filterMap_cons, List.map_cons, ih]
theorem fm_if {α : Type} (xs : List α) (c : α → Bool) (g : α → D) : xs.filterMap (fun x => if c x = true then some (g x) else none) = (xs.filter c).map g := by
  induction xs with
  | nil => rfl
  | cons x xs ih =>
    rw [List.filterMap_cons, List.filter_cons]
    cases c x with
    | true => rw [if_pos rfl, if_pos rfl, List.map_cons, ih]
    | false => rw [if_neg Bool.false_ne_true, if_neg Bool.false_ne_true, ih]
end
/-! ### the operators at what they take -/
section
variable {i j : Int} {k : Nat} {h : MH} {Q : MQ} {a b : Addr} {xs ys : List D} {x y z : D} {s u : Str} {c : Bool}
theorem q_add1 : rAdd (.int i) (.int j) h Q = Q (.int (i + j)) h := rfl
theorem q_add2 : rAdd (.str s) (.str u) h Q = (s.length + u.length ≤ sizeLine ∧ Q (.str (s ++ u)) h) := rfl
theorem q_add3 : rAdd (.tup xs) (.tup ys) h Q = (xs.length + ys.length ≤ sizeLine ∧ Q (.tup (xs ++ ys)) h) := rfl
theorem q_add4 : rAdd (.ref a) (.ref b) h Q = (∃ xs ys, h a = some (.lst xs) ∧ h b = some (.lst ys) ∧ xs.length + ys.length ≤ sizeLine ∧ ∀ p, h p = none → Q (.ref p) (up h p (.lst (xs ++ ys)))) := rfl
theorem q_sub : rSub (.int i) (.int j) h Q = Q (.int (i - j)) h := rfl
theorem q_mul1 : rMul (.int i) (.int j) h Q = (MulOk i j ∧ Q (.int (i * j)) h) := rfl
theorem q_mul2 : rMul (.ref a) (.int i) h Q = (∃ xs, h a = some (.lst xs) ∧ -(2 ^ 63) ≤ i ∧ i < 2 ^ 63 ∧ xs.length * i.toNat ≤ sizeLine ∧ ∀ p, h p = none → Q (.ref p) (up h p (.lst (List.replicate i.toNat xs).flatten))) := rfl
theorem q_fdiv : rFdiv (.int i) (.int j) h Q = (DivOk j ∧ Q (.int (i / j)) h) := rfl
theorem q_fdivN : rFdivN (.int i) (.int j) h Q = (DivOkN j ∧ Q (.int (i.fdiv j)) h) := rfl
theorem q_mod : rMod (.int i) (.int j) h Q = (0 < j ∧ Q (.int (i % j)) h) := rfl
theorem q_modN : rModN (.int i) (.int j) h Q = (j ≠ 0 ∧ Q (.int (i.fmod j)) h) := rfl
theorem q_pow : rPow (.int i) (.int j) h Q = (CPow i j ∧ Q (.int (i ^ j.toNat)) h) := rfl
theorem q_shl : rShl (.int i) (.int j) h Q = (CPow i j ∧ Q (.int (i * 2 ^ j.toNat)) h) := rfl
theorem q_neg : rNeg (.int i) h Q = Q (.int (-i)) h := rfl
theorem q_lt : rLtI (.int i) (.int j) h Q = Q (.bl (decide (i < j))) h := rfl
theorem q_le : rLeI (.int i) (.int j) h Q = Q (.bl (decide (i ≤ j))) h := rfl
theorem q_gt : rGtI (.int i) (.int j) h Q = Q (.bl (decide (j < i))) h := rfl
theorem q_ge : rGeI (.int i) (.int j) h Q = Q (.bl (decide (j ≤ i))) h := rfl
theorem q_eq1 : rEq (.int i) (.int j) h Q = Q (.bl (decide (i = j))) h := rfl
theorem q_eq2 {d : Bool} : rEq (.bl c) (.bl d) h Q = Q (.bl (decide (c = d))) h := rfl
theorem q_eq3 : rEq (.str s) (.str u) h Q = Q (.bl (decide (s = u))) h := rfl
theorem q_eq4 : rEq .non .non h Q = Q (.bl true) h := rfl
theorem q_eq5 : rEq .non (.int i) h Q = Q (.bl false) h := rfl
theorem q_eq6 : rEq (.int i) .non h Q = Q (.bl false) h := rfl
theorem q_eq7 : rEq (.tup xs) y h Q = rEqD (.tup xs) y h Q := by cases y <;> rfl
theorem q_eq8 : rEq (.ref a) y h Q = rEqD (.ref a) y h Q := by cases y <;> rfl
theorem q_eq9 : rEq (.rl xs) y h Q = rEqD (.rl xs) y h Q := by cases y <;> rfl
theorem q_ne1 : rNe (.int i) (.int j) h Q = Q (.bl (!decide (i = j))) h := rfl
theorem q_ne2 {d : Bool} : rNe (.bl c) (.bl d) h Q = Q (.bl (!decide (c = d))) h := rfl
theorem q_ne3 : rNe (.str s) (.str u) h Q = Q (.bl (!decide (s = u))) h := rfl
theorem q_ne4 : rNe .non .non h Q = Q (.bl false) h := rfl
theorem q_ne5 : rNe .non (.int i) h Q = Q (.bl true) h := rfl
theorem q_ne6 : rNe (.int i) .non h Q = Q (.bl true) h := rfl
theorem q_ne7 : rNe (.tup xs) y h Q = rNeD (.tup xs) y h Q := by cases y <;> rfl
theorem q_ne8 : rNe (.ref a) y h Q = rNeD (.ref a) y h Q := by cases y <;> rfl
theorem q_ne9 : rNe (.rl xs) y h Q = rNeD (.rl xs) y h Q := by cases y <;> rfl
theorem q_iadd : rIAdd (.int i) (.int j) h Q = Q (.int (i + j)) h := rfl
theorem q_ix1 : rIx (.tup xs) (.int i) h Q = (∃ d, atI xs i = some d ∧ Q d h) := rfl
theorem q_ix2 : rIx (.rl xs) (.int i) h Q = (∃ d, atI xs i = some d ∧ Q d h) := rfl
theorem q_ix3 : rIx (.ref a) (.int i) h Q = (∃ ds, h a = some (.lst ds) ∧ ∃ d, atI ds i = some d ∧ Q d h) := rfl
theorem q_ix4 : rIx (.str s) (.int i) h Q = (s.length ≤ sizeLine ∧ ∃ c, atI s.cps.toList i = some c ∧ Q (.str ⟨#[c]⟩) h) := rfl
theorem q_sl1 {lo hi : Option Int} : rSl (.tup xs) lo hi h Q = Q (.tup (cutD xs lo hi)) h := rfl
theorem q_sl2 {lo hi : Option Int} : rSl (.rl xs) lo hi h Q = ∀ p, h p = none → Q (.ref p) (up h p (.lst (cutD xs lo hi))) := rfl
theorem q_sl3 {lo hi : Option Int} : rSl (.ref a) lo hi h Q = (∃ ds, h a = some (.lst ds) ∧ ∀ p, h p = none → Q (.ref p) (up h p (.lst (cutD ds lo hi)))) := rfl
theorem q_len1 : rLen [.tup xs] h Q = Q (.int xs.length) h := rfl
theorem q_len2 : rLen [.rl xs] h Q = Q (.int xs.length) h := rfl
theorem q_len3 : rLen [.ref a] h Q = (∃ ds, h a = some (.lst ds) ∧ Q (.int ds.length) h) := rfl
theorem q_len4 : rLen [.str s] h Q = (s.length ≤ sizeLine ∧ Q (.int s.length) h) := rfl
theorem q_abs : rAbs [.int i] h Q = Q (.int (if i < 0 then -i else i)) h := rfl
theorem q_max2 : rMax2 [.int i, .int j] h Q = Q (.int (if j > i then j else i)) h := rfl
theorem q_min2 : rMin2 [.int i, .int j] h Q = Q (.int (if j < i then j else i)) h := rfl
theorem q_int1 : rInt1 [.int i] h Q = Q (.int i) h := rfl
theorem q_int2 : rInt1 [.bl c] h Q = Q (.int (if c then 1 else 0)) h := rfl
theorem q_tuple1 : rTuple [.tup xs] h Q = Q (.tup xs) h := rfl
theorem q_tuple2 : rTuple [.rl xs] h Q = Q (.tup xs) h := rfl
theorem q_tuple3 : rTuple [.ref a] h Q = (∃ ds, h a = some (.lst ds) ∧ Q (.tup ds) h) := rfl
theorem q_list1 : rList [.tup xs] h Q = ∀ p, h p = none → Q (.ref p) (up h p (.lst xs)) := rfl
theorem q_list2 : rList [.rl xs] h Q = ∀ p, h p = none → Q (.ref p) (up h p (.lst xs)) := rfl
theorem q_list3 : rList [.ref a] h Q = (∃ ds, h a = some (.lst ds) ∧ ∀ p, h p = none → Q (.ref p) (up h p (.lst ds))) := rfl
theorem q_sum : rSum [.ref a] h Q = (∃ ns : List Int, h a = some (.lst (ns.map .int)) ∧ Q (.int ns.sum) h) := rfl
theorem q_all : rAll [.ref a] h Q = (∃ ns : List Bool, h a = some (.lst (ns.map .bl)) ∧ Q (.bl (ns.all id)) h) := rfl
theorem q_any : rAny [.ref a] h Q = (∃ ns : List Bool, h a = some (.lst (ns.map .bl)) ∧ Q (.bl (ns.any id)) h) := rfl
theorem q_maxL : rMaxL [.ref a] h Q = (∃ ns : List Int, h a = some (.lst (ns.map .int)) ∧ 0 < ns.length ∧ ∀ m, m ∈ ns → (∀ y, y ∈ ns → y ≤ m) → Q (.int m) h) := rfl
theorem q_minL : rMinL [.ref a] h Q = (∃ ns : List Int, h a = some (.lst (ns.map .int)) ∧ 0 < ns.length ∧ ∀ m, m ∈ ns → (∀ y, y ∈ ns → m ≤ y) → Q (.int m) h) := rfl
theorem q_sorted : rSorted [.ref a] h Q = (∃ ns : List Int, h a = some (.lst (ns.map .int)) ∧ ∀ (ns' : List Int) p, ns'.Perm ns → ns'.Pairwise (· ≤ ·) → h p = none → Q (.ref p) (up h p (.lst (ns'.map .int)))) := rfl
theorem q_is1 : rIs false x .non h Q = Q (.bl (isN x)) h := rfl
theorem q_is2 : rIs true x .non h Q = Q (.bl (!isN x)) h := rfl
theorem q_is3 : rIs false x (.bl c) h Q = (∃ a, x = .bl a ∧ Q (.bl (decide (a = c))) h) := rfl
theorem q_is4 : rIs true x (.bl c) h Q = (∃ a, x = .bl a ∧ Q (.bl (!decide (a = c))) h) := rfl
theorem q_in1 : rIn false x (.tup ys) h Q = (flatD x = true ∧ ys.all flatD = true ∧ Q (.bl (inF x ys)) h) := rfl
theorem q_in2 : rIn false x (.rl ys) h Q = (flatD x = true ∧ ys.all flatD = true ∧ Q (.bl (inF x ys)) h) := rfl
theorem q_in3 : rIn false x (.ref a) h Q = (∃ ds, h a = some (.lst ds) ∧ flatD x = true ∧ ds.all flatD = true ∧ Q (.bl (inF x ds)) h) := rfl
theorem q_nin1 : rIn true x (.tup ys) h Q = (flatD x = true ∧ ys.all flatD = true ∧ Q (.bl (!inF x ys)) h) := rfl
theorem q_nin2 : rIn true x (.rl ys) h Q = (flatD x = true ∧ ys.all flatD = true ∧ Q (.bl (!inF x ys)) h) := rfl
theorem q_nin3 : rIn true x (.ref a) h Q = (∃ ds, h a = some (.lst ds) ∧ flatD x = true ∧ ds.all flatD = true ∧ Q (.bl (!inF x ds)) h) := rfl
theorem q_setL {q : MH → Prop} : rSetL (.ref a) (.int i) y h q = (∃ ds, h a = some (.lst ds) ∧ ∃ j, ixN ds.length i = some j ∧ q (up h a (.lst (ds.set j y)))) := rfl
theorem q_app : rAppend (.ref a) [y] h Q = (∃ ds, h a = some (.lst ds) ∧ ds.length < sizeLine ∧ Q .non (up h a (.lst (ds ++ [y])))) := rfl
theorem q_ext : rExtend (.ref a) [.ref b] h Q = (∃ ds es, h a = some (.lst ds) ∧ h b = some (.lst es) ∧ ds.length + es.length ≤ sizeLine ∧ Q .non (up h a (.lst (ds ++ es)))) := rfl
theorem q_popAt : rPopAt (.ref a) [.int i] h Q = (∃ ds, h a = some (.lst ds) ∧ 0 ≤ i ∧ i < ds.length ∧ ds.length < 2 ^ 62 ∧ ∃ y, ds[i.toNat]? = some y ∧ Q y (up h a (.lst (ds.eraseIdx i.toNat)))) := rfl
theorem q_pop : rPop (.ref a) [] h Q = (∃ ds, h a = some (.lst ds) ∧ ∃ y, ds[ds.length - 1]? = some y ∧ Q y (up h a (.lst ds.dropLast))) := rfl
theorem q_ty1 : tyD h (.int i) = "int" := rfl
theorem q_ty2 : tyD h (.bl c) = "bool" := rfl
theorem q_ty3 : tyD h .non = "NoneType" := rfl
theorem q_ty4 : tyD h (.str s) = "str" := rfl
theorem q_ty5 : tyD h (.tup xs) = "tuple" := rfl
theorem q_ty6 : tyD h (.rl xs) = "list" := rfl
theorem q_ty7 (e : h a = some (.lst xs)) : tyD h (.ref a) = "list" := by show (match h a with | some (.lst _) => "list" | some (.dK _) => "dict" | some (.dT _) => "dict" | _ => "?") = "list"; rw [e]
theorem q_tym1 : tyM "list" (.ref a) h = ∃ ds, h a = some (.lst ds) := propext ⟨fun ⟨_, b⟩ => b, fun b => ⟨rfl, b⟩⟩
theorem q_isN1 : isN .non = true := rfl
theorem q_isN2 : isN (.int i) = false := rfl
theorem q_isN3 : isN (.tup xs) = false := rfl
theorem q_isN4 : isN (.ref a) = false := rfl
theorem q_isN5 : isN (.bl c) = false := rfl
theorem q_isN6 : isN (.str s) = false := rfl
end
end M

/-! t[::-1] -/
namespace HT
open PySem PySem.Spec PyProof PyProof.Rows
section
variable {prog : Program} {w : World} {A : Around} {E : Value → Shared → Prop} {s : Shared}
theorem places_rev (n : Nat) : Builtin.Slice.slicePlaces ((n : Int) - 1) (-1) (-1) = n := by
  unfold Builtin.Slice.slicePlaces
  have h1 : ¬ ((-1 : Int) > 0) := by omega
  simp only [h1, if_false]
  by_cases h : (n : Int) - 1 > -1
  · rw [if_pos h, show (- -1 : Int) = 1 by decide, Int.ediv_one]; omega
  · rw [if_neg h]; omega
theorem sliceApplied_rev {sl : Addr} {vs : Value} {n : Nat} {Q : Int × Int × Nat → Shared → Prop} (hs : s.heap.IsSliceOf sl .none .none vs) (ps : IsPart vs (some (-1)))
    (h : Q ((n : Int) - 1, -1, n) s) : wpAny (model prog w) A (Builtin.Slice.sliceApplied (.ref sl) (pure (n : Int))) Q E s := by
  obtain ⟨os, hos, hcs, hds⟩ := id hs
  unfold Builtin.Slice.sliceApplied Builtin.Slice.sliceFields
  refine wpAny_bind (wpAny_bind (wpAny_field hos hds (x := .none) rfl (wpAny_bind (wpAny_field hos hds (x := .none) rfl (wpAny_bind (wpAny_field hos hds (x := vs) rfl (wpAny_pure ?_)))))))
  refine wpAny_bind (slicePart_ ps ?_)
  show wpAny _ _ (if ((-1 : Int) == 0) = true then _ else _) _ _ s
  rw [if_neg (by decide)]
  refine wpAny_bind (slicePart_ .none (wpAny_bind (slicePart_ .none (wpAny_bind (wpAny_pure ?_)))))
  show wpAny _ _ (pure (((n : Int) - 1), (-1 : Int), Builtin.Slice.slicePlaces ((n : Int) - 1) (-1) (-1))) _ _ s
  rw [places_rev]
  exact wpAny_pure h
theorem fm_congr {α β : Type} {f g : α → Option β} : ∀ {l : List α}, (∀ x ∈ l, f x = g x) → l.filterMap f = l.filterMap g
  | [], _ => rfl
  | x :: l, h => by rw [List.filterMap_cons, List.filterMap_cons, h x (List.mem_cons_self ..), fm_congr fun y hy => h y (List.mem_cons_of_mem _ hy)]
theorem pick_rev (xs : Array Value) : ((List.range xs.size).filterMap fun (m : Nat) => xs[(((xs.size : Int) - 1) + (m : Int) * (-1)).toNat]?).toArray = xs.toList.reverse.toArray := by
  have e : (List.range xs.size).filterMap (fun (m : Nat) => xs[(((xs.size : Int) - 1) + (m : Int) * (-1)).toNat]?) = (List.range xs.size).filterMap ((fun k => xs[k]?) ∘ fun k => xs.size - 1 - k) := by
    refine fm_congr fun m hm => ?_
    have := List.mem_range.mp hm
    show xs[_]? = xs[xs.size - 1 - m]?
    rw [show (((xs.size : Int) - 1) + (m : Int) * (-1)).toNat = xs.size - 1 - m from by omega]
  rw [e, ← List.filterMap_map, PySem.W.krv_range, List.filterMap_reverse, PySem.W.krv_all]
theorem getItem_tuple_rev {t sl : Addr} {items : Array Value} {vs : Value} {Q : Value → Shared → Prop} (ht : IsTup s.heap t items) (hs : s.heap.IsSliceOf sl .none .none vs) (ps : IsPart vs (some (-1)))
    (h : Q (.ref s.heap.objs.size) { s with heap := s.heap.push { cls := .type "tuple", data := .seq items.toList.reverse.toArray } })
    (hsz : items.size ≤ sizeLine) : wpAny (model prog w) A (getItem (.ref t) (.ref sl)) Q E s := by
  have htake : sizeOk (.seq items.toList.reverse.toArray) := by
    show items.toList.reverse.toArray.size ≤ sizeLine
    rw [List.size_toArray, List.length_reverse, Array.length_toList]
    omega
  obtain ⟨os, hos, hcs, hds⟩ := id hs
  have hTs : s.TypeIs (.ref sl) "slice" := ⟨os, hos, hcs⟩
  unfold getItem
  try with_reducible refine wpAny_holding ?_
  first | refine wpAny_bind (wpAny_pure ?_) | skip
  refine wpAny_bind (wpAny_sequenceKey ht.typeIs (by decide) ?_)
  refine wpAny_bind (wpAny_callSpecial?_slot (name := Str.ofString "__getitem__") ht.typeIs PyProof.Rows.slot_tuple_getitem
    (wpAny_call_entry PyProof.Rows.slot_tuple_getitem ht.typeIs entry_tuple_getitem ?_ (args_tuple_getitem _ _)))
  show wpAny _ _ (Builtin.Tuple.tupleItemsOf (.ref t) >>= _) _ _ s
  refine wpAny_bind (tupleItemsOf_ ht ?_)
  refine wpAny_bind (wpAny_typeOf hTs ?_)
  rw [if_pos (by decide)]
  refine wpAny_bind (sliceApplied_rev hs ps ?_)
  have hno : ¬ ((((items.size : Int) - 1) == 0 && (-1 : Int) == 1 && items.size == items.size) = true) := by
    intro q
    rw [Bool.and_eq_true, Bool.and_eq_true] at q
    exact absurd (eq_of_beq q.1.2) (by decide)
  show wpAny _ _ (if (((items.size : Int) - 1) == 0 && (-1 : Int) == 1 && items.size == items.size) = true then _ else _) _ _ s
  rw [if_neg hno, pick_rev]
  first
    | exact wpAny_bind (m := Builtin.Tuple.tupleExact _) (wpAny_newObj_type (wpAny_pure ⟨_, rfl, wpAny_pure h⟩) htake)
    | exact wpAny_bind (m := Builtin.Tuple.tupleExact _) (wpAny_newObj_type (wpAny_bind (wpAny_pure (wpAny_pure ⟨_, rfl, wpAny_pure h⟩))) htake)
    | exact wpAny_bind (wpAny_bind (m := Builtin.Tuple.tupleExact _) (wpAny_newObj_type (wpAny_pure (wpAny_pure ⟨_, rfl, wpAny_pure h⟩)) htake))
    | exact wpAny_bind (wpAny_bind (m := Builtin.Tuple.tupleExact _) (wpAny_newObj_type (wpAny_pure ⟨_, rfl, wpAny_pure h⟩) htake))
end
end HT

namespace L2
open PySem PySem.Spec PyProof PyProof.Rows
/-- xs[::e], e being 1 or -1: a list, or with -1 a tuple -/
def rStepL (K : PySem.W.Frag) (x : V) (o : Option Int) (H2 : Hp) (Q : VK) : Prop :=
  (∃ a xs, x = .ref a ∧ SqL K H2 a xs ∧ ((o = some (-1) ∧ ∀ p, H2 p = none → Q (.ref p) (upd H2 p (.lst xs.reverse))) ∨ (o = some 1 ∧ ∀ p, H2 p = none → Q (.ref p) (upd H2 p (.lst xs))))) ∨
  (∃ a xs, x = .ref a ∧ SqT K H2 a xs ∧ o = some (-1) ∧ ∀ p, H2 p = none → Q (.ref p) (upd H2 p (.tup xs.reverse)))
def tStep (K : PySem.W.Frag) (te ts : TE) : TE := fun σ H Q => te σ H fun x H1 => tPart ts σ H1 fun o H2 => rStepL K x o H2 Q
theorem pick_one (items : Array Value) : slicePick items none none (some 1) = items := by
  have e : slicePick items none none (some 1) = ((List.range items.size).filterMap (items[·]?)).toArray := by
    unfold slicePick
    have hb : sliceBounds none none (some 1) items.size = (0, (items.size : Int), 1) := by first | rfl | simp [sliceBounds]
    rw [hb]
    have hr : sliceRange 0 (items.size : Int) 1 = List.range items.size := by
      unfold sliceRange
      have h1 : ((1 : Int) > 0) := by decide
      simp only [h1, if_true]
      have e : (if (0 : Int) < items.size then ((items.size : Int) - 0 + 1 - 1) / 1 else 0).toNat = items.size := by
        split
        · rw [Int.ediv_one]; omega
        · omega
      simp [e]
      congr 1
      split <;> omega
    rw [hr]
  rw [e, PySem.W.krv_all]
theorem pe_step {X : Cx} {e se : Expr} {te ts : TE} {p3 pos : Pos} (he : PE X e te) (hse : PE X se ts) : PE X (.Subscript e (.Slice none none (some se) p3) pos) (tStep X.K te ts) := by
  refine ⟨fun pins s σ H Q I h => ?_⟩
  refine Subscript_ (thn (he.run pins s σ H _ I h) fun v s1 ⟨x, H1, I1, r1, q1⟩ => ?_)
  have hst : PO X (some se) (tPart ts) := po_some hse
  refine wpAny_Slice (thn (po_none.run pins s1 σ H1 (fun o H2 => o = none ∧ H2 = H1) I1 ⟨rfl, rfl⟩) fun vl s2 ⟨l, H2, I2, pl, el, e2⟩ => ?_)
  subst el e2
  refine thn (po_none.run pins s2 σ H2 (fun o H3 => o = none ∧ H3 = H2) I2 ⟨rfl, rfl⟩) fun vu s3 ⟨u, H3, I3, pu, eu, e3⟩ => ?_
  subst eu e3
  refine thn (hst.run pins s3 σ H3 _ I3 q1) fun vs s4 ⟨o, H4, I4, ps, hq⟩ => ?_
  have I5 : Inv X pins σ H4 { s4 with heap := s4.heap.push { cls := .type "slice", data := .fields #[vl, vu, vs] } } := I4.kept (t' := s4.toks) fun b ob q => Heap.get?_push_of_some _ q
  rcases hq with ⟨a, xs, rfl, hx, hq⟩ | ⟨a, xs, rfl, hx, rfl, q⟩
  · cases r1
    obtain ⟨its, r, ht, hz⟩ := I5.list hx
    have hlen := r.length
    refine tail_any (ops := [.ref a, .ref s4.heap.objs.size]) ht.isList.typeIs (PySem.slot_list_getitem.lookup) ?_ (by with_unfolding_all rfl)
    rcases hq with ⟨rfl, q⟩ | ⟨rfl, q⟩
    · refine wpAny_getItem_list_slice ht.isList (Heap.IsSliceOf.new _ vl vu vs) pl pu ps (by decide) ?_ (by rw [List.size_toArray]; omega)
      rw [PySem.W.krv_pick]
      refine ⟨.ref _, _, I5.laid (t' := s4.toks) (o := .lst xs.reverse) (fun b ob q => Heap.get?_push_of_some _ q) (Nat.le_refl _) ?_, rfl, q _ (I5.hok.fresh (Nat.le_refl _))⟩
      exact ⟨by rw [List.length_reverse]; exact hz, _, 0, r.reverse, Heap.get?_push_size _ rfl⟩
    · refine wpAny_getItem_list_slice ht.isList (Heap.IsSliceOf.new _ vl vu vs) pl pu ps (by decide) ?_ (by rw [List.size_toArray]; omega)
      rw [pick_one]
      refine ⟨.ref _, _, I5.laid (t' := s4.toks) (o := .lst xs) (fun b ob q => Heap.get?_push_of_some _ q) (Nat.le_refl _) ?_, rfl, q _ (I5.hok.fresh (Nat.le_refl _))⟩
      exact ⟨hz, _, 0, r, Heap.get?_push_size _ rfl⟩
  · cases r1
    obtain ⟨its, r, ht, hz⟩ := I5.tuple hx
    have hlen := r.length
    refine tail_any (ops := [.ref a, .ref s4.heap.objs.size]) ht.typeIs PyProof.Rows.slot_tuple_getitem.lookup ?_ (by with_unfolding_all rfl)
    cases pl
    cases pu
    refine HT.getItem_tuple_rev ht (Heap.IsSliceOf.new _ _ _ vs) ps ?_ (by rw [List.size_toArray]; omega)
    refine ⟨.ref _, _, I5.laid (t' := s4.toks) (o := .tup xs.reverse) (fun b ob q => Heap.get?_push_of_some _ q) (Nat.le_refl _) ?_, rfl, q _ (I5.hok.fresh (Nat.le_refl _))⟩
    exact ⟨by rw [List.length_reverse]; exact hz, _, r.reverse, IsTup.new _ _⟩
end L2
namespace M
open PySem L2
def rStep : MR2 := fun x y h2 Q => match x, y with
  | .rl ds, .int i => (i = -1 ∨ i = 1) ∧ ∀ p, h2 p = none → Q (.ref p) (up h2 p (.lst (if i = -1 then ds.reverse else ds)))
  | .ref a, .int i => (i = -1 ∨ i = 1) ∧ ∃ ds, h2 a = some (.lst ds) ∧ ∀ p, h2 p = none → Q (.ref p) (up h2 p (.lst (if i = -1 then ds.reverse else ds)))
  | .tup ds, .int i => i = -1 ∧ Q (.tup ds.reverse) h2
  | _, _ => False
theorem q_step1 {xs : List D} {h : MH} {Q : MQ} : rStep (.tup xs) (.int (-1)) h Q = Q (.tup xs.reverse) h := propext ⟨fun q => q.2, fun q => ⟨rfl, q⟩⟩
theorem q_step2 {a : Addr} {h : MH} {Q : MQ} : rStep (.ref a) (.int (-1)) h Q = (∃ ds, h a = some (.lst ds) ∧ ∀ p, h p = none → Q (.ref p) (up h p (.lst ds.reverse))) := propext ⟨fun q => q.2, fun q => ⟨.inl rfl, q⟩⟩
section
variable {X : Cx} {Hb : Hp} {e se : Expr} {me ms : MTE} {pos p3 : Pos}
theorem ie_step (he : IE X Hb e me) (hs : IE X Hb se ms) : IE X Hb (.Subscript e (.Slice none none (some se) p3) pos) (mOp rStep me ms) := by
  refine pe_w (pe_step he hs) fun σ H Q ⟨env, h, Q0, re, rh, m, f⟩ => ?_
  refine ⟨env, h, _, re, rh, m, fun x h1 q1 vx H1 t1 r1 rx => ?_⟩
  refine ⟨env, h1, _, re.mono t1, r1, q1, fun y h2 q vy H2 t2 r2 ry => ?_⟩
  have f1 := Fin.mono (t1.trans t2) f
  have rx2 := rx.mono t2
  cases x <;> cases y <;> first | exact q.elim | skip
  · obtain ⟨rfl, q⟩ := q
    obtain ⟨a, vs, rfl, ta, rs⟩ := rx2.tup
    rw [ry.int]
    exact ⟨_, rfl, .inr ⟨a, vs, rfl, ta, rfl, fun p np => f1 _ _ q _ _ (.new np) (r2.skip np) (rv_tup (.of upd_same) (rs.reverse.mono (.new np)))⟩⟩
  · obtain ⟨hi, q⟩ := q
    obtain ⟨a, vs, rfl, ta, rs⟩ := rx2.rl
    rw [ry.int]
    refine ⟨_, rfl, .inl ⟨a, vs, rfl, ta.l, ?_⟩⟩
    rcases hi with rfl | rfl
    · exact .inl ⟨rfl, fun p np => f1 _ _ (q p (r2.free np)) _ _ (.new np) (r2.new np (ro_lst rs.reverse)) rv_ref⟩
    · exact .inr ⟨rfl, fun p np => f1 _ _ (q p (r2.free np)) _ _ (.new np) (r2.new np (ro_lst rs)) rv_ref⟩
  · obtain ⟨hi, ds, e, q⟩ := q
    rw [rx2.ref, ry.int]
    obtain ⟨vs, E, rs⟩ := r2.lst e
    refine ⟨_, rfl, .inl ⟨_, vs, rfl, .of E, ?_⟩⟩
    rcases hi with rfl | rfl
    · exact .inl ⟨rfl, fun p np => f1 _ _ (q p (r2.free np)) _ _ (.new np) (r2.new np (ro_lst rs.reverse)) rv_ref⟩
    · exact .inr ⟨rfl, fun p np => f1 _ _ (q p (r2.free np)) _ _ (.new np) (r2.new np (ro_lst rs)) rv_ref⟩
end
end M

namespace M
open PySem L2
/-! ### lists and tuples of ints compared -/
theorem dps_ints {h : MH} : ∀ xs : List Int, DPs h (xs.map .int) (xs.map PyData.int)
  | [] => .nil
  | x :: xs => .cons (.int x) (dps_ints xs)
theorem canLay_ints : ∀ xs : List Int, PyData.canLayAll0 (xs.map PyData.int) = true
  | [] => rfl
  | x :: xs => by
    rw [List.map_cons, PyData.canLayAll0, canLay_ints xs]
    rfl
theorem depth_ints : ∀ xs : List Int, PyData.depthAll (xs.map PyData.int) = 0
  | [] => rfl
  | x :: xs => by
    rw [List.map_cons, PyData.depthAll, depth_ints xs]
    rfl
theorem shaped_list (xs : List Int) : SeqAt.shaped (.list (xs.map PyData.int)) = true := by
  unfold SeqAt.shaped
  rw [Bool.and_eq_true, decide_eq_true_eq]
  refine ⟨by rw [PyData.canLay0]; exact canLay_ints xs, ?_⟩
  rw [PyData.depth, depth_ints]; decide
theorem shaped_tup (xs : List Int) : SeqAt.shaped (.tuple (xs.map PyData.int)) = true := by
  unfold SeqAt.shaped
  rw [Bool.and_eq_true, decide_eq_true_eq]
  refine ⟨by rw [PyData.canLay0]; exact canLay_ints xs, ?_⟩
  rw [PyData.depth, depth_ints]; decide
theorem eqvAll_ints : ∀ xs ys : List Int, PyData.eqvAll (xs.map PyData.int) (ys.map PyData.int) = decide (xs = ys)
  | [], [] => by simp [PyData.eqvAll]
  | [], _ :: _ => by simp [PyData.eqvAll]
  | _ :: _, [] => by simp [PyData.eqvAll]
  | x :: xs, y :: ys => by
    rw [List.map_cons, List.map_cons, PyData.eqvAll, eqvAll_ints xs ys, PyData.eqv, show (x == y) = decide (x = y) from rfl, ← Bool.decide_and]
    exact decide_eq_decide.mpr (by rw [List.cons.injEq])
theorem eqv_list (xs ys : List Int) : PyData.eqv (.list (xs.map PyData.int)) (.list (ys.map PyData.int)) = decide (xs = ys) := by rw [PyData.eqv, eqvAll_ints]
theorem eqv_tup (xs ys : List Int) : PyData.eqv (.tuple (xs.map PyData.int)) (.tuple (ys.map PyData.int)) = decide (xs = ys) := by rw [PyData.eqv, eqvAll_ints]
section
variable {h : MH} {Q : MQ} {a b : Addr} {xs ys : List Int}
theorem eqD_tt (q : Q (.bl (decide (xs = ys))) h) : rEqD (.tup (xs.map .int)) (.tup (ys.map .int)) h Q := ⟨_, _, .tup (dps_ints xs), .tup (dps_ints ys), shaped_tup xs, shaped_tup ys, by rw [eqv_tup]; exact q⟩
theorem neD_tt (q : Q (.bl (!decide (xs = ys))) h) : rNeD (.tup (xs.map .int)) (.tup (ys.map .int)) h Q := ⟨_, _, .tup (dps_ints xs), .tup (dps_ints ys), shaped_tup xs, shaped_tup ys, by rw [eqv_tup]; exact q⟩
theorem eqD_ll (ea : h a = some (.lst (xs.map .int))) (eb : h b = some (.lst (ys.map .int))) (q : Q (.bl (decide (xs = ys))) h) : rEqD (.ref a) (.ref b) h Q := ⟨_, _, .lst ea (dps_ints xs), .lst eb (dps_ints ys), shaped_list xs, shaped_list ys, by rw [eqv_list]; exact q⟩
theorem neD_ll (ea : h a = some (.lst (xs.map .int))) (eb : h b = some (.lst (ys.map .int))) (q : Q (.bl (!decide (xs = ys))) h) : rNeD (.ref a) (.ref b) h Q := ⟨_, _, .lst ea (dps_ints xs), .lst eb (dps_ints ys), shaped_list xs, shaped_list ys, by rw [eqv_list]; exact q⟩
end
/-! ### as many unlike ones among fewer -/
theorem nodup_le {α : Type} [DecidableEq α] : ∀ {xs ys : List α}, xs.Nodup → (∀ x ∈ xs, x ∈ ys) → xs.length ≤ ys.length
  | [], _, _, _ => Nat.zero_le _
  | x :: xs, ys, hn, hs => by
    have hx := hs x (List.mem_cons_self ..)
    have h2 := nodup_le (ys := ys.erase x) (List.nodup_cons.mp hn).2 fun y hy => (List.mem_erase_of_ne (fun e : y = x => (List.nodup_cons.mp hn).1 (by rw [← e]; exact hy))).mpr (hs y (List.mem_cons_of_mem _ hy))
    rw [List.length_erase_of_mem hx] at h2
    have := List.length_pos_of_mem hx
    rw [List.length_cons]; omega
/-- from c on, one of the first length + 1 steps round m comes to what is not there -/
theorem free_step {ys : List Int} {m c : Int} (hm : (ys.length : Int) < m) : ∃ j : Nat, j ≤ ys.length ∧ (c + j) % m ∉ ys := by
  apply Classical.byContradiction
  intro hno
  have h1 : ∀ j : Nat, j ≤ ys.length → (c + j) % m ∈ ys := fun j hj => Classical.byContradiction fun h => hno ⟨j, hj, h⟩
  have h2 : ((List.range (ys.length + 1)).map fun j : Nat => (c + j) % m).Nodup := by
    rw [List.nodup_iff_pairwise_ne, List.pairwise_map]
    refine List.Pairwise.imp_of_mem ?_ (List.nodup_range (n := ys.length + 1))
    intro a b ha hb hne e
    have ha := List.mem_range.mp ha
    have hb := List.mem_range.mp hb
    have e2 : ((c + a) - (c + b)) % m = 0 := Int.emod_eq_emod_iff_emod_sub_eq_zero.mp e
    have e3 : m ∣ ((a : Int) - b) := by
      have := Int.dvd_of_emod_eq_zero e2
      rwa [show (c + (a : Int)) - (c + b) = (a : Int) - b from by omega] at this
    obtain ⟨q, hq⟩ := e3
    have : q = 0 := by
      apply Classical.byContradiction
      intro hq0
      have : m ≤ (m * q).natAbs := by
        rw [Int.natAbs_mul]
        have h3 : 1 ≤ q.natAbs := by omega
        have h4 : m.natAbs * 1 ≤ m.natAbs * q.natAbs := Nat.mul_le_mul_left _ h3
        omega
      omega
    subst this
    rw [Int.mul_zero] at hq
    exact hne (by omega)
  have h3 := nodup_le h2 (ys := ys) fun x hx => by
    obtain ⟨j, hj, rfl⟩ := List.mem_map.mp hx
    exact h1 j (by have := List.mem_range.mp hj; omega)
  rw [List.length_map, List.length_range] at h3
  omega
end M

/-! max, min of a tuple of ints -/
namespace L2
open PySem PySem.Spec PyProof PyProof.Rows
section
variable {prog : Program} {w : World} {A : Around} {E : Value → Shared → Prop} {s : Shared} {l : Addr} {its : List Value} {ns : List Int} {Q : Value → Shared → Prop}
theorem iter_intTup {xs : Array (Int × Tok)} {Q : Value → Shared → Prop} (hl : s.heap.IsTuple l (intItems xs))
    (h : ∀ s₂ : Shared, s₂ = { s with heap := s.heap.push { cls := .type "tuple_iterator", data := .fields #[.ref l, .int 0 0] } } →
      (s₂.heap.IsTupleIter s.heap.objs.size l 0 ∧ s₂.heap.IsTuple l (intItems xs)) → (∀ b ∈ [s.heap.objs.size, l], b < s₂.heap.objs.size) → l ≠ s.heap.objs.size → Q (.ref s.heap.objs.size) s₂) :
    wpAny (model prog w) A (pyIter (.ref l)) Q E s := by
  have hlt : l < s.heap.objs.size := by obtain ⟨_, e, _⟩ := hl; exact Heap.lt_size e
  refine wpAny_pyIter_tuple hl (h _ rfl ⟨⟨_, Heap.get?_push_size _ rfl, rfl, rfl⟩, ?_⟩ (fun b hb => ?_) (Nat.ne_of_lt hlt))
  · obtain ⟨o, e, r⟩ := hl
    exact ⟨o, Heap.get?_push_of_some _ e, r⟩
  · show b < (s.heap.push _).objs.size
    rw [Heap.size_push]
    simp only [List.mem_cons, List.not_mem_nil, or_false] at hb
    rcases hb with e | e
    · rw [e]; exact Nat.lt_succ_self _
    · rw [e]; exact Nat.lt_succ_of_lt hlt
theorem maxT_raw (hh : A.handled = none) (hl : s.heap.IsTuple l its.toArray) (hi : IntsAre its ns) (hne : 0 < ns.length)
    (h : ∀ h' tk M t', (∀ b o, s.heap.get? b = some o → h'.get? b = some o) → M ∈ ns → (∀ a, a ∈ ns → a ≤ M) → Q (.int M t') { s with heap := h', toks := tk }) : wpAny (model prog w) A (call (.builtin "max") [.ref l]) Q E s := by
  obtain ⟨xs, e⟩ := hi.allInts.items
  have hn : numsOf (intItems xs).toList = ns := by rw [← e]; exact hi.numsOf
  rw [nums_intItems] at hn
  subst hn
  rw [e] at hl
  have hsz : 0 < xs.size := by simpa using hne
  refine call_max_walk (iter_intTup hl fun s₂ e st hfp hlI => ?_)
  subst e
  refine ⟨_, _, _, _, _, _, _, rfl, Walks.tuple (A := A.in1) hh _ l hlI (intItems xs), st, hfp, by simpa [intItems] using hsz, CmpOf.ints_gt (numAt xs) (fun _ _ => intItems_at), fun v h' tk hP hk => ?_⟩
  have hv : (intItems xs)[argBest (fun i j => decide (numAt xs i > numAt xs j)) (xs.size - 1)]? = some v := by simpa [intItems] using hP
  obtain ⟨t, rfl⟩ := intItems_at hv
  obtain ⟨h1, h2⟩ := argBest_gt (numAt xs) (xs.size - 1)
  refine h h' tk _ t (fun b o e => hk b o (fun z => Nat.lt_irrefl _ (by have := Heap.lt_size e; rw [List.mem_singleton.mp z] at this; exact this)) (Heap.get?_push_of_some _ e)) ?_ fun a ha => ?_
  · rw [numAt_eq]; exact PySem.getD_mem (by rw [List.length_map, Array.length_toList]; omega)
  · obtain ⟨j, hj, rfl⟩ := mem_getD ha
    rw [List.length_map, Array.length_toList] at hj
    rw [← numAt_eq]; exact h2 j (by omega)
theorem minT_raw (hh : A.handled = none) (hl : s.heap.IsTuple l its.toArray) (hi : IntsAre its ns) (hne : 0 < ns.length)
    (h : ∀ h' tk M t', (∀ b o, s.heap.get? b = some o → h'.get? b = some o) → M ∈ ns → (∀ a, a ∈ ns → M ≤ a) → Q (.int M t') { s with heap := h', toks := tk }) : wpAny (model prog w) A (call (.builtin "min") [.ref l]) Q E s := by
  obtain ⟨xs, e⟩ := hi.allInts.items
  have hn : numsOf (intItems xs).toList = ns := by rw [← e]; exact hi.numsOf
  rw [nums_intItems] at hn
  subst hn
  rw [e] at hl
  have hsz : 0 < xs.size := by simpa using hne
  refine call_min_walk (iter_intTup hl fun s₂ e st hfp hlI => ?_)
  subst e
  refine ⟨_, _, _, _, _, _, _, rfl, Walks.tuple (A := A.in1) hh _ l hlI (intItems xs), st, hfp, by simpa [intItems] using hsz, CmpOf.ints_lt (numAt xs) (fun _ _ => intItems_at), fun v h' tk hP hk => ?_⟩
  have hv : (intItems xs)[argBest (fun i j => decide (numAt xs i < numAt xs j)) (xs.size - 1)]? = some v := by simpa [intItems] using hP
  obtain ⟨t, rfl⟩ := intItems_at hv
  obtain ⟨h1, h2⟩ := argBest_lt (numAt xs) (xs.size - 1)
  refine h h' tk _ t (fun b o e => hk b o (fun z => Nat.lt_irrefl _ (by have := Heap.lt_size e; rw [List.mem_singleton.mp z] at this; exact this)) (Heap.get?_push_of_some _ e)) ?_ fun a ha => ?_
  · rw [numAt_eq]; exact PySem.getD_mem (by rw [List.length_map, Array.length_toList]; omega)
  · obtain ⟨j, hj, rfl⟩ := mem_getD ha
    rw [List.length_map, Array.length_toList] at hj
    rw [← numAt_eq]; exact h2 j (by omega)
end
section
variable {X : Cx}
def rMaxT (K : PySem.W.Frag) : List V → Hp → VK → Prop := fun vs H Q => ∃ (a : Addr) (ns : List Int), vs = [V.ref a] ∧ SqT K H a (ns.map V.int) ∧ 0 < ns.length ∧ ∀ m, m ∈ ns → (∀ y, y ∈ ns → y ≤ m) → Q (.int m) H
def rMinT (K : PySem.W.Frag) : List V → Hp → VK → Prop := fun vs H Q => ∃ (a : Addr) (ns : List Int), vs = [V.ref a] ∧ SqT K H a (ns.map V.int) ∧ 0 < ns.length ∧ ∀ m, m ∈ ns → (∀ y, y ∈ ns → m ≤ y) → Q (.int m) H
theorem cr_maxT (hc : X.calm = true) : CallR X (.builtin "max") (rMaxT X.K) := by
  intro pins s σ H vs us Q I r h
  obtain ⟨a, ns, rfl, hs, hne, q⟩ := h
  obtain ⟨its, rv, hl, _⟩ := I.tuple hs
  rw [Vals.ref1 r]
  exact maxT_raw (I.ok.hd hc) (show s.heap.IsTuple a its.toArray from hl) rv.ints hne fun h' tk m t' hk h1 h2 => ⟨.int _, H, I.kept hk, ⟨_, rfl⟩, q m h1 h2⟩
theorem cr_minT (hc : X.calm = true) : CallR X (.builtin "min") (rMinT X.K) := by
  intro pins s σ H vs us Q I r h
  obtain ⟨a, ns, rfl, hs, hne, q⟩ := h
  obtain ⟨its, rv, hl, _⟩ := I.tuple hs
  rw [Vals.ref1 r]
  exact minT_raw (I.ok.hd hc) (show s.heap.IsTuple a its.toArray from hl) rv.ints hne fun h' tk m t' hk h1 h2 => ⟨.int _, H, I.kept hk, ⟨_, rfl⟩, q m h1 h2⟩
end
end L2
namespace M
open PySem L2
/-- max(xs), min(xs) of ints: a list or a tuple -/
def rMaxA : MRA := fun xs h Q => match xs with
  | [.ref a] => ∃ ns : List Int, h a = some (.lst (ns.map .int)) ∧ 0 < ns.length ∧ ∀ m, m ∈ ns → (∀ y, y ∈ ns → y ≤ m) → Q (.int m) h
  | [.tup ds] => ∃ ns : List Int, ds = ns.map .int ∧ 0 < ns.length ∧ ∀ m, m ∈ ns → (∀ y, y ∈ ns → y ≤ m) → Q (.int m) h
  | _ => False
def rMinA : MRA := fun xs h Q => match xs with
  | [.ref a] => ∃ ns : List Int, h a = some (.lst (ns.map .int)) ∧ 0 < ns.length ∧ ∀ m, m ∈ ns → (∀ y, y ∈ ns → m ≤ y) → Q (.int m) h
  | [.tup ds] => ∃ ns : List Int, ds = ns.map .int ∧ 0 < ns.length ∧ ∀ m, m ∈ ns → (∀ y, y ∈ ns → m ≤ y) → Q (.int m) h
  | _ => False
section
variable {X : Cx}
theorem cm_maxA (hc : X.calm = true) : CaM X (.builtin "max") rMaxA := by
  refine ⟨_, (cr_max hc).or (cr_maxT hc), fun xs h Q0 vs H Q q rh rs f => ?_⟩
  unfold rMaxA at q
  split at q
  · obtain ⟨v, rfl, rx⟩ := rs.one
    rw [rx.ref]
    obtain ⟨ns, e, l, q⟩ := q
    obtain ⟨vs, E, rs⟩ := rh.lst e
    rw [rs.ints] at E
    exact .inl ⟨_, ns, rfl, .of E, l, fun m h1 h2 => fin_at f (q m h1 h2) rh rv_int⟩
  · obtain ⟨v, rfl, rx⟩ := rs.one
    obtain ⟨ns, rfl, l, q⟩ := q
    obtain ⟨a, vs, rfl, ta, rs⟩ := rx.tup
    rw [rs.ints] at ta
    exact .inr ⟨a, ns, rfl, ta, l, fun m h1 h2 => fin_at f (q m h1 h2) rh rv_int⟩
  · exact q.elim
theorem cm_minA (hc : X.calm = true) : CaM X (.builtin "min") rMinA := by
  refine ⟨_, (cr_min hc).or (cr_minT hc), fun xs h Q0 vs H Q q rh rs f => ?_⟩
  unfold rMinA at q
  split at q
  · obtain ⟨v, rfl, rx⟩ := rs.one
    rw [rx.ref]
    obtain ⟨ns, e, l, q⟩ := q
    obtain ⟨vs, E, rs⟩ := rh.lst e
    rw [rs.ints] at E
    exact .inl ⟨_, ns, rfl, .of E, l, fun m h1 h2 => fin_at f (q m h1 h2) rh rv_int⟩
  · obtain ⟨v, rfl, rx⟩ := rs.one
    obtain ⟨ns, rfl, l, q⟩ := q
    obtain ⟨a, vs, rfl, ta, rs⟩ := rx.tup
    rw [rs.ints] at ta
    exact .inr ⟨a, ns, rfl, ta, l, fun m h1 h2 => fin_at f (q m h1 h2) rh rv_int⟩
  · exact q.elim
section
variable {i j : Int} {h : MH} {Q : MQ} {a : Addr} {xs : List D}
theorem q_maxA1 : rMaxA [.ref a] h Q = (∃ ns : List Int, h a = some (.lst (ns.map .int)) ∧ 0 < ns.length ∧ ∀ m, m ∈ ns → (∀ y, y ∈ ns → y ≤ m) → Q (.int m) h) := rfl
theorem q_maxA2 : rMaxA [.tup xs] h Q = (∃ ns : List Int, xs = ns.map .int ∧ 0 < ns.length ∧ ∀ m, m ∈ ns → (∀ y, y ∈ ns → y ≤ m) → Q (.int m) h) := rfl
theorem q_minA1 : rMinA [.ref a] h Q = (∃ ns : List Int, h a = some (.lst (ns.map .int)) ∧ 0 < ns.length ∧ ∀ m, m ∈ ns → (∀ y, y ∈ ns → m ≤ y) → Q (.int m) h) := rfl
theorem q_minA2 : rMinA [.tup xs] h Q = (∃ ns : List Int, xs = ns.map .int ∧ 0 < ns.length ∧ ∀ m, m ∈ ns → (∀ y, y ∈ ns → m ≤ y) → Q (.int m) h) := rfl
end
end
end M

namespace M
open PySem L2
/-! ### dicts made -/
def mDisp0 : MTE := fun _ h Q => ∀ p, h p = none → Q (.ref p) (up h p (.dK []))
def mDisp1 (k : Key) (d : D) : MTE := fun _ h Q => ∀ p, h p = none → Q (.ref p) (up h p (.dK [(k, d)]))
section
variable {X : Cx} {Hb : Hp} {pos : Pos}
theorem ie_disp0 : IE X Hb (.Dict [] [] pos) mDisp0 := by
  refine pe_w pe_dnewK fun σ H Q ⟨env, h, Q0, re, rh, m, f⟩ => fun p np => ?_
  exact f _ _ (m p (rh.free np)) _ _ (.new np) (rh.new np ⟨[], rfl, rfl, .nil⟩) rv_ref
theorem ie_disp1 {i : Int} {j : Nat} {kp : Pos} {v : Expr} {t : V} {d : D} (hv : PE X v (tC t)) (r : ∀ H, RV X.K H d t) : IE X Hb (.Dict [some (.Constant (.int i) j kp)] [v] pos) (mDisp1 (.inl i) d) := by
  refine pe_w (pe_disp (pps_cons pe_int hv pps_nil) rfl rfl (by simp) (by simp)) fun σ H Q ⟨env, h, Q0, re, rh, m, f⟩ => fun p np => ?_
  refine ⟨upd_same, [(.inl i, t)], rfl, Nat.le_of_ble_eq_true rfl, ?_⟩
  have e : upd (upd H p (.dK [])) p (.dK (mergeK [] [(Sum.inl i, t)])) = upd H p (.dK [(Sum.inl i, t)]) := by
    funext b
    unfold upd
    split <;> rfl
  rw [e]
  exact f _ _ (m p (rh.free np)) _ _ (.new np) (rh.new np ⟨[(.inl i, t)], rfl, rfl, .cons (r H) .nil⟩) rv_ref
theorem ie_disp1b {i : Int} {j j2 : Nat} {kp vp : Pos} {b : Bool} : IE X Hb (.Dict [some (.Constant (.int i) j kp)] [.Constant (.bool b) j2 vp] pos) (mDisp1 (.inl i) (.bl b)) := ie_disp1 pe_bl fun _ => rv_bl
theorem ie_disp1i {i v : Int} {j j2 : Nat} {kp vp : Pos} : IE X Hb (.Dict [some (.Constant (.int i) j kp)] [.Constant (.int v) j2 vp] pos) (mDisp1 (.inl i) (.int v)) := ie_disp1 pe_int fun _ => rv_int
theorem q_ty8 {h : MH} {a : Addr} {kv : List (Key × D)} (e : h a = some (.dK kv)) : tyD h (.ref a) = "dict" := by show (match h a with | some (.lst _) => "list" | some (.dK _) => "dict" | some (.dT _) => "dict" | _ => "?") = "dict"; rw [e]
end
end M

/-! max of a list of tuples of ints -/
namespace L2
open PySem PySem.Spec PyProof PyProof.Rows PySem.SeqAt PySem.W
theorem argBest_all {lt : Nat → Nat → Prop} (bt : Nat → Nat → Bool) (hb : ∀ i j, bt i j = true ↔ lt j i) (irr : ∀ i, ¬ lt i i) (tr : ∀ i j k, lt i j → lt j k → lt i k) : ∀ k, argBest bt k ≤ k ∧ ∀ j, j ≤ k → ¬ lt (argBest bt k) j
  | 0 => ⟨Nat.le_refl _, fun j hj => by
    have : j = 0 := by omega
    subst this; exact irr _⟩
  | k + 1 => by
    obtain ⟨h1, h2⟩ := argBest_all bt hb irr tr k
    unfold argBest
    by_cases c : bt (k + 1) (argBest bt k) = true
    · rw [if_pos c]
      refine ⟨Nat.le_refl _, fun j hj => ?_⟩
      by_cases e : j = k + 1
      · subst e; exact irr _
      · exact fun z => h2 j (by omega) (tr _ _ _ ((hb _ _).mp c) z)
    · rw [if_neg c]
      refine ⟨by omega, fun j hj => ?_⟩
      by_cases e : j = k + 1
      · subst e; exact fun z => c ((hb _ _).mpr z)
      · exact h2 j (by omega)

theorem alike_ints : ∀ xs ys : List Int, alikeAll (xs.map PyData.int) (ys.map PyData.int) = true
  | [], _ => by rw [List.map_nil, alikeAll]
  | _ :: _, [] => by rw [List.map_nil, List.map_cons, alikeAll]
  | x :: xs, y :: ys => by rw [List.map_cons, List.map_cons, alikeAll, alike_ints xs ys]; rfl
abbrev tuD (xs : List Int) : PyData := .tuple (xs.map .int)
theorem dlt_tup (xs ys : List Int) : dataLt (tuD xs) (tuD ys) = decide (xs < ys) := by
  rw [dataLt_tuple]
  exact dataLt_ints xs ys
theorem depth_tup (xs : List Int) : (tuD xs).depth ≤ 1 := by
  rw [PyData.depth, M.depth_ints]; decide
section
variable {X : Cx}
theorem dpAll_get {K : PySem.W.Frag} {H : Hp} : ∀ {ws : List V} {ds : List PyData} {i : Nat} {w : V}, DpAll K H ws ds → ws[i]? = some w → ∃ d, ds[i]? = some d ∧ Dp K H w d
  | _, _, _, _, .nil, e => by simp at e
  | _, _, 0, _, .cons a b, e => ⟨_, rfl, by simp at e; subst e; exact a⟩
  | _, _, i + 1, _, .cons a b, e => by
    obtain ⟨d, e1, q⟩ := dpAll_get b (i := i) (by simpa using e)
    exact ⟨d, by simpa using e1, q⟩
def rMaxTT (K : PySem.W.Frag) : List V → Hp → VK → Prop := fun vs H Q => ∃ (a : Addr) (ws : List V) (xss : List (List Int)), vs = [V.ref a] ∧ SqL K H a ws ∧ DpAll K H ws (xss.map tuD) ∧ 0 < xss.length ∧ xss.length = ws.length ∧
  ∀ k w, ws[k]? = some w → (∀ j, j < xss.length → ¬ (xss.getD k [] < xss.getD j [])) → Q w H
theorem cr_maxTT (hc : X.calm = true) (hu : X.A.in1.units + 1 < cLine) : CallR X (.builtin "max") (rMaxTT X.K) := by
  intro pins s σ H vs us Q I r h
  obtain ⟨a, ws, xss, rfl, hs, hd, hne, hll, q⟩ := h
  obtain ⟨its, rv, hl, _⟩ := I.list hs
  have hlen := rv.length
  rw [Vals.ref1 r]
  have hlt : a < s.heap.objs.size := by obtain ⟨_, _, e, _⟩ := hl; exact Heap.lt_size e
  refine call_max_walkH (wpAny_pyIter_list hl.isList ?_)
  have it : ∀ i v, its.toArray[i]? = some v → ∃ w, ws[i]? = some w ∧ RelV w v ∧ ∃ as, Reads s.heap v (tuD (xss.getD i [])) as := fun i v e => by
    have e' : its[i]? = some v := by simpa using e
    have hi : i < its.length := (List.getElem?_eq_some_iff.mp e').1
    have ew : ws[i]? = some ws[i] := List.getElem?_eq_getElem (by omega)
    obtain ⟨u, eu, ru⟩ := rv.get ew
    rw [eu] at e'
    cases e'
    obtain ⟨d, ed, dp⟩ := dpAll_get hd ew
    rw [List.getElem?_map, List.getElem?_eq_getElem (show i < xss.length by omega)] at ed
    cases ed
    obtain ⟨as, ra⟩ := Dp.reads I _ _ _ dp ru
    refine ⟨_, ew, ru, as, ?_⟩
    rw [List.getD_eq_getElem?_getD, List.getElem?_eq_getElem (show i < xss.length by omega)]
    exact ra
  refine ⟨_, _, _, _, _, _, _, s.heap, fun i j => decide (xss.getD j [] < xss.getD i []), rfl, (Walks.list (A := X.A.in1) (I.ok.hd hc) s.heap.objs.size a (Nat.ne_of_lt hlt) its.toArray).toS, ⟨⟨_, Heap.get?_push_size _ rfl, rfl, rfl⟩, hl.isList.push _⟩, fun b hb => ?_, by rw [List.size_toArray]; omega, fun b o e z => ?_, fun b o e => Heap.get?_push_of_some _ e, ?_, ?_⟩
  · show b < (s.heap.push _).objs.size
    rw [Heap.size_push]
    simp only [List.mem_cons, List.not_mem_nil, or_false] at hb
    rcases hb with e | e
    · rw [e]; exact Nat.lt_succ_self _
    · rw [e]; exact Nat.lt_succ_of_lt hlt
  · have := Heap.lt_size e
    rw [List.mem_singleton.mp z] at this
    exact Nat.lt_irrefl _ this
  · intro i j vi vj s' Q' E' hk hi hj hq
    obtain ⟨_, _, _, as, ra⟩ := it i vi hi
    obtain ⟨_, _, _, bs, rb⟩ := it j vj hj
    refine rcGt_alike (tuD (xss.getD i [])) (tuD (xss.getD j [])) X.A.in1 s' vi vj as bs (PyProof.Rows.Reads.keeps hk ra) (PyProof.Rows.Reads.keeps hk rb) (by rw [alike]; exact alike_ints _ _) (fun z => by cases z) ?_ _ _ _ _ ?_
    · have := depth_tup (xss.getD i [])
      omega
    · rw [dlt_tup]; exact hq
  · intro v s' hP hm
    obtain ⟨w, ew, rw', _⟩ := it _ v hP
    have best := (argBest_all (lt := fun i j => xss.getD i [] < xss.getD j []) (fun i j => decide (xss.getD j [] < xss.getD i [])) (fun i j => decide_eq_true_iff) (fun i => List.lt_irrefl _) (fun i j k => List.lt_trans) (its.toArray.size - 1)).2
    obtain ⟨m1, m2, m3, m4, m5⟩ := hm
    obtain ⟨hp, g, d, tk, os⟩ := s'
    simp only at m1 m2 m3 m4
    subst m2 m3 m4
    refine ⟨w, H, I.kept (t' := tk) (h' := hp) fun b o e => m1 b o ?_ (Heap.get?_push_of_some _ e), rw', q _ w ew fun j hj => best j (by rw [List.size_toArray]; omega)⟩
    intro z
    have := Heap.lt_size e
    rw [List.mem_singleton.mp z] at this
    exact Nat.lt_irrefl _ this
end
end L2

namespace L2
open PySem PySem.Spec PyProof PyProof.Rows
open AutoSeq1 (wpAny_loadPart')
/-! t * 1 is t -/
theorem tuple_mul1 (l : Addr) (items : Array Value) (n : Nat) (dd : Option Addr) (sl : Array (Option Value)) (u : Tok) (c1 : (items.isEmpty || (1 : Int) == 1) = true) :
    Meets (Builtin.«tuple.__mul__» ⟨[.ref l, .int 1 u], []⟩) (fun _ R s => s.heap.get? l = some { cls := .type "tuple", dict := dd, data := .seq items n, slots := sl } ∧
      R (.ok (.ret (Value.ref l))) s) :=
  .of_wp fun prog w A R s h => by
    obtain ⟨hp, g, d, tk, os⟩ := s
    obtain ⟨hl, h⟩ := h
    have f1 := AutoSeq1.idx_int
    have c0 : (decide ((1 : Int) < -(2 ^ 63)) || decide ((1 : Int) ≥ 2 ^ 63)) = false := by decide
    wp_walk using wpAny_loadPart' hl
    repeat (first
      | (refine wpAny_ite_false (decide_eq_false (by rw [c0]; exact Bool.false_ne_true)) ?_; wp_walk using wpAny_loadPart' hl)
      | (refine wpAny_ite_true (decide_eq_true c1) ?_; wp_walk using wpAny_loadPart' hl))
    exact ⟨_, rfl, h⟩

def rRepT1 (K : PySem.W.Frag) : R2 := fun x y H Q => ∃ l xs, x = .ref l ∧ y = .int 1 ∧ SqT K H l xs ∧ Q (.ref l) H
theorem op_repT1 {X : Cx} : OpR X (binaryOp .Mult) (rRepT1 X.K) := by
  intro pins s σ H x y v u Q I rx ry h
  obtain ⟨l, xs, rfl, rfl, hT, q⟩ := h
  cases rx
  obtain ⟨t, rfl⟩ := ry
  obtain ⟨its, r, ⟨⟨cls, dd, data, sl⟩, ho, hc, n, hd⟩, hs⟩ := I.tuple hT
  simp only at hc hd
  subst hc hd
  exact wpAny_binaryOp_repeat_ref (T := "tuple") (U := "int") (by decide) ⟨_, ho, rfl⟩ (fun s' => typeIs_int s' 1 t) noFill_tuple_mul F.fills_int_mul F.slot_int_rmul repeat_tuple F.slot_int_index.lookup
    (call_meets F.slot_int_rmul (typeIs_int s 1 t) F.entry_int_rmul (F.args_int_rmul_2 _ _) (int_rmul_tuple 1 t l its.toArray n dd sl)
      ⟨ho, rfl, ⟨_, ho, rfl⟩, call_meets F.slot_tuple_mul ⟨_, ho, rfl⟩ F.entry_tuple_mul (F.args_tuple_mul_2 _ _) (tuple_mul1 l its.toArray n dd sl t (by simp)) ⟨ho, ⟨.ref l, H, I, rfl, q⟩⟩⟩)
end L2
namespace M
open PySem L2
def rMulT : MR2 := fun x y h Q => match x, y with
  | .tup ds, .int k => ds ≠ [] ∧ 1 ≤ k ∧ k ≤ 1000 ∧ ds.length ≤ 1000 ∧ Q (.tup (List.replicate k.toNat ds).flatten) h
  | _, _ => False
section
variable {X : Cx}
theorem om_mulT : OpM X (binaryOp .Mult) rMulT := by
  refine ⟨_, op_repT.or op_repT1, fun x y h Q0 vx vy H Q q rh rx ry f => ?_⟩
  cases x <;> cases y <;> first | exact q.elim | skip
  rename_i ds k
  obtain ⟨n0, k1, k2, l1, q⟩ := q
  obtain ⟨a, vs, rfl, ta, rs⟩ := rx.tup
  rw [ry.int]
  by_cases e : k = 1
  · subst e
    refine .inr ⟨a, vs, rfl, rfl, ta, ?_⟩
    have e2 : (List.replicate (1 : Int).toNat ds).flatten = ds := by
      show (ds ++ []) = ds
      exact List.append_nil _
    rw [e2] at q
    exact fin_at f q rh (rv_tup ta rs)
  · refine .inl ⟨a, k, vs, rfl, rfl, ta, ?_, by omega, k2, by rw [← rs.length]; exact l1, fun p np => ?_⟩
    · intro z
      subst z
      exact n0 (List.eq_nil_of_length_eq_zero rs.length)
    · exact f _ h q _ _ (.new np) (rh.skip np) (rv_tup (.of upd_same) ((rs.rep _).mono (.new np)))
/-- max of a list of tuples of ints -/
def rMaxTup : MRA := fun xs h Q => match xs with
  | [.ref a] => ∃ xss : List (List Int), h a = some (.lst (xss.map fun xs => .tup (xs.map .int))) ∧ 0 < xss.length ∧ ∀ m, m ∈ xss → (∀ y, y ∈ xss → ¬ m < y) → Q (.tup (m.map .int)) h
  | _ => False
theorem dpAll_tups {K : PySem.W.Frag} {h : MH} {H : Hp} (rh : HR K h H) : ∀ {xss : List (List Int)} {ws : List V}, RVs K H (xss.map fun xs => D.tup (xs.map .int)) ws → DpAll K H ws (xss.map tuD)
  | [], _, r => by rw [r.inv0]; exact .nil
  | xs :: xss, _, r => by
    obtain ⟨v, ws, rfl, q, t⟩ := r.inv
    exact .cons (DP.dp rh (.tup (dps_ints xs)) q) (dpAll_tups rh t)
theorem units1 {a : Nat} {c : Nat} (h : a + 64 < c) : a + 1 + 1 < c := by omega
theorem cm_maxTup (hc : X.calm = true) (hu : X.A.units + 64 < cLine) : CaM X (.builtin "max") rMaxTup := by
  refine ⟨_, cr_maxTT hc (units1 hu), fun xs h Q0 vs H Q q rh rs f => ?_⟩
  unfold rMaxTup at q
  split at q
  · obtain ⟨v, rfl, rx⟩ := rs.one
    rw [rx.ref]
    obtain ⟨xss, e, l, q⟩ := q
    obtain ⟨ws, E, rw'⟩ := rh.lst e
    have hl : xss.length = ws.length := by have := rw'.length; rwa [List.length_map] at this
    refine ⟨_, ws, xss, rfl, .of E, dpAll_tups rh rw', l, hl, fun k w ew hk => ?_⟩
    have hki : k < xss.length := by rw [hl]; exact (List.getElem?_eq_some_iff.mp ew).1
    obtain ⟨d, ed, rd⟩ := rw'.get' ew
    rw [List.getElem?_map, List.getElem?_eq_getElem hki] at ed
    cases ed
    refine fin_at f (q xss[k] (List.getElem_mem hki) fun y hy => ?_) rh rd
    obtain ⟨j, hj, rfl⟩ := List.mem_iff_getElem.mp hy
    have := hk j hj
    rw [List.getD_eq_getElem?_getD, List.getD_eq_getElem?_getD, List.getElem?_eq_getElem hki, List.getElem?_eq_getElem hj] at this
    exact this
  · exact q.elim
section
variable {k : Int} {h : MH} {Q : MQ} {a : Addr} {xs : List D}
theorem q_mulT : rMulT (.tup xs) (.int k) h Q = (xs ≠ [] ∧ 1 ≤ k ∧ k ≤ 1000 ∧ xs.length ≤ 1000 ∧ Q (.tup (List.replicate k.toNat xs).flatten) h) := rfl
theorem q_maxTup : rMaxTup [.ref a] h Q = (∃ xss : List (List Int), h a = some (.lst (xss.map fun xs => .tup (xs.map .int))) ∧ 0 < xss.length ∧ ∀ m, m ∈ xss → (∀ y, y ∈ xss → ¬ m < y) → Q (.tup (m.map .int)) h) := rfl
end
end
end M

namespace M
open PySem L2
/-! ### dicts with keys ints and texts -/
def keyD : Key → D
  | .inl i => .int i
  | .inr x => .str x
def dV (kvs : List (Key × D)) (k : Key) : Option D := (kvs.find? fun kv => decide (kv.1 = k)).map (·.2)
def dPutK (kvs : List (Key × D)) (k : Key) (v : D) : List (Key × D) :=
  if (kvs.any fun kv => decide (kv.1 = k)) = true then kvs.map (fun kv => if kv.1 = k then (kv.1, v) else kv) else kvs ++ [(k, v)]
section
variable {K : PySem.W.Frag} {H : Hp}
theorem rkv_inv {p : Key × D} {kvs : List (Key × D)} {ws : List (Key × V)} (h : RKV K H (p :: kvs) ws) : ∃ v rs, ws = (p.1, v) :: rs ∧ RV K H p.2 v ∧ RKV K H kvs rs := by
  obtain ⟨h1, h2⟩ := h
  cases ws with
  | nil => cases h1
  | cons w rs =>
    rw [List.map_cons, List.map_cons] at h1
    injection h1 with a b
    rw [List.map_cons] at h2
    obtain ⟨v, r, e, q, t⟩ := h2.inv
    rw [List.map_cons] at e
    injection e with e1 e2
    subst e1 e2
    refine ⟨w.2, rs, ?_, q, b, t⟩
    rw [a]
theorem rkv_get {k : Key} {d : D} : ∀ {kvs : List (Key × D)} {ws : List (Key × V)}, RKV K H kvs ws → dV kvs k = some d → ∃ v, valV ws k = some v ∧ RV K H d v
  | [], _, _, e => by cases e
  | p :: kvs, _, h, e => by
    obtain ⟨v, rs, rfl, q, t⟩ := rkv_inv h
    by_cases c : p.1 = k
    · have e' : dV (p :: kvs) k = some p.2 := by simp [dV, List.find?_cons, c]
      rw [e'] at e
      cases e
      exact ⟨v, by rw [valV_pos (p := (p.1, v)) c], q⟩
    · have e' : dV (p :: kvs) k = dV kvs k := by simp [dV, List.find?_cons, c]
      rw [e'] at e
      obtain ⟨u, eu, ru⟩ := rkv_get t e
      exact ⟨u, by rw [valV_neg (p := (p.1, v)) c]; exact eu, ru⟩
theorem keyD_rv {k : Key} {v : V} (h : RV K H (keyD k) v) : v = kV k := by
  cases k with
  | inl i => exact h.int
  | inr x => exact h.str
end
def mDGet (o i : MTE) : MTE := fun env h Q => o env h fun x h1 => i env h1 fun y h2 => ∃ a kvs k d, x = .ref a ∧ h2 a = some (.dK kvs) ∧ y = keyD k ∧ dV kvs k = some d ∧ Q d h2
section
variable {X : Cx} {Hb : Hp} {o i : Expr} {mo mi : MTE} {pos : Pos}
theorem ie_dget (hu : X.A.units + 64 < cLine) (ho : IE X Hb o mo) (hi : IE X Hb i mi) (hs : NoSl i) : IE X Hb (.Subscript o i pos) (mDGet mo mi) := by
  refine pe_w (pe_dget (by omega) ho hi hs) fun σ H Q ⟨env, h, Q0, re, rh, m, f⟩ => ?_
  refine ⟨env, h, _, re, rh, m, fun x h1 q1 vx H1 t1 r1 rx => ?_⟩
  refine ⟨env, h1, _, re.mono t1, r1, q1, fun y h2 q vy H2 t2 r2 ry => ?_⟩
  obtain ⟨a, kvs, k, d, rfl, e, rfl, ed, q⟩ := q
  obtain ⟨ws, E, rk⟩ := r2.dK e
  obtain ⟨v, ev, rv⟩ := rkv_get rk ed
  refine ⟨a, v, (rx.mono t2).ref, ?_, f d h2 q v H2 (t1.trans t2) r2 rv⟩
  rw [keyD_rv ry, ← ev]
  exact DGet.k E
end
section
variable {K : PySem.W.Frag} {H : Hp}
theorem rkv_any {k : Key} : ∀ {kvs : List (Key × D)} {ws : List (Key × V)}, RKV K H kvs ws → (kvs.any fun kv => decide (kv.1 = k)) = (ws.any fun kv => decide (kv.1 = k))
  | [], ws, h => by
    have : ws = [] := by
      cases ws with
      | nil => rfl
      | cons _ _ => cases h.1
    rw [this]; rfl
  | p :: kvs, _, h => by
    obtain ⟨v, rs, rfl, q, t⟩ := rkv_inv h
    rw [List.any_cons, List.any_cons, rkv_any t]
theorem rkv_map {k : Key} {d : D} {v : V} (r : RV K H d v) : ∀ {kvs : List (Key × D)} {ws : List (Key × V)}, RKV K H kvs ws → RKV K H (kvs.map fun kv => if kv.1 = k then (kv.1, d) else kv) (ws.map fun kv => if kv.1 = k then (kv.1, v) else kv)
  | [], ws, h => by
    have : ws = [] := by
      cases ws with
      | nil => rfl
      | cons _ _ => cases h.1
    rw [this]; exact ⟨rfl, .nil⟩
  | p :: kvs, _, h => by
    obtain ⟨u, rs, rfl, q, t⟩ := rkv_inv h
    have ih := rkv_map (k := k) r t
    rw [List.map_cons, List.map_cons]
    by_cases c : p.1 = k
    · rw [if_pos c, if_pos (show (p.1, u).1 = k from c)]
      exact ⟨by rw [List.map_cons, List.map_cons, ih.1], by rw [List.map_cons, List.map_cons]; exact .cons r ih.2⟩
    · rw [if_neg c, if_neg (show ¬ (p.1, u).1 = k from c)]
      exact ⟨by rw [List.map_cons, List.map_cons, ih.1], by rw [List.map_cons, List.map_cons]; exact .cons q ih.2⟩
theorem rkv_put {k : Key} {d : D} {v : V} {kvs : List (Key × D)} {ws : List (Key × V)} (h : RKV K H kvs ws) (r : RV K H d v) : RKV K H (dPutK kvs k d) (putK ws k v) := by
  unfold dPutK putK
  rw [rkv_any h]
  split
  · exact rkv_map r h
  · exact ⟨by rw [List.map_append, List.map_append, h.1]; rfl, by rw [List.map_append, List.map_append]; exact h.2.append (.cons r .nil)⟩
theorem rkv_len {kvs : List (Key × D)} {ws : List (Key × V)} (h : RKV K H kvs ws) : kvs.length = ws.length := by
  have := congrArg List.length h.1
  rwa [List.length_map, List.length_map] at this
end
def mPutD (e o i : MTE) : MTS := fun D' env h => e env h fun d h1 => o env h1 fun x h2 => i env h2 fun y h3 => ∃ a kvs k, x = .ref a ∧ h3 a = some (.dK kvs) ∧ y = keyD k ∧ kvs.length < sizeLine ∧ D'.nx env (up h3 a (.dK (dPutK kvs k d)))
section
variable {X : Cx} {Hb : Hp} {e o i : Expr} {me mo mi : MTE} {pos pos' : Pos}
theorem is_dput (hu : X.A.units + 64 < cLine) (he : IE X Hb e me) (ho : IE X Hb o mo) (hi : IE X Hb i mi) (hs : swapsWith e (some (.Subscript o i pos')) pos.line X.env = pure false := by rfl) : IS X Hb (.Assign [.Subscript o i pos'] e pos) (mPutD me mo mi) := by
  refine is_of (ps_dput (by omega) ho hi he hs) fun D' σ H env h D0 re rh m f => ?_
  refine ⟨env, h, _, re, rh, m, fun d h1 q1 v H1 t1 r1 rv => ?_⟩
  refine ⟨env, h1, _, re.mono t1, r1, q1, fun x h2 q2 vx H2 t2 r2 rx => ?_⟩
  refine ⟨env, h2, _, (re.mono t1).mono t2, r2, q2, fun y h3 q3 vy H3 t3 r3 ry => ?_⟩
  obtain ⟨a, kvs, k, rfl, ea, rfl, lk, q⟩ := q3
  obtain ⟨ws, E, rk⟩ := r3.dK ea
  have rv3 := rv.mono (t2.trans t3)
  have t : TL H3 (upd H3 a (.dK (putK ws k v))) := .put E (fun _ z => by cases z) (fun _ _ z => by cases z)
  have tt := t1.trans (t2.trans (t3.trans t))
  refine ⟨a, _, (rx.mono t3).ref, ?_, f.nx env _ q σ _ tt (re.mono tt) (r3.put t ⟨_, rfl, (rkv_put rk rv3).mono t⟩)⟩
  rw [keyD_rv ry]
  exact DPut.k E (by rw [← rkv_len rk]; exact lk)
end
end M

namespace M
open PySem L2
/-! ### a dict of some pairs, its keys constants -/
def mPairs : List (Key × MTE) → ME → MH → (List (Key × D) → MH → Prop) → Prop
  | [], _, h, Q => Q [] h
  | (k, m) :: r, env, h, Q => m env h fun d h1 => mPairs r env h1 fun ps h2 => Q ((k, d) :: ps) h2
def mDispN (kes : List (Key × MTE)) : MTE := fun env h Q => ∀ p, h p = none → mPairs kes env (up h p (.dK [])) fun ps h2 => h2 p = some (.dK []) ∧ Q (.ref p) (up h2 p (.dK ps))
theorem put_new {k : Key} {v : V} : ∀ {kvs : List (Key × V)}, (∀ p ∈ kvs, p.1 ≠ k) → putK kvs k v = kvs ++ [(k, v)] := fun {kvs} h => by
  unfold putK
  rw [if_neg]
  intro z
  obtain ⟨p, hp, e⟩ := List.any_eq_true.mp z
  exact h p hp (of_decide_eq_true e)
theorem merge_new : ∀ (more kvs : List (Key × V)), (more.map (·.1)).Nodup → (∀ p ∈ kvs, ∀ q ∈ more, p.1 ≠ q.1) → mergeK kvs more = kvs ++ more
  | [], kvs, _, _ => by rw [List.append_nil]; rfl
  | p :: r, kvs, hn, hd => by
    rw [List.map_cons, List.nodup_cons] at hn
    show mergeK (putK kvs p.1 p.2) r = _
    rw [put_new fun q hq => hd q hq p (List.mem_cons_self ..), merge_new r _ hn.2, List.append_assoc]; · rfl
    intro a ha b hb e
    rcases List.mem_append.mp ha with z | z
    · exact hd a z b (List.mem_cons_of_mem _ hb) e
    · rw [List.mem_singleton.mp z] at e
      exact hn.1 (List.mem_map.mpr ⟨b, hb, e.symm⟩)
theorem pairs_lift {K : PySem.W.Frag} {Hb : Hp} : ∀ {kes : List (Key × MTE)} {env : ME} {h : MH} {Q0 : List (Key × D) → MH → Prop} {σ : L2.St} {H : Hp} {Q : List (V × V) → Hp → Prop}, REnv K Hb H env σ → HR K h H → mPairs kes env h Q0 →
    (∀ ps h', Q0 ps h' → ps.map (·.1) = kes.map (·.1) → ∀ ws H', TL H H' → HR K h' H' → RKV K H' ps ws → Q (ws.map fun w => (kV w.1, w.2)) H') → tPairs (kes.map fun p => (tC (kV p.1), lift K Hb p.2)) σ H Q
  | [], env, h, Q0, σ, H, Q, re, rh, m, f => f [] h m rfl [] H (.refl H) rh ⟨rfl, .nil⟩
  | (k, m1) :: r, env, h, Q0, σ, H, Q, re, rh, m, f => by
    show tC (kV k) σ H fun x H1 => lift K Hb m1 σ H1 fun y H2 => tPairs (r.map fun p => (tC (kV p.1), lift K Hb p.2)) σ H2 fun ps H3 => Q ((x, y) :: ps) H3
    refine ⟨env, h, _, re, rh, m, fun d h1 q v H1 t1 r1 rv => ?_⟩
    refine pairs_lift (re.mono t1) r1 q fun ps h2 q2 ek ws H2 t2 r2 rk => ?_
    exact f _ h2 q2 (by rw [List.map_cons, List.map_cons, ek]) ((k, v) :: ws) H2 (t1.trans t2) r2 ⟨by rw [List.map_cons, List.map_cons, rk.1], by rw [List.map_cons, List.map_cons]; exact .cons (rv.mono t2) rk.2⟩
section
variable {X : Cx} {Hb : Hp} {pos : Pos} {keys : List (Option Expr)} {values : List Expr} {kes : List (Key × MTE)}
theorem ie_dispN (h : PPs X pos keys values (kes.map fun p => (tC (kV p.1), lift X.K Hb p.2))) (hn : (kes.map (·.1)).Nodup) (h15 : kes.length ≤ 15) (hall : keys.all (·.isSome) = true) (hl : keys.length = values.length) (h0 : keys ≠ []) (hk : keys.length ≤ 15) : IE X Hb (.Dict keys values pos) (mDispN kes) := by
  refine pe_w (pe_disp h hall hl h0 hk) fun σ H Q ⟨env, h, Q0, re, rh, m, f⟩ => fun p np => ?_
  have t0 : TL H (upd H p (.dK [])) := .new np
  refine pairs_lift (re.mono t0) (rh.new (m := .dK []) np ⟨[], rfl, rfl, .nil⟩) (m p (rh.free np)) fun ps h2 ⟨e, q⟩ ek ws H2 t2 r2 rk => ?_
  obtain ⟨ws0, E, r0⟩ := r2.dK e
  have e0 : ws0 = [] := by
    cases ws0 with
    | nil => rfl
    | cons _ _ => cases r0.1
  subst e0
  refine ⟨E, ws, rfl, ?_, ?_⟩
  · rw [← rkv_len rk]
    have := congrArg List.length ek
    rw [List.length_map, List.length_map] at this
    omega
  · rw [merge_new ws [] (by rw [← rk.1, ek]; exact hn) (by simp), List.nil_append]
    have t3 : TL H2 (upd H2 p (.dK ws)) := .put E (fun _ z => by cases z) (fun _ _ z => by cases z)
    exact f _ _ q _ _ (t0.trans (t2.trans t3)) (r2.put t3 ⟨_, rfl, rk.mono t3⟩) rv_ref
end
end M

namespace L2
open PySem PySem.Spec PyProof PyProof.Rows PySem.SeqAt PySem.W
/-! tuples of ints compared -/
def rGtD (K : PySem.W.Frag) : R2 := fun x y H Q => ∃ ns ms : List Int, Dp K H x (tuD ns) ∧ Dp K H y (tuD ms) ∧ Q (.bl (decide (ms < ns))) H
def rLtD (K : PySem.W.Frag) : R2 := fun x y H Q => ∃ ns ms : List Int, Dp K H x (tuD ns) ∧ Dp K H y (tuD ms) ∧ Q (.bl (decide (ns < ms))) H
section
variable {X : Cx}
theorem op_gtD (hu : X.A.units + 64 < cLine) : OpR X (compareOp .Gt) (rGtD X.K) := by
  intro pins s σ H x y v u Q I rx ry h
  obtain ⟨ns, ms, hd, he, q⟩ := h
  obtain ⟨as, r1⟩ := Dp.reads I _ x v hd rx
  obtain ⟨bs, r2⟩ := Dp.reads I _ y u he ry
  refine gt_data r1 r2 (by rw [alike]; exact alike_ints _ _) (fun z => by cases z) (by have := depth_tup ns; omega) ?_
  rw [dlt_tup]
  exact ⟨.bl _, H, I, rfl, q⟩
theorem op_ltD (hu : X.A.units + 64 < cLine) : OpR X (compareOp .Lt) (rLtD X.K) := by
  intro pins s σ H x y v u Q I rx ry h
  obtain ⟨ns, ms, hd, he, q⟩ := h
  obtain ⟨as, r1⟩ := Dp.reads I _ x v hd rx
  obtain ⟨bs, r2⟩ := Dp.reads I _ y u he ry
  refine lt_data r1 r2 (by rw [alike]; exact alike_ints _ _) (fun z => by cases z) (by have := depth_tup ns; omega) ?_
  rw [dlt_tup]
  exact ⟨.bl _, H, I, rfl, q⟩
end
end L2
namespace M
open PySem L2
def rGtT : MR2 := fun x y h Q => match x, y with
  | .int i, .int j => Q (.bl (decide (j < i))) h
  | .tup xs, .tup ys => ∃ ns ms : List Int, xs = ns.map .int ∧ ys = ms.map .int ∧ Q (.bl (decide (ms < ns))) h
  | _, _ => False
def rLtT : MR2 := fun x y h Q => match x, y with
  | .int i, .int j => Q (.bl (decide (i < j))) h
  | .tup xs, .tup ys => ∃ ns ms : List Int, xs = ns.map .int ∧ ys = ms.map .int ∧ Q (.bl (decide (ns < ms))) h
  | _, _ => False
section
variable {X : Cx}
theorem om_gtT (hu : X.A.units + 64 < cLine) : OpM X (compareOp .Gt) rGtT := by
  refine ⟨_, op_gt.or (op_gtD hu), fun x y h Q0 vx vy H Q q rh rx ry f => ?_⟩
  cases x <;> cases y <;> first | exact q.elim | skip
  · rw [rx.int, ry.int]
    exact .inl ⟨_, _, rfl, rfl, fin_at f q rh rv_bl⟩
  · obtain ⟨ns, ms, rfl, rfl, q⟩ := q
    exact .inr ⟨ns, ms, DP.dp rh (.tup (dps_ints ns)) rx, DP.dp rh (.tup (dps_ints ms)) ry, fin_at f q rh rv_bl⟩
theorem om_ltT (hu : X.A.units + 64 < cLine) : OpM X (compareOp .Lt) rLtT := by
  refine ⟨_, op_lt.or (op_ltD hu), fun x y h Q0 vx vy H Q q rh rx ry f => ?_⟩
  cases x <;> cases y <;> first | exact q.elim | skip
  · rw [rx.int, ry.int]
    exact .inl ⟨_, _, rfl, rfl, fin_at f q rh rv_bl⟩
  · obtain ⟨ns, ms, rfl, rfl, q⟩ := q
    exact .inr ⟨ns, ms, DP.dp rh (.tup (dps_ints ns)) rx, DP.dp rh (.tup (dps_ints ms)) ry, fin_at f q rh rv_bl⟩
section
variable {i j : Int} {h : MH} {Q : MQ} {xs ys : List D}
theorem q_gtT1 : rGtT (.int i) (.int j) h Q = Q (.bl (decide (j < i))) h := rfl
theorem q_gtT2 : rGtT (.tup xs) (.tup ys) h Q = (∃ ns ms : List Int, xs = ns.map .int ∧ ys = ms.map .int ∧ Q (.bl (decide (ms < ns))) h) := rfl
theorem q_ltT1 : rLtT (.int i) (.int j) h Q = Q (.bl (decide (i < j))) h := rfl
theorem q_ltT2 : rLtT (.tup xs) (.tup ys) h Q = (∃ ns ms : List Int, xs = ns.map .int ∧ ys = ms.map .int ∧ Q (.bl (decide (ns < ms))) h) := rfl
end
end
/-- a list, and the empty one -/
theorem eqD_nil {h : MH} {Q : MQ} {a b : Addr} {ds : List D} {ps : List PyData} (ea : h a = some (.lst ds)) (hp : DPs h ds ps) (sp : SeqAt.shaped (.list ps) = true) (eb : h b = some (.lst [])) (q : Q (.bl ds.isEmpty) h) : rEqD (.ref a) (.ref b) h Q := by
  refine ⟨_, _, .lst ea hp, .lst eb .nil, sp, rfl, ?_⟩
  have e : PyData.eqv (.list ps) (.list []) = ds.isEmpty := by
    cases hp with
    | nil => rw [PyData.eqv, PyData.eqvAll]; rfl
    | cons _ _ => rw [PyData.eqv, PyData.eqvAll]; rfl
  rw [e]; exact q
end M

namespace M
open PySem L2
/-! ### dicts: equations for the walk -/
section
variable {a : Addr} {s s2 : Str} {i : Int} {d v : D} {h : MH} {Q : D → MH → Prop} {kvs r : List (Key × D)} {k k2 : Key}
def fDGet (x y : D) (h : MH) (Q : D → MH → Prop) : Prop := ∃ a kvs k d, x = .ref a ∧ h a = some (.dK kvs) ∧ y = keyD k ∧ dV kvs k = some d ∧ Q d h
theorem q_dget {o i : MTE} {env : ME} : mDGet o i env h Q = o env h fun x h1 => i env h1 fun y h2 => fDGet x y h2 Q := rfl
theorem key_str (e : D.str s = keyD k) : k = .inr s := by
  cases k with
  | inl j => cases e
  | inr x => cases e; rfl
theorem key_int (e : D.int i = keyD k) : k = .inl i := by
  cases k with
  | inl j => cases e; rfl
  | inr x => cases e
theorem q_dgetS : fDGet (.ref a) (.str s) h Q = ∃ kvs, h a = some (.dK kvs) ∧ ∃ d, dV kvs (.inr s) = some d ∧ Q d h := by
  refine propext ⟨fun ⟨b, kvs, k, d, e1, e2, e3, e4, q⟩ => ?_, fun ⟨kvs, e, d, e2, q⟩ => ⟨a, kvs, .inr s, d, rfl, e, rfl, e2, q⟩⟩
  cases e1
  rw [key_str e3] at e4
  exact ⟨kvs, e2, d, e4, q⟩
theorem q_dgetI : fDGet (.ref a) (.int i) h Q = ∃ kvs, h a = some (.dK kvs) ∧ ∃ d, dV kvs (.inl i) = some d ∧ Q d h := by
  refine propext ⟨fun ⟨b, kvs, k, d, e1, e2, e3, e4, q⟩ => ?_, fun ⟨kvs, e, d, e2, q⟩ => ⟨a, kvs, .inl i, d, rfl, e, rfl, e2, q⟩⟩
  cases e1
  rw [key_int e3] at e4
  exact ⟨kvs, e2, d, e4, q⟩
theorem dV_cons : dV ((k, v) :: r) k2 = if k = k2 then some v else dV r k2 := by
  unfold dV
  rw [List.find?_cons]
  by_cases c : k = k2
  · rw [if_pos c]; simp [c]
  · rw [if_neg c]; simp [c]
/-- a value put under a key that is there -/
def dSet (kvs : List (Key × D)) (k : Key) (d : D) : List (Key × D) := match kvs with
  | [] => []
  | (k2, v) :: r => (k2, if k2 = k then d else v) :: dSet r k d
theorem dSet_map : ∀ kvs : List (Key × D), (kvs.map fun kv => if kv.1 = k then (kv.1, d) else kv) = dSet kvs k d
  | [] => rfl
  | (k2, v) :: r => by
    rw [List.map_cons, dSet_map r]
    show _ = (k2, if k2 = k then d else v) :: dSet r k d
    by_cases c : k2 = k
    · rw [if_pos c, if_pos (show (k2, v).1 = k from c)]
    · rw [if_neg c, if_neg (show ¬ (k2, v).1 = k from c)]
theorem dPut_in (e : (dV kvs k).isSome = true) : dPutK kvs k d = dSet kvs k d := by
  unfold dPutK
  rw [if_pos, dSet_map]
  obtain ⟨x, hx⟩ := Option.isSome_iff_exists.mp e
  unfold dV at hx
  obtain ⟨p, hp, _⟩ := Option.map_eq_some_iff.mp hx
  exact List.any_eq_true.mpr ⟨p, List.mem_of_find?_eq_some hp, List.find?_some (p := fun kv : Key × D => decide (kv.1 = k)) hp⟩
theorem dSet_nil : dSet [] k d = [] := rfl
theorem dSet_cons : dSet ((k2, v) :: r) k d = (k2, if k2 = k then d else v) :: dSet r k d := rfl
def fPutD (x y d : D) (h : MH) (Q : MH → Prop) : Prop := ∃ a kvs k, x = .ref a ∧ h a = some (.dK kvs) ∧ y = keyD k ∧ kvs.length < sizeLine ∧ Q (up h a (.dK (dPutK kvs k d)))
theorem putD_ {e o i : MTE} {D' : MEnds} {env : ME} (q : e env h fun d h1 => o env h1 fun x h2 => i env h2 fun y h3 => fPutD x y d h3 fun h4 => D'.nx env h4) : mPutD e o i D' env h := q
/-- a text key that is there -/
theorem q_putS {Q : MH → Prop} : fPutD (.ref a) (.str s) d h Q = ∃ kvs, h a = some (.dK kvs) ∧ kvs.length < sizeLine ∧ Q (up h a (.dK (dPutK kvs (.inr s) d))) := by
  refine propext ⟨fun ⟨b, kvs, k, e1, e2, e3, e4, q⟩ => ?_, fun ⟨kvs, e, l, q⟩ => ⟨a, kvs, .inr s, rfl, e, rfl, l, q⟩⟩
  cases e1
  rw [key_str e3] at q
  exact ⟨kvs, e2, e4, q⟩
theorem q_putI {Q : MH → Prop} : fPutD (.ref a) (.int i) d h Q = ∃ kvs, h a = some (.dK kvs) ∧ kvs.length < sizeLine ∧ Q (up h a (.dK (dPutK kvs (.inl i) d))) := by
  refine propext ⟨fun ⟨b, kvs, k, e1, e2, e3, e4, q⟩ => ?_, fun ⟨kvs, e, l, q⟩ => ⟨a, kvs, .inl i, rfl, e, rfl, l, q⟩⟩
  cases e1
  rw [key_int e3] at q
  exact ⟨kvs, e2, e4, q⟩
end
/-! texts as keys: unlike -/
theorem kn_cells_at : (Str.ofString "cells" = Str.ofString "at") = False := eq_false (by decide +kernel)
theorem kn_cells_digits : (Str.ofString "cells" = Str.ofString "digits") = False := eq_false (by decide +kernel)
theorem kn_cells_turn : (Str.ofString "cells" = Str.ofString "turn") = False := eq_false (by decide +kernel)
theorem kn_at_cells : (Str.ofString "at" = Str.ofString "cells") = False := eq_false (by decide +kernel)
theorem kn_at_digits : (Str.ofString "at" = Str.ofString "digits") = False := eq_false (by decide +kernel)
theorem kn_at_turn : (Str.ofString "at" = Str.ofString "turn") = False := eq_false (by decide +kernel)
theorem kn_digits_cells : (Str.ofString "digits" = Str.ofString "cells") = False := eq_false (by decide +kernel)
theorem kn_digits_at : (Str.ofString "digits" = Str.ofString "at") = False := eq_false (by decide +kernel)
theorem kn_digits_turn : (Str.ofString "digits" = Str.ofString "turn") = False := eq_false (by decide +kernel)
theorem kn_turn_cells : (Str.ofString "turn" = Str.ofString "cells") = False := eq_false (by decide +kernel)
theorem kn_turn_at : (Str.ofString "turn" = Str.ofString "at") = False := eq_false (by decide +kernel)
theorem kn_turn_digits : (Str.ofString "turn" = Str.ofString "digits") = False := eq_false (by decide +kernel)
end M

namespace M
open PySem L2
/-! ### plain data (None, ints, tuples of these) compared -/
def Pu : Nat → D → Prop
  | 0, _ => False
  | n + 1, d => match d with
    | .non => True
    | .int _ => True
    | .tup ds => ∀ x ∈ ds, Pu n x
    | _ => False
/-- what holds of plain data d: it is p -/
structure Pd (h : MH) (n : Nat) (d : D) (p : PyData) : Prop where
  dp : DP h d p
  lay : p.canLay0 = true
  dep : p.depth ≤ n
theorem pu_dps {h : MH} {n : Nat} (ih : ∀ d, Pu n d → ∃ p, DP h d p ∧ p.canLay0 = true ∧ p.depth ≤ n) : ∀ ds : List D, (∀ x ∈ ds, Pu n x) → ∃ ps, DPs h ds ps ∧ PyData.canLayAll0 ps = true ∧ PyData.depthAll ps ≤ n
  | [], _ => ⟨[], .nil, rfl, by rw [PyData.depthAll]; omega⟩
  | d :: ds, q => by
    obtain ⟨p, a1, a2, a3⟩ := ih d (q d (List.mem_cons_self ..))
    obtain ⟨ps, b1, b2, b3⟩ := pu_dps ih ds fun x hx => q x (List.mem_cons_of_mem _ hx)
    exact ⟨p :: ps, .cons a1 b1, by rw [PyData.canLayAll0, a2, b2]; rfl, by rw [PyData.depthAll]; omega⟩
theorem pu_dp {h : MH} : ∀ (n : Nat) (d : D), Pu n d → ∃ p, DP h d p ∧ p.canLay0 = true ∧ p.depth ≤ n
  | 0, _, q => q.elim
  | n + 1, d, q => by
    cases d with
    | non => exact ⟨_, .non, rfl, by rw [PyData.depth]; omega⟩
    | int i => exact ⟨_, .int i, rfl, by rw [PyData.depth]; omega⟩
    | tup ds =>
      obtain ⟨ps, b1, b2, b3⟩ := pu_dps (pu_dp n) ds q
      exact ⟨_, .tup b1, by rw [PyData.canLay0]; exact b2, by rw [PyData.depth]; omega⟩
    | bl _ => exact q.elim
    | str _ => exact q.elim
    | rl _ => exact q.elim
    | ref _ => exact q.elim
theorem pu_eqvs {h : MH} {n : Nat} (ih : ∀ d e p q, Pu n d → Pu n e → DP h d p → DP h e q → (PyData.eqv p q = true ↔ d = e)) : ∀ (ds es : List D) (ps qs : List PyData), (∀ x ∈ ds, Pu n x) → (∀ x ∈ es, Pu n x) → DPs h ds ps → DPs h es qs → (PyData.eqvAll ps qs = true ↔ ds = es)
  | [], [], _, _, _, _, .nil, .nil => by simp [PyData.eqvAll]
  | [], _ :: _, _, _, _, _, .nil, .cons _ _ => by simp [PyData.eqvAll]
  | _ :: _, [], _, _, _, _, .cons _ _, .nil => by simp [PyData.eqvAll]
  | d :: ds, e :: es, _, _, p1, p2, .cons a1 a2, .cons b1 b2 => by
    rw [PyData.eqvAll, Bool.and_eq_true, ih d e _ _ (p1 d (List.mem_cons_self ..)) (p2 e (List.mem_cons_self ..)) a1 b1, pu_eqvs ih ds es _ _ (fun x hx => p1 x (List.mem_cons_of_mem _ hx)) (fun x hx => p2 x (List.mem_cons_of_mem _ hx)) a2 b2, List.cons.injEq]
theorem pu_eqv {h : MH} : ∀ (n : Nat) (d e : D) (p q : PyData), Pu n d → Pu n e → DP h d p → DP h e q → (PyData.eqv p q = true ↔ d = e)
  | 0, _, _, _, _, q, _, _, _ => q.elim
  | n + 1, d, e, p, q, pd, pe, a, b => by
    cases d with
    | non =>
      cases a
      cases e with
      | non => cases b; simp [PyData.eqv]
      | int _ => cases b; simp [PyData.eqv]
      | tup _ => cases b; simp [PyData.eqv]
      | bl _ => exact pe.elim
      | str _ => exact pe.elim
      | rl _ => exact pe.elim
      | ref _ => exact pe.elim
    | int i =>
      cases a
      cases e with
      | non => cases b; simp [PyData.eqv]
      | int _ => cases b; simp [PyData.eqv]
      | tup _ => cases b; simp [PyData.eqv]
      | bl _ => exact pe.elim
      | str _ => exact pe.elim
      | rl _ => exact pe.elim
      | ref _ => exact pe.elim
    | tup ds =>
      cases a with | tup a =>
      cases e with
      | non => cases b; simp [PyData.eqv]
      | int _ => cases b; simp [PyData.eqv]
      | tup es =>
        cases b with | tup b =>
        rw [PyData.eqv, pu_eqvs (pu_eqv n) ds es _ _ pd pe a b, D.tup.injEq]
      | bl _ => exact pe.elim
      | str _ => exact pe.elim
      | rl _ => exact pe.elim
      | ref _ => exact pe.elim
    | bl _ => exact pd.elim
    | str _ => exact pd.elim
    | rl _ => exact pd.elim
    | ref _ => exact pd.elim
theorem shaped_of {p : PyData} {n : Nat} (l : p.canLay0 = true) (d : p.depth ≤ n) (hn : n ≤ 64) : SeqAt.shaped p = true := by
  unfold SeqAt.shaped
  rw [Bool.and_eq_true, decide_eq_true_eq]
  exact ⟨l, by omega⟩
section
variable {h : MH} {Q : MQ} {a b : Addr} {x y : D} {xs ys : List D}
theorem eqD_pu (px : Pu 9 x) (py : Pu 9 y) (q : ∀ b, (b = true ↔ x = y) → Q (.bl b) h) : rEqD x y h Q := by
  obtain ⟨p1, a1, a2, a3⟩ := pu_dp (h := h) 9 x px
  obtain ⟨p2, b1, b2, b3⟩ := pu_dp (h := h) 9 y py
  exact ⟨_, _, a1, b1, shaped_of a2 a3 (by decide), shaped_of b2 b3 (by decide), q _ (pu_eqv 9 x y _ _ px py a1 b1)⟩
theorem neD_pu (px : Pu 9 x) (py : Pu 9 y) (q : ∀ b, (b = true ↔ x ≠ y) → Q (.bl b) h) : rNeD x y h Q := by
  obtain ⟨p1, a1, a2, a3⟩ := pu_dp (h := h) 9 x px
  obtain ⟨p2, b1, b2, b3⟩ := pu_dp (h := h) 9 y py
  refine ⟨_, _, a1, b1, shaped_of a2 a3 (by decide), shaped_of b2 b3 (by decide), q _ ?_⟩
  rw [Bool.not_eq_true', ← Bool.not_eq_true, pu_eqv 9 x y _ _ px py a1 b1]
theorem dps_pu (px : ∀ x ∈ xs, Pu 9 x) : ∃ ps, DPs h xs ps ∧ SeqAt.shaped (.list ps) = true ∧ SeqAt.shaped (.tuple ps) = true := by
  obtain ⟨ps, b1, b2, b3⟩ := pu_dps (pu_dp (h := h) 9) xs px
  exact ⟨ps, b1, shaped_of (n := 10) (by rw [PyData.canLay0]; exact b2) (by rw [PyData.depth]; omega) (by decide), shaped_of (n := 10) (by rw [PyData.canLay0]; exact b2) (by rw [PyData.depth]; omega) (by decide)⟩
theorem eqD_pl (ea : h a = some (.lst xs)) (eb : h b = some (.lst ys)) (px : ∀ x ∈ xs, Pu 9 x) (py : ∀ x ∈ ys, Pu 9 x) (q : ∀ b, (b = true ↔ xs = ys) → Q (.bl b) h) : rEqD (.ref a) (.ref b) h Q := by
  obtain ⟨p1, a1, a2, _⟩ := dps_pu (h := h) px
  obtain ⟨p2, b1, b2, _⟩ := dps_pu (h := h) py
  refine ⟨_, _, .lst ea a1, .lst eb b1, a2, b2, q _ ?_⟩
  rw [PyData.eqv]
  exact pu_eqvs (pu_eqv 9) xs ys _ _ px py a1 b1
end
end M

namespace M
open PySem L2
/-! ### a constant tuple of the text -/
def gcTup {K : PySem.W.Frag} {mg : Str → Option Value} {x : Str} {T : Addr} {o : Obj} {its : Array Value} {n : Nat} {ds : List D} {vs : List V} (e : mg x = some (.ref T)) (lk : K.lookup T = some o) (hc : o.cls = .type "tuple") (hd : o.data = .seq its n) (hz : its.size ≤ sizeLine) (r : Vals vs its.toList) (rv : ∀ H, RVs K H ds vs) : Gc K mg x (.tup ds) :=
  ⟨.ref T, .ref T, e, rfl, fun H => rv_tup (.inr ⟨o, its, n, lk, hc, hd, hz, r⟩) (rv H)⟩
theorem rvs_nil {K : PySem.W.Frag} {H : Hp} : RVs K H [] [] := by simp only [RVs]
/-- a comprehension whose elements are new things -/
theorem lcR {env : ME} {e : MTE} {t : Tg} {S : MSrc} {h1 : MH} {Q : MQ} {vs : List Nat} (obj : Nat → MO) (ok : ∀ h', Fr [] h1 h' → S.ok h') (hz : S.n ≤ 100000)
    (turn : ∀ k h', k < S.n → Fr [] h1 h' → ∃ env2, asg t (S.item k) (mwipe env vs) = some env2 ∧ ∀ R : MQ, (∀ b h4, Fr [] h' h4 → h' b = none → h4 b = some (obj k) → R (.ref b) h4) → e env2 h' R)
    (fin : ∀ p h' (as : List Addr), Fr [] h1 h' → h1 p = none → h' p = some (.lst (as.map .ref)) → as.length = S.n → (∀ (n : Nat) (b : Addr), as[n]? = some b → h' b = some (obj n)) → Q (.ref p) h') : LcW S t mYes e vs env h1 Q := by
  intro p np
  refine ⟨fun k h' => Fr [] h1 h' ∧ ∃ as : List Addr, h' p = some (.lst (as.map .ref)) ∧ as.length = k ∧ ∀ (n : Nat) (b : Addr), as[n]? = some b → h' b = some (obj n) ∧ b ≠ p, ⟨.new np, [], up_same, rfl, by simp⟩, ?_⟩
  rintro k h' hk ⟨fr, as, ep, la, ha⟩
  refine ⟨ok h' fr, fun hl => ?_, fun e => fin p h' as fr np ep (la.trans e) fun n b hb => (ha n b hb).1⟩
  obtain ⟨env2, ea, ht⟩ := turn k h' hl fr
  refine ⟨env2, ea, ?_⟩
  show e env2 h' _
  refine ht _ fun b h4 f4 nb eb => ?_
  have e4 := f4.at0 ep
  have bp : b ≠ p := fun z => by rw [z, ep] at nb; cases nb
  refine ⟨_, e4, by rw [List.length_map, la, sizeLine_eq]; omega, ?_, as ++ [b], by rw [up_same, List.map_append]; rfl, by rw [List.length_append, la]; rfl, fun n c hc => ?_⟩
  · intro c o nc ec
    rw [up_ne (ne_of ec np)]
    exact f4.at0 (fr.at0 ec)
  · by_cases cn : n < k
    · rw [List.getElem?_append_left (by omega)] at hc
      obtain ⟨x1, x2⟩ := ha n c hc
      exact ⟨by rw [up_ne x2]; exact f4.at0 x1, x2⟩
    · rw [List.getElem?_append_right (by omega), la] at hc
      have e0 : n - k = 0 := by
        cases hz : n - k with
        | zero => rfl
        | succ m => rw [hz] at hc; simp at hc
      rw [e0] at hc
      simp at hc
      subst hc
      have : n = k := by omega
      subst this
      exact ⟨by rw [up_ne bp]; exact eb, bp⟩
theorem Fr.over {S : List Addr} {h h2 : MH} {p : Addr} {o : MO} (n : h p = none) (f : Fr S h h2) : Fr S h (up h2 p o) := fun b u nb e => by rw [up_ne (ne_of e n)]; exact f b u nb e
/-- displays of constants are constants -/
theorem tup2_C {a b : D} : mTup (mCons (mC a) (mCons (mC b) mNil)) = mC (.tup [a, b]) := by
  funext env h Q
  simp [mTup, mCons, mC, mNil, sizeLine_eq]
theorem tup3_C {a b c : D} : mTup (mCons (mC a) (mCons (mC b) (mCons (mC c) mNil))) = mC (.tup [a, b, c]) := by
  funext env h Q
  simp [mTup, mCons, mC, mNil, sizeLine_eq]
/-- a display of constants: the list -/
def mLC (ds : List D) : MTE := fun _ h Q => ∀ p, h p = none → Q (.ref p) (up h p (.lst ds))
theorem lst6_C {a b c d e f : D} : mLst (mCons (mC a) (mCons (mC b) (mCons (mC c) (mCons (mC d) (mCons (mC e) (mCons (mC f) mNil)))))) = mLC [a, b, c, d, e, f] := by
  funext env h Q
  simp [mLst, mCons, mC, mNil, sizeLine_eq, mLC]
theorem lstN_C : ∀ {ds : List D}, ds.length ≤ 100 → mLst (ds.foldr (fun d m => mCons (mC d) m) mNil) = mLC ds := by
  intro ds hl
  have key : ∀ (ds : List D) (env : ME) (h : MH) (Q : List D → MH → Prop), (ds.foldr (fun d m => mCons (mC d) m) mNil) env h Q = Q ds h := fun ds => by
    induction ds with
    | nil => intro env h Q; rfl
    | cons d ds ih =>
      intro env h Q
      show (ds.foldr (fun d m => mCons (mC d) m) mNil) env h (fun xs h2 => Q (d :: xs) h2) = _
      rw [ih]
  funext env h Q
  show (ds.foldr (fun d m => mCons (mC d) m) mNil) env h (fun xs h1 => xs.length ≤ sizeLine ∧ ∀ p, h1 p = none → Q (.ref p) (up h1 p (.lst xs))) = _
  rw [key]
  have : ds.length ≤ sizeLine := by rw [sizeLine_eq]; omega
  simp only [this, true_and]
  rfl
end M

namespace L2
open PySem PySem.Spec PyProof PyProof.Rows PySem.SeqAt PySem.W
/-! ### {(a, b): v}: a dict of one pair, its key a tuple -/
def tDisp1T (ta : TA) (tv : TE) : TE := fun σ H Q => ∀ p, H p = none → tTup ta σ (upd H p (.dT [])) fun x H1 => tv σ H1 fun y H2 =>
  ∃ (k : List Key) (q : Addr), x = .ref q ∧ H2 p = some (.dT []) ∧ H2 q = some (.tup (k.map kV)) ∧ Q (.ref p) (upd H2 p (.dT [(k, y)]))
theorem pe_disp1T {X : Cx} {pos p2 : Pos} {es : List Expr} {x1} {v : Expr} {ta : TA} {tv : TE} (hu : X.A.units + 64 < cLine) (ha : PA X es ta) (hv : PE X v tv) : PE X (.Dict [some (.Tuple es x1 p2)] [v] pos) (tDisp1T ta tv) := by
  refine ⟨fun pins s σ H Q I q => ?_⟩
  have hn := I.hok.fresh (Nat.le_refl s.heap.objs.size)
  have I1 := I.laid (a := s.heap.objs.size) (o := .dT []) (h' := s.heap.push { cls := .type "dict", data := .dict #[] }) (t' := s.toks) (fun _ _ q => Heap.get?_push_of_some _ q) (Nat.le_refl _) (dt_empty s.heap I.big)
  refine wpAny_Dict_any rfl rfl (by simp) (by simp) (thn ((pps_cons (pe_tup ha) hv pps_nil).run pins _ σ _ (fun ps H' => match ps with
    | [(x, y)] => ∃ (k : List Key) (q : Addr), x = .ref q ∧ H' s.heap.objs.size = some (.dT []) ∧ H' q = some (.tup (k.map kV)) ∧ Q (.ref s.heap.objs.size) (upd H' s.heap.objs.size (.dT [(k, y)]))
    | _ => False) I1 (q _ hn)) fun ws s2 ⟨ps, H2, I2, rel, q2⟩ => ?_)
  rcases ps with _ | ⟨⟨x, y⟩, _ | ⟨_, _⟩⟩
  · exact q2.elim
  · cases rel with
    | @cons _ b as bs h t =>
      cases t
      obtain ⟨k, c, ex, e, eb, q3⟩ := q2
      obtain ⟨u, w'⟩ := b
      obtain ⟨ru, rw'⟩ := h
      subst ex
      cases (show u = Value.ref c from ru)
      obtain ⟨z, hd, xs, rel, dd⟩ := dt_of I2.hok e
      cases rel
      unfold PySem.storeAll
      rw [List.forIn_cons]
      refine wpAny_bind (wpAny_bind (wpAny_dictSet_heap (hsz := Nat.zero_le _) (show X.A.units < cLine by omega) (key_of I2.hok eb) dd fun h' dd' hs => wpAny_pure ?_))
      show wpAny _ _ (forIn [] PUnit.unit _) _ _ _
      rw [List.forIn_nil]
      refine wpAny_pure ⟨.ref s.heap.objs.size, _, ?_, rfl, q3⟩
      obtain ⟨o, es', ep, hq, h2, h3, h4, _, h5⟩ := dd'
      refine d_write I2 (by rw [e]; exact True.intro) hs ⟨o, hq⟩ ⟨by show 1 ≤ sizeLine; decide, hd, _, (KT.put (kvs := []) (xs := []) .nil k eb rw').keeps fun c ys ec => ?_, o, es', ep, hq, h2, h3, h4, h5⟩
      rw [upd_ne (ne_of ec e (fun z => nomatch z))]
      exact ec
  · exact q2.elim
end L2
namespace M
open PySem L2
/-! ### dicts with keys of tuples -/
section
variable {κ : Type} [DecidableEq κ]
def dG (kvs : List (κ × D)) (k : κ) : Option D := (kvs.find? fun kv => decide (kv.1 = k)).map (·.2)
def dPutG (kvs : List (κ × D)) (k : κ) (v : D) : List (κ × D) :=
  if (kvs.any fun kv => decide (kv.1 = k)) = true then kvs.map (fun kv => if kv.1 = k then (kv.1, v) else kv) else kvs ++ [(k, v)]
variable {K : PySem.W.Frag} {H : Hp}
theorem rkvG_inv {p : κ × D} {kvs : List (κ × D)} {ws : List (κ × V)} (h : RKV K H (p :: kvs) ws) : ∃ v rs, ws = (p.1, v) :: rs ∧ RV K H p.2 v ∧ RKV K H kvs rs := by
  obtain ⟨h1, h2⟩ := h
  cases ws with
  | nil => cases h1
  | cons w rs =>
    rw [List.map_cons, List.map_cons] at h1
    injection h1 with a b
    rw [List.map_cons] at h2
    obtain ⟨v, r, e, q, t⟩ := h2.inv
    rw [List.map_cons] at e
    injection e with e1 e2
    subst e1 e2
    refine ⟨w.2, rs, ?_, q, b, t⟩
    rw [a]
theorem rkvG_nil {ws : List (κ × V)} (h : RKV K H ([] : List (κ × D)) ws) : ws = [] := by
  cases ws with
  | nil => rfl
  | cons _ _ => cases h.1
theorem rkvG_get {k : κ} : ∀ {kvs : List (κ × D)} {ws : List (κ × V)}, RKV K H kvs ws → (dG kvs k = none ∧ valV ws k = none) ∨ ∃ d v, dG kvs k = some d ∧ valV ws k = some v ∧ RV K H d v
  | [], ws, h => by rw [rkvG_nil h]; exact .inl ⟨rfl, rfl⟩
  | p :: kvs, _, h => by
    obtain ⟨v, rs, rfl, q, t⟩ := rkvG_inv h
    by_cases c : p.1 = k
    · exact .inr ⟨p.2, v, by simp [dG, List.find?_cons, c], by rw [valV_pos (p := (p.1, v)) c], q⟩
    · have e' : dG (p :: kvs) k = dG kvs k := by simp [dG, List.find?_cons, c]
      rw [e', valV_neg (p := (p.1, v)) c]
      exact rkvG_get t
theorem rkvG_any {k : κ} : ∀ {kvs : List (κ × D)} {ws : List (κ × V)}, RKV K H kvs ws → (kvs.any fun kv => decide (kv.1 = k)) = (ws.any fun kv => decide (kv.1 = k))
  | [], ws, h => by rw [rkvG_nil h]; rfl
  | p :: kvs, _, h => by
    obtain ⟨v, rs, rfl, q, t⟩ := rkvG_inv h
    rw [List.any_cons, List.any_cons, rkvG_any t]
theorem rkvG_map {k : κ} {d : D} {v : V} (r : RV K H d v) : ∀ {kvs : List (κ × D)} {ws : List (κ × V)}, RKV K H kvs ws → RKV K H (kvs.map fun kv => if kv.1 = k then (kv.1, d) else kv) (ws.map fun kv => if kv.1 = k then (kv.1, v) else kv)
  | [], ws, h => by rw [rkvG_nil h]; exact ⟨rfl, .nil⟩
  | p :: kvs, _, h => by
    obtain ⟨u, rs, rfl, q, t⟩ := rkvG_inv h
    have ih := rkvG_map (k := k) r t
    rw [List.map_cons, List.map_cons]
    by_cases c : p.1 = k
    · rw [if_pos c, if_pos (show (p.1, u).1 = k from c)]
      exact ⟨by rw [List.map_cons, List.map_cons, ih.1], by rw [List.map_cons, List.map_cons]; exact .cons r ih.2⟩
    · rw [if_neg c, if_neg (show ¬ (p.1, u).1 = k from c)]
      exact ⟨by rw [List.map_cons, List.map_cons, ih.1], by rw [List.map_cons, List.map_cons]; exact .cons q ih.2⟩
theorem rkvG_put {k : κ} {d : D} {v : V} {kvs : List (κ × D)} {ws : List (κ × V)} (h : RKV K H kvs ws) (r : RV K H d v) : RKV K H (dPutG kvs k d) (putK ws k v) := by
  unfold dPutG putK
  rw [rkvG_any h]
  split
  · exact rkvG_map r h
  · exact ⟨by rw [List.map_append, List.map_append, h.1]; rfl, by rw [List.map_append, List.map_append]; exact h.2.append (.cons r .nil)⟩
theorem rkvG_len {kvs : List (κ × D)} {ws : List (κ × V)} (h : RKV K H kvs ws) : kvs.length = ws.length := by
  have := congrArg List.length h.1
  rwa [List.length_map, List.length_map] at this
end
def keyT (k : List Key) : D := .tup (k.map keyD)
section
variable {K : PySem.W.Frag} {H : Hp}
theorem rvs_keys : ∀ {ks : List Key} {vs : List V}, RVs K H (ks.map keyD) vs → vs = ks.map kV
  | [], vs, h => by simpa only [List.map_nil, RVs] using h
  | k :: ks, vs, h => by
    rw [List.map_cons] at h
    obtain ⟨v, r, rfl, q, t⟩ := h.inv
    rw [keyD_rv q, rvs_keys t]; rfl
theorem rv_key {k : Key} : RV K H (keyD k) (kV k) := by
  cases k with
  | inl i => exact rv_int
  | inr x => exact rv_str
theorem rvs_keys' : ∀ {ks : List Key}, RVs K H (ks.map keyD) (ks.map kV)
  | [] => .nil
  | k :: ks => .cons rv_key rvs_keys'
end
/-- the dict at a, locked or not -/
def isT (h : MH) (a : Addr) (kvs : List (List Key × D)) : Prop := h a = some (.dT kvs) ∨ ∃ ws od, h a = some (.fT kvs ws od)
theorem HR.rdT {K : PySem.W.Frag} {h : MH} {H : Hp} (r : HR K h H) {a : Addr} {kvs : List (List Key × D)} (e : isT h a kvs) : ∃ ws, Rd H a (.dT ws) ∧ RKV K H kvs ws := by
  rcases e with e | ⟨ws, od, e⟩
  · obtain ⟨ws, E, q⟩ := r.dT e; exact ⟨ws, .inl E, q⟩
  · obtain ⟨E, q⟩ := r.fT e; exact ⟨ws, .inr ⟨od, E⟩, q⟩
theorem rd_upd {H : Hp} {a p : Addr} {u : HO} {o : HO} (r : Rd H a u) (n : H p = none) : Rd (upd H p o) a u := by
  rcases r with e | ⟨od, e⟩
  · exact .inl (by rw [upd_ne (L2.ne_of_none e n)]; exact e)
  · exact .inr ⟨od, by rw [upd_ne (L2.ne_of_none e n)]; exact e⟩
/-- d[(e1, ..)] -/
def mDGetT (o : MTE) (ts : MTA) : MTE := fun env h Q => o env h fun x h1 => ts env h1 fun ds h2 => ds.length ≤ 16 ∧ ∃ a kvs k d, x = .ref a ∧ isT h2 a kvs ∧ ds = List.map keyD k ∧ dG kvs k = some d ∧ Q d h2
/-- d.get((e1, ..), f) -/
def mDGet2T (o : MTE) (ts : MTA) (f : MTE) : MTE := fun env h Q => o env h fun x h1 => ∃ a, x = .ref a ∧ (∃ kvs, isT h1 a kvs) ∧ ts env h1 fun ds h2 => ds.length ≤ 16 ∧ f env h2 fun z h3 => ∃ kvs k, isT h3 a kvs ∧ ds = List.map keyD k ∧ Q ((dG kvs k).getD z) h3
/-- d[(e1, ..)] = e -/
def mPutDT (e o : MTE) (ts : MTA) : MTS := fun D' env h => e env h fun d h1 => o env h1 fun x h2 => ts env h2 fun ds h3 => ds.length ≤ 16 ∧ ∃ a kvs k, x = .ref a ∧ h3 a = some (.dT kvs) ∧ ds = List.map keyD k ∧ kvs.length < sizeLine ∧ D'.nx env (up h3 a (.dT (dPutG kvs k d)))
/-- {}, {(e1, ..): f} -/
def mDisp0T : MTE := fun _ h Q => ∀ p, h p = none → Q (.ref p) (up h p (.dT []))
def mDisp1T (ts : MTA) (f : MTE) : MTE := fun env h Q => ∀ p, h p = none → ts env (up h p (.dT [])) fun ds h1 => ds.length ≤ 16 ∧ f env h1 fun d h2 => ∃ k, ds = List.map keyD k ∧ h2 p = some (.dT []) ∧ Q (.ref p) (up h2 p (.dT [(k, d)]))
section
variable {X : Cx} {Hb : Hp} {o e f : Expr} {es : List Expr} {mo me mf : MTE} {ms : MTA} {pos pos' p2 apos cpos : Pos} {x1 : Nat}
theorem le16 {n : Nat} (h : n ≤ 16) : n ≤ sizeLine := by rw [sizeLine_eq]; omega
theorem ie_dgetT {y1} (hu : X.A.units + 64 < cLine) (ho : IE X Hb o mo) (hi : IA X Hb es ms) (hs : NoSl (.Tuple es y1 p2)) : IE X Hb (.Subscript o (.Tuple es y1 p2) pos) (mDGetT mo ms) := by
  refine pe_w (pe_dget (by omega) ho (pe_tup hi) hs) fun σ H Q ⟨env, h, Q0, re, rh, m, f⟩ => ?_
  refine ⟨env, h, _, re, rh, m, fun x h1 q1 vx H1 t1 r1 rx => ?_⟩
  refine ⟨env, h1, _, re.mono t1, r1, q1, fun ds h2 q vs H2 t2 r2 rs => ?_⟩
  obtain ⟨l16, a, kvs, k, d, rfl, e, rfl, ed, q⟩ := q
  have ev := rvs_keys rs
  subst ev
  refine ⟨by rw [List.length_map] at *; exact le16 l16, fun p np => ?_⟩
  obtain ⟨ws, E, rk⟩ := r2.rdT e
  rcases rkvG_get (k := k) rk with ⟨c, _⟩ | ⟨d', v, c, ev, rv⟩
  · rw [c] at ed; cases ed
  · rw [c] at ed; cases ed
    have t3 : TL H2 (upd H2 p (.tup (k.map kV))) := .new np
    refine ⟨a, v, (rx.mono t2).ref, .inr ⟨ws, k, p, rd_upd E np, rfl, upd_same, ev.symm⟩, f _ h2 q v _ (t1.trans (t2.trans t3)) (r2.skip np) (rv.mono t3)⟩
theorem ie_dget2T {y1} (hu : X.A.units + 64 < cLine) (ho : IE X Hb o mo) (hi : IA X Hb es ms) (hf : IE X Hb f mf) (m2 : M2 X o "get" apos (.Tuple es y1 p2) f cpos) : IE X Hb (.Call (.Attribute o "get" apos) [.Tuple es y1 p2, f] [] cpos) (mDGet2T mo ms mf) := by
  refine pe_w (pe_dget2 (by omega) ho (pe_tup hi) hf m2) fun σ H Q ⟨env, h, Q0, re, rh, m, f⟩ => ?_
  refine ⟨env, h, _, re, rh, m, fun x h1 q1 vx H1 t1 r1 rx => ?_⟩
  obtain ⟨a, rfl, ⟨kvs0, e0⟩, q1⟩ := q1
  obtain ⟨ws0, E0, _⟩ := r1.rdT e0
  refine ⟨a, rx.ref, .inr ⟨ws0, E0⟩, env, h1, _, re.mono t1, r1, q1, fun ds h2 q vs H2 t2 r2 rs => ?_⟩
  obtain ⟨l16, q⟩ := q
  refine ⟨by rw [← rs.length]; exact le16 l16, fun p np => ?_⟩
  have t3 : TL H2 (upd H2 p (.tup vs)) := .new np
  refine ⟨env, h2, _, (re.mono t1).mono (t2.trans t3), r2.skip np, q, fun z h3 q3 vz H3 t4 r4 rz => ?_⟩
  obtain ⟨kvs, k, e, rfl, q9⟩ := q3
  have ev := rvs_keys rs
  subst ev
  obtain ⟨ws, E, rk⟩ := r4.rdT e
  have eb : H3 p = some (.tup (k.map kV)) := t4.1 _ _ upd_same
  have tt := t1.trans (t2.trans (t3.trans t4))
  rcases rkvG_get (k := k) rk with ⟨c, ev⟩ | ⟨d', v, c, ev, rv⟩
  · refine ⟨none, .inr ⟨ws, k, p, E, rfl, eb, ev.symm⟩, f _ h3 q9 _ H3 tt r4 ?_⟩
    rw [c]; exact rz
  · refine ⟨some v, .inr ⟨ws, k, p, E, rfl, eb, ev.symm⟩, f _ h3 q9 _ H3 tt r4 ?_⟩
    rw [c]; exact rv
theorem is_dputT {y1} (hu : X.A.units + 64 < cLine) (he : IE X Hb e me) (ho : IE X Hb o mo) (hi : IA X Hb es ms) (hs : swapsWith e (some (.Subscript o (.Tuple es y1 p2) pos')) pos.line X.env = pure false := by rfl) : IS X Hb (.Assign [.Subscript o (.Tuple es y1 p2) pos'] e pos) (mPutDT me mo ms) := by
  refine is_of (ps_dput (by omega) ho (pe_tup hi) he hs) fun D' σ H env h D0 re rh m f => ?_
  refine ⟨env, h, _, re, rh, m, fun d h1 q1 v H1 t1 r1 rv => ?_⟩
  refine ⟨env, h1, _, re.mono t1, r1, q1, fun x h2 q2 vx H2 t2 r2 rx => ?_⟩
  refine ⟨env, h2, _, (re.mono t1).mono t2, r2, q2, fun ds h3 q3 vs H3 t3 r3 rs => ?_⟩
  obtain ⟨l16, a, kvs, k, rfl, ea, rfl, lk, q⟩ := q3
  have ev := rvs_keys rs
  subst ev
  refine ⟨by rw [List.length_map] at *; exact le16 l16, fun p np => ?_⟩
  obtain ⟨ws, E, rk⟩ := r3.dT ea
  have t4 : TL H3 (upd H3 p (.tup (k.map kV))) := .new np
  have E4 : (upd H3 p (.tup (k.map kV))) a = some (.dT ws) := by rw [upd_ne (L2.ne_of_none E np)]; exact E
  have rv4 := rv.mono (t2.trans (t3.trans t4))
  have t5 : TL (upd H3 p (.tup (k.map kV))) (upd (upd H3 p (.tup (k.map kV))) a (.dT (putK ws k v))) := .put E4 (fun _ z => by cases z) (fun _ _ z => by cases z)
  have tt := t1.trans (t2.trans (t3.trans (t4.trans t5)))
  exact ⟨a, _, (rx.mono t3).ref, DPut.t E4 upd_same (by rw [← rkvG_len rk]; exact lk), f.nx env _ q σ _ tt (re.mono tt) ((r3.skip np).put t5 ⟨_, rfl, (rkvG_put (rk.mono t4) rv4).mono t5⟩)⟩
theorem ie_disp0T : IE X Hb (.Dict [] [] pos) mDisp0T := by
  refine pe_w pe_dnewT fun σ H Q ⟨env, h, Q0, re, rh, m, f⟩ => fun p np => ?_
  exact f _ _ (m p (rh.free np)) _ _ (.new np) (rh.new np ⟨[], rfl, rfl, .nil⟩) rv_ref
theorem ie_disp1T {y1} (hu : X.A.units + 64 < cLine) (hi : IA X Hb es ms) (hf : IE X Hb f mf) : IE X Hb (.Dict [some (.Tuple es y1 p2)] [f] pos) (mDisp1T ms mf) := by
  refine pe_w (pe_disp1T hu hi hf) fun σ H Q ⟨env, h, Q0, re, rh, m, f⟩ => fun p np => ?_
  have t0 : TL H (upd H p (.dT [])) := .new np
  refine ⟨env, _, _, re.mono t0, rh.new (m := .dT []) np ⟨[], rfl, rfl, .nil⟩, m p (rh.free np), fun ds h1 q vs H1 t1 r1 rs => ?_⟩
  obtain ⟨l16, q⟩ := q
  refine ⟨by rw [← rs.length]; exact le16 l16, fun b nb => ?_⟩
  have t2 : TL H1 (upd H1 b (.tup vs)) := .new nb
  refine ⟨env, h1, _, re.mono (t0.trans (t1.trans t2)), r1.skip nb, q, fun d h2 q2 v H2 t3 r3 rv => ?_⟩
  obtain ⟨k, rfl, ep, q⟩ := q2
  have ev := rvs_keys rs
  subst ev
  obtain ⟨ws, E, rk⟩ := r3.dT ep
  have := rkvG_nil rk
  subst this
  have eb : H2 b = some (.tup (k.map kV)) := t3.1 _ _ upd_same
  have t4 : TL H2 (upd H2 p (.dT [(k, v)])) := .put E (fun _ z => by cases z) (fun _ _ z => by cases z)
  refine ⟨k, b, rfl, E, eb, f _ _ q _ _ (t0.trans (t1.trans (t2.trans (t3.trans t4)))) (r3.put t4 ⟨[(k, v)], rfl, rfl, ?_⟩) rv_ref⟩
  exact .cons (rv.mono t4) .nil
end
/-! ### for .. in d, d locked meanwhile -/
def srcT (d : Addr) (kvs : List (List Key × D)) (ws : List (List Key × V)) (od : Obj) : MSrc := ⟨kvs.length, fun i => match kvs[i]? with
  | some kv => keyT kv.1
  | none => .non, fun h' => h' d = some (.fT kvs ws od)⟩
def mKeysF (n : Nat) : MTI := fun env h R => ∃ d kvs ws od, env[n]? = some (some (.ref d)) ∧ h d = some (.fT kvs ws od) ∧ R (srcT d kvs ws od) h
def mLockT (n : Nat) (m : MTS) : MTS := fun D' env h => ∃ d kvs, env[n]? = some (some (.ref d)) ∧ h d = some (.dT kvs) ∧ ∀ ws od,
  m ⟨fun env' h' => h' d = some (.fT kvs ws od) ∧ D'.nx env' (up h' d (.dT kvs)), fun v h' => h' d = some (.fT kvs ws od) ∧ D'.rt v (up h' d (.dT kvs)), fun env' h' => h' d = some (.fT kvs ws od) ∧ D'.bk env' (up h' d (.dT kvs)), fun env' h' => h' d = some (.fT kvs ws od) ∧ D'.ct env' (up h' d (.dT kvs))⟩ env (up h d (.fT kvs ws od))
section
variable {X : Cx} {Hb : Hp} {tg e : Expr} {n : Nat} {st : Stmt} {m : MTS}
theorem so_T {K : PySem.W.Frag} {H : Hp} {d : Addr} {kvs : List (List Key × D)} {ws : List (List Key × V)} {od : Obj} (rk : RKV K H kvs ws) : SrcOk K H (srcT d kvs ws od) (Itkt d od ws) where
  go := fun i h H' t r ok hi => ⟨(r.fT ok).1, by rw [← rkvG_len (r.fT ok).2]; exact hi⟩
  stop := fun h H' t r ok => ⟨(r.fT ok).1, by rw [← rkvG_len (r.fT ok).2]; exact Nat.le_refl _⟩
  yld := fun i h H' t r ok hi x H2 y => by
    obtain ⟨rfl, k, v, q, e1, rfl, e2⟩ := y
    refine ⟨.refl _, r, ?_⟩
    have hk : (kvs.map (·.1))[i]? = some k := by rw [rk.1, List.getElem?_map, e1]; rfl
    rw [List.getElem?_map] at hk
    obtain ⟨kv, e3, e4⟩ := Option.map_eq_some_iff.mp hk
    show RV K _ (match kvs[i]? with
      | some kv => keyT kv.1
      | none => .non) _
    rw [e3]
    show RV K _ (keyT kv.1) _
    rw [e4]
    exact rv_tup (.of e2) rvs_keys'
theorem ii_keysF (he : IE X Hb e (mVar n)) : II X Hb tg e (mKeysF n) := by
  refine pi_w (pi_keys he) fun σ H R ⟨env, h, Q0, re, rh, ⟨d, kvs, ws, od, en, ed, m⟩, f⟩ => ?_
  refine ⟨env, h, fun x h' => x = .ref d ∧ h' = h, re, rh, ⟨_, en, rfl, rfl⟩, ?_⟩
  rintro _ _ ⟨rfl, rfl⟩ v H1 t1 r1 rx
  obtain ⟨E, rk⟩ := r1.fT ed
  exact ⟨d, od, rx.ref, .inr ⟨ws, E, f _ _ m _ H1 t1 r1 (so_T rk)⟩⟩
theorem is_lockT (hs : IS X Hb st m) : IS X Hb st (mLockT n m) := by
  refine is_of (ps_lock hs) fun D' σ H env h D0 re rh ⟨d, kvs, en, ed, mm⟩ f => ?_
  obtain ⟨ws, E, rk⟩ := rh.dT ed
  refine ⟨d, .dT ws, E, True.intro, fun od => ?_⟩
  have t1 : TL H (upd H d (.frz od (.dT ws))) := .lock E
  refine liftS_iff.mpr ⟨env, _, _, re.mono t1, rh.put (m := .fT kvs ws od) t1 ⟨rfl, rk.mono t1⟩, mm ws od, ?_, ?_, ?_, ?_⟩
  · rintro env' h' ⟨e', q⟩ σ' H' t re' rh'
    obtain ⟨E', rk'⟩ := rh'.fT e'
    have t2 : TL H' (upd H' d (.dT ws)) := .unlock E'
    exact ⟨E', f.nx env' _ q σ' _ (t1.trans (t.trans t2)) (re'.mono t2) (rh'.put t2 ⟨ws, rfl, rk'.mono t2⟩)⟩
  · rintro v h' ⟨e', q⟩ v' H' t rv' rh'
    obtain ⟨E', rk'⟩ := rh'.fT e'
    have t2 : TL H' (upd H' d (.dT ws)) := .unlock E'
    exact ⟨E', f.rt v _ q v' _ (t1.trans (t.trans t2)) (rv'.mono t2) (rh'.put t2 ⟨ws, rfl, rk'.mono t2⟩)⟩
  · rintro env' h' ⟨e', q⟩ σ' H' t re' rh'
    obtain ⟨E', rk'⟩ := rh'.fT e'
    have t2 : TL H' (upd H' d (.dT ws)) := .unlock E'
    exact ⟨E', f.bk env' _ q σ' _ (t1.trans (t.trans t2)) (re'.mono t2) (rh'.put t2 ⟨ws, rfl, rk'.mono t2⟩)⟩
  · rintro env' h' ⟨e', q⟩ σ' H' t re' rh'
    obtain ⟨E', rk'⟩ := rh'.fT e'
    have t2 : TL H' (upd H' d (.dT ws)) := .unlock E'
    exact ⟨E', f.ct env' _ q σ' _ (t1.trans (t.trans t2)) (re'.mono t2) (rh'.put t2 ⟨ws, rfl, rk'.mono t2⟩)⟩
end
section
variable {D' : MEnds} {env : ME} {h : MH} {e o : MTE} {ts : MTA} {n : Nat} {m : MTS}
theorem putDT_ (q : e env h fun d h1 => o env h1 fun x h2 => ts env h2 fun ds h3 => ds.length ≤ 16 ∧ ∃ a kvs k, x = .ref a ∧ h3 a = some (.dT kvs) ∧ ds = List.map keyD k ∧ kvs.length < sizeLine ∧ D'.nx env (up h3 a (.dT (dPutG kvs k d)))) : mPutDT e o ts D' env h := q
theorem lockT_ (q : ∃ d kvs, env[n]? = some (some (.ref d)) ∧ h d = some (.dT kvs) ∧ ∀ ws od,
  m ⟨fun env' h' => h' d = some (.fT kvs ws od) ∧ D'.nx env' (up h' d (.dT kvs)), fun v h' => h' d = some (.fT kvs ws od) ∧ D'.rt v (up h' d (.dT kvs)), fun env' h' => h' d = some (.fT kvs ws od) ∧ D'.bk env' (up h' d (.dT kvs)), fun env' h' => h' d = some (.fT kvs ws od) ∧ D'.ct env' (up h' d (.dT kvs))⟩ env (up h d (.fT kvs ws od))) : mLockT n m D' env h := q
end
end M

namespace M
open PySem PySem.Spec PyProof.Rows L2
/-! ### list(zip(a, b)) of two lists -/
abbrev ZipO (h : Heap) (z TI TO : Addr) (f0 : Value) (f : Bool) : Prop :=
  h.get? z = some { cls := .type "zip", dict := none, data := .fields #[f0, .bool f, .bool false, .ref TI, .ref TO], slots := #[] }
section
variable {prog : Program} {w : World} {A : Around} {E : Value → Shared → Prop} {s : Shared}
theorem wp_setflag {z TI TO : Addr} {f0 : Value} {f : Bool} {Q : Bool → Shared → Prop} (hz : ZipO s.heap z TI TO f0 f) (h : ∀ h₃, ZipO h₃ z TI TO f0 true → Heap.SameBut z s.heap h₃ → Q false { s with heap := h₃ }) :
    wpAny (model prog w) A (if (Value.bool f != Value.bool true) = true then do
      setField (Value.ref z) 1 (Value.bool true)
      pure false
    else pure false) Q E s := by
  cases f with
  | true =>
    rw [if_neg (show ¬ ((Value.bool true != Value.bool true) = true) from Bool.false_ne_true)]
    exact wpAny_pure (h s.heap hz (Heap.SameBut.refl _ _))
  | false =>
    rw [if_pos (show (Value.bool false != Value.bool true) = true from rfl)]
    exact wpAny_bind (wpAny_setField_rec hz (by simp) fun h₃ he₃ hs₃ => wpAny_pure (h h₃ he₃ hs₃))
theorem zip_own_item {z TI TO i1 i2 l1 l2 a : Addr} {f : Bool} {oa : Obj} {k1 k2 : Nat} {xs ys : Array Value} {x y : Value} {Q : Value → Shared → Prop} (D : ZipApart z TI TO i1 i2 l1 l2)
    (hz : ZipO s.heap z TI TO (rawInt a) f) (ha : s.heap.get? a = some oa) (hTI : IsPair s.heap TI (.ref i1) (.ref i2))
    (h1 : s.heap.IsListIter i1 l1 k1) (h2 : s.heap.IsListIter i2 l2 k2) (hl1 : s.heap.IsList l1 xs) (hl2 : s.heap.IsList l2 ys) (hx : xs[k1]? = some x) (hy : ys[k2]? = some y)
    (hQ : ∀ h', ZipO h' z TI TO (rawInt a) true → h'.IsListIter i1 l1 (k1 + 1) → h'.IsListIter i2 l2 (k2 + 1) → IsPair h' s.heap.objs.size x y → h'.objs.size = s.heap.objs.size + 1 →
      (∀ c o, c ≠ z → c ≠ i1 → c ≠ i2 → s.heap.get? c = some o → h'.get? c = some o) → Q (.ref s.heap.objs.size) { s with heap := h' }) :
    wpAny (model prog w) A (Builtin.«zip.__next__» ⟨[.ref z], []⟩) (fun fin s' => ∃ v, fin = .done (.ret v) ∧ Q v s') E s := by
  show wpAny _ _ (field (.ref z) 2 >>= _) _ _ _
  refine wpAny_bind (wpAny_field hz rfl (x := .bool false) rfl ?_)
  show wpAny _ _ (field (.ref z) 3 >>= _) _ _ _
  refine wpAny_bind (wpAny_field hz rfl (x := .ref TI) rfl ?_)
  refine wpAny_bind (wpAny_seqItems hTI rfl ?_)
  show wpAny _ _ (Builtin.SmallTypes.ownedTupleIsFree (.ref z) >>= _) _ _ _
  refine wpAny_bind ?_
  unfold Builtin.SmallTypes.ownedTupleIsFree
  refine wpAny_bind (wpAny_field hz rfl (x := rawInt a) rfl ?_)
  show wpAny _ _ (loadIfAlive ((a : Int).toNat) >>= _) _ _ _
  rw [Int.toNat_natCast]
  refine wpAny_bind (PySem.W.kdx_alive ha ?_)
  simp only [Option.isNone_some, Bool.false_eq_true, if_false]
  refine wpAny_bind (wpAny_field hz rfl (x := .bool f) rfl ?_)
  refine wp_setflag hz fun h₃ hz₃ hs₃ => ?_
  simp only [Bool.false_eq_true, if_false]
  refine wpAny_bind ?_
  first
  | rw [List.forIn_toArray]
  | (rw [← Array.forIn_toList]; simp only [List.toList_toArray])
  | rw [← Array.forIn_toList]
  simp only [List.forIn_cons, List.forIn_nil]
  refine wpAny_bind (wpAny_bind (wpAny_holding ?_))
  show wpAny _ _ (do let x ← Builtin.SmallTypes.nextOf (.ref i1); pure (some x)) _ _ _
  refine wpAny_bind (wpAny_nextOf_list_item (h1.extBut hs₃.extBut D.i1z) (hl1.extBut hs₃.extBut D.l1z) hx fun h₄ h1₄ hs₄ => wpAny_pure ?_)
  dsimp only
  refine wpAny_pure ?_
  dsimp only
  refine wpAny_bind (wpAny_bind (wpAny_holding ?_))
  show wpAny _ _ (do let x ← Builtin.SmallTypes.nextOf (.ref i2); pure (some x)) _ _ _
  refine wpAny_bind (wpAny_nextOf_list_item ((h2.extBut hs₃.extBut D.i2z).extBut hs₄.extBut D.i12.symm) ((hl2.extBut hs₃.extBut D.l2z).extBut hs₄.extBut D.l2i1) hy fun h₅ h2₅ hs₅ => wpAny_pure ?_)
  dsimp only
  refine wpAny_pure ?_
  dsimp only
  refine wpAny_pure ?_
  dsimp only
  refine wpAny_bind (wpAny_newTuple ?_ (by show 2 ≤ sizeLine; decide))
  have hsz : h₅.objs.size = s.heap.objs.size := by rw [hs₅.1, hs₄.1, hs₃.1]
  have kp : ∀ c o, c ≠ z → c ≠ i1 → c ≠ i2 → s.heap.get? c = some o → (h₅.push { cls := .type "tuple", data := .seq #[x, y] }).get? c = some o := fun c o c1 c2 c3 e =>
    Heap.get?_push_of_some _ (hs₅.extBut _ _ c3 (hs₄.extBut _ _ c2 (hs₃.extBut _ _ c1 e)))
  refine wpAny_pure ⟨_, rfl, ?_⟩
  show Q (.ref h₅.objs.size) _
  have hq := hQ (h₅.push { cls := .type "tuple", data := .seq #[x, y] }) (Heap.get?_push_of_some _ (hs₅.extBut _ _ D.i2z.symm (hs₄.extBut _ _ D.i1z.symm hz₃)))
    ((h1₄.extBut hs₅.extBut D.i12).at fun o e => Heap.get?_push_of_some _ e) (h2₅.at fun o e => Heap.get?_push_of_some _ e) (by rw [← hsz]; exact Heap.get?_push_size _ rfl) (by rw [Heap.size_push, hsz]) kp
  rw [hsz]
  exact hq
theorem zip_own_end {z TI TO i1 i2 l1 l2 a : Addr} {f : Bool} {oa : Obj} {k1 k2 : Nat} {xs ys : Array Value} {Q : PySem.Fin → Shared → Prop} (hh : A.handled = none) (D : ZipApart z TI TO i1 i2 l1 l2)
    (hz : ZipO s.heap z TI TO (rawInt a) f) (ha : s.heap.get? a = some oa) (hTI : IsPair s.heap TI (.ref i1) (.ref i2))
    (h1 : s.heap.IsListIter i1 l1 k1) (h2 : s.heap.IsListIter i2 l2 k2) (hl1 : s.heap.IsList l1 xs) (hl2 : s.heap.IsList l2 ys) (hend : xs[k1]? = none ∨ ys[k2]? = none)
    (hE : ∀ h' e, (∀ c o, c ≠ z → c ≠ i1 → c ≠ i2 → s.heap.get? c = some o → h'.get? c = some o) → (∃ o, h'.get? e = some o ∧ o.cls = .type "StopIteration") → E (.ref e) { s with heap := h' }) :
    wpAny (model prog w) A (Builtin.«zip.__next__» ⟨[.ref z], []⟩) Q E s := by
  show wpAny _ _ (field (.ref z) 2 >>= _) _ _ _
  refine wpAny_bind (wpAny_field hz rfl (x := .bool false) rfl ?_)
  show wpAny _ _ (field (.ref z) 3 >>= _) _ _ _
  refine wpAny_bind (wpAny_field hz rfl (x := .ref TI) rfl ?_)
  refine wpAny_bind (wpAny_seqItems hTI rfl ?_)
  show wpAny _ _ (Builtin.SmallTypes.ownedTupleIsFree (.ref z) >>= _) _ _ _
  refine wpAny_bind ?_
  unfold Builtin.SmallTypes.ownedTupleIsFree
  refine wpAny_bind (wpAny_field hz rfl (x := rawInt a) rfl ?_)
  show wpAny _ _ (loadIfAlive ((a : Int).toNat) >>= _) _ _ _
  rw [Int.toNat_natCast]
  refine wpAny_bind (PySem.W.kdx_alive ha ?_)
  simp only [Option.isNone_some, Bool.false_eq_true, if_false]
  refine wpAny_bind (wpAny_field hz rfl (x := .bool f) rfl ?_)
  refine wp_setflag hz fun h₃ hz₃ hs₃ => ?_
  simp only [Bool.false_eq_true, if_false]
  refine wpAny_bind ?_
  first
  | rw [List.forIn_toArray]
  | (rw [← Array.forIn_toList]; simp only [List.toList_toArray])
  | rw [← Array.forIn_toList]
  simp only [List.forIn_cons, List.forIn_nil]
  refine wpAny_bind (wpAny_bind (wpAny_holding ?_))
  show wpAny _ _ (do let x ← Builtin.SmallTypes.nextOf (.ref i1); pure (some x)) _ _ _
  cases hx : xs[k1]? with
  | none =>
    refine wpAny_bind (wpAny_nextOf_list_end hh (h1.extBut hs₃.extBut D.i1z) (hl1.extBut hs₃.extBut D.l1z) hx fun h₄ e hs₄ he => ?_)
    exact hE h₄ e (fun c o c1 c2 _ x => hs₄ _ _ c2 (hs₃.extBut _ _ c1 x)) he
  | some x =>
    have hy : ys[k2]? = none := by rcases hend with h | h; rw [hx] at h; cases h; exact h
    refine wpAny_bind (wpAny_nextOf_list_item (h1.extBut hs₃.extBut D.i1z) (hl1.extBut hs₃.extBut D.l1z) hx fun h₄ h1₄ hs₄ => wpAny_pure ?_)
    dsimp only
    refine wpAny_pure ?_
    dsimp only
    refine wpAny_bind (wpAny_bind (wpAny_holding ?_))
    show wpAny _ _ (do let x ← Builtin.SmallTypes.nextOf (.ref i2); pure (some x)) _ _ _
    refine wpAny_bind (wpAny_nextOf_list_end hh ((h2.extBut hs₃.extBut D.i2z).extBut hs₄.extBut D.i12.symm) ((hl2.extBut hs₃.extBut D.l2z).extBut hs₄.extBut D.l2i1) hy fun h₅ e hs₅ he => ?_)
    exact hE h₅ e (fun c o c1 c2 c3 x => hs₅ _ _ c3 (hs₄.extBut _ _ c2 (hs₃.extBut _ _ c1 x))) he
/-- zip's state as it is gone through: nothing handed out yet, or a pair that still stands -/
def ZipSt (h : Heap) (z TI TO i1 i2 l1 l2 S : Addr) (i : Nat) : Prop :=
  ((i = 0 ∧ IsZip h z TI TO .none ∧ ∃ p q, IsPair h TO p q) ∨ ∃ (a : Addr) (f : Bool) (oa : Obj), ZipO h z TI TO (rawInt a) f ∧ h.get? a = some oa ∧ a ≠ z ∧ a ≠ TO ∧ a ≠ i1 ∧ a ≠ i2 ∧ a ≠ S) ∧
  IsPair h TI (.ref i1) (.ref i2) ∧ h.IsListIter i1 l1 i ∧ h.IsListIter i2 l2 i
theorem zip_item {z TI TO i1 i2 l1 l2 S : Addr} {i : Nat} {xs ys : Array Value} {x y : Value} {Q : Option Value → Shared → Prop} (D : ZipApart z TI TO i1 i2 l1 l2)
    (hst : ZipSt s.heap z TI TO i1 i2 l1 l2 S i) (hS : S < s.heap.objs.size) (hl1 : s.heap.IsList l1 xs) (hl2 : s.heap.IsList l2 ys) (hx : xs[i]? = some x) (hy : ys[i]? = some y)
    (hQ : ∀ h', ZipSt h' z TI TO i1 i2 l1 l2 S (i + 1) → IsPair h' s.heap.objs.size x y → h'.objs.size = s.heap.objs.size + 1 →
      (∀ c o, c ≠ z → c ≠ TO → c ≠ i1 → c ≠ i2 → s.heap.get? c = some o → h'.get? c = some o) → Q (some (.ref s.heap.objs.size)) { s with heap := h' }) :
    wpAny (model prog w) A (pyNext (.ref z)) Q E s := by
  obtain ⟨hd, hTI, h1, h2⟩ := hst
  have l1' : i1 < s.heap.objs.size := by obtain ⟨_, e, _⟩ := h1; exact Heap.lt_size e
  have l2' : i2 < s.heap.objs.size := by obtain ⟨_, e, _⟩ := h2; exact Heap.lt_size e
  rcases hd with ⟨rfl, hz, p, q, hTO⟩ | ⟨a, f, oa, hz, ha, a1, a2, a3, a4, a5⟩
  · refine wpAny_pyNext_zip_item D hz hTI hTO h1 h2 hl1 hl2 hx hy fun h' z' TO' h1' h2' hT hsz hk => hQ h' ⟨.inr ⟨s.heap.objs.size, false, { cls := .type "tuple", data := .seq #[x, y] }, z', hT, ?_, ?_, ?_, ?_, ?_⟩, ?_, h1', h2'⟩ hT hsz hk
    · exact Nat.ne_of_gt (Heap.lt_size hz)
    · exact Nat.ne_of_gt (Heap.lt_size hTO)
    · exact Nat.ne_of_gt l1'
    · exact Nat.ne_of_gt l2'
    · exact Nat.ne_of_gt hS
    · exact hk _ _ D.TIz D.TITO D.TIi1 D.TIi2 hTI
  · have hT : s.TypeIs (.ref z) "zip" := ⟨_, hz, rfl⟩
    unfold pyNext
    refine wpAny_bind (wpAny_attempt (wpAny_callSpecial?_slot (name := Str.ofString "__next__") hT F.slot_zip_next
      (wpAny_call_entry F.slot_zip_next hT F.entry_zip_next
        (zip_own_item D hz ha hTI h1 h2 hl1 hl2 hx hy fun h' z' h1' h2' hT hsz hk => wpAny_pure (hQ h' ⟨.inr ⟨a, true, oa, z', ?_, a1, a2, a3, a4, a5⟩, ?_, h1', h2'⟩ hT hsz fun c o c1 _ c3 c4 e => hk c o c1 c3 c4 e)) (F.args_zip_next_1 _))))
    · exact hk _ _ a1 a3 a4 ha
    · exact hk _ _ D.TIz D.TIi1 D.TIi2 hTI
theorem zip_end {z TI TO i1 i2 l1 l2 S : Addr} {i : Nat} {xs ys : Array Value} {Q : Option Value → Shared → Prop} (hh : A.handled = none) (D : ZipApart z TI TO i1 i2 l1 l2)
    (hst : ZipSt s.heap z TI TO i1 i2 l1 l2 S i) (hl1 : s.heap.IsList l1 xs) (hl2 : s.heap.IsList l2 ys) (hend : xs[i]? = none ∨ ys[i]? = none)
    (hQ : ∀ h', (∀ c o, c ≠ z → c ≠ TO → c ≠ i1 → c ≠ i2 → s.heap.get? c = some o → h'.get? c = some o) → Q none { s with heap := h' }) : wpAny (model prog w) A (pyNext (.ref z)) Q E s := by
  obtain ⟨hd, hTI, h1, h2⟩ := hst
  rcases hd with ⟨rfl, hz, p, q, hTO⟩ | ⟨a, f, oa, hz, ha, a1, a2, a3, a4, a5⟩
  · exact wpAny_pyNext_zip_end hh D hz hTI hTO h1 h2 hl1 hl2 hend hQ
  · have hT : s.TypeIs (.ref z) "zip" := ⟨_, hz, rfl⟩
    unfold pyNext
    refine wpAny_bind (wpAny_attempt (wpAny_callSpecial?_slot (name := Str.ofString "__next__") hT F.slot_zip_next
      (wpAny_call_entry F.slot_zip_next hT F.entry_zip_next (zip_own_end hh D hz ha hTI h1 h2 hl1 hl2 hend fun h' e hk he => ?_) (F.args_zip_next_1 _))))
    obtain ⟨o, ho, hc⟩ := he
    refine wpAny_bind (wpAny_isInstance (T := "StopIteration") (b := true) ⟨o, ho, hc⟩ isSubtype_stop ?_)
    exact wpAny_pure (hQ _ fun c o c1 _ c3 c4 e => hk c o c1 c3 c4 e)
theorem ZipSt.keep {h h' : Heap} {z TI TO i1 i2 l1 l2 S i : Nat} (st : ZipSt h z TI TO i1 i2 l1 l2 S i) (k : ∀ b o, b ≠ S → h.get? b = some o → h'.get? b = some o) (nz : z ≠ S) (nI : TI ≠ S) (nO : TO ≠ S) (n1 : i1 ≠ S) (n2 : i2 ≠ S) : ZipSt h' z TI TO i1 i2 l1 l2 S i := by
  obtain ⟨hd, hTI, h1, h2⟩ := st
  refine ⟨?_, k _ _ nI hTI, h1.at fun o e => k _ o n1 e, h2.at fun o e => k _ o n2 e⟩
  rcases hd with ⟨rfl, hz, p, q, hTO⟩ | ⟨a, f, oa, hz, ha, a1, a2, a3, a4, a5⟩
  · exact .inl ⟨rfl, k _ _ nz hz, p, q, k _ _ nO hTO⟩
  · exact .inr ⟨a, f, oa, k _ _ nz hz, k _ _ a5 ha, a1, a2, a3, a4, a5⟩
end
theorem ngt {a b c : Addr} (h : a < c) (q : c ≤ b) : b ≠ a := fun e => by rw [e] at q; exact absurd (Nat.lt_of_lt_of_le h q) (Nat.lt_irrefl _)
/-- the pairs that were made -/
structure PairsM (xs ys : Array Value) (lo : Addr) (h : Heap) (as : List Addr) : Prop where
  rise : as.Pairwise (· < ·)
  above : ∀ a ∈ as, lo ≤ a
  pairs : ∀ (j : Nat) (a : Addr), as[j]? = some a → ∃ x y, xs[j]? = some x ∧ ys[j]? = some y ∧ IsPair h a x y
theorem PairsM.there {xs ys : Array Value} {lo : Addr} {h : Heap} {as : List Addr} (g : PairsM xs ys lo h as) {a : Addr} (ha : a ∈ as) : a < h.objs.size := by
  obtain ⟨j, hj⟩ := List.mem_iff_getElem?.mp ha
  obtain ⟨_, _, _, _, e⟩ := g.pairs j a hj
  exact Heap.lt_size e
section
variable {prog : Program} {w : World} {A : Around} {s : Shared} {R : Result → Shared → Prop}
theorem zip_loop {S z TI TO i1 i2 l1 l2 lo : Addr} {xs ys : Array Value} {n : Nat} (hh : A.handled = none) (D : ZipApart z TI TO i1 i2 l1 l2) (hn : n = min xs.size ys.size) (hsz : n ≤ sizeLine)
    (nz : z ≠ S) (nI : TI ≠ S) (nO : TO ≠ S) (n1 : i1 ≠ S) (n2 : i2 ≠ S) (m1 : l1 ≠ S) (m2 : l2 ≠ S) (bS : S < lo) (bz : z < lo) (bO : TO < lo) (b1 : i1 < lo) (b2 : i2 < lo) (res : Value) {h₁ : Heap}
    (hR : ∀ h' tk acc c as, (∀ b o, b ≠ S → b ≠ z → b ≠ TO → b ≠ i1 → b ≠ i2 → h₁.get? b = some o → h'.get? b = some o) → h'.get? S = some { cls := .type "list", dict := none, data := .seq acc c, slots := #[] } →
      as.length = n → PairsM xs ys lo h' as → acc.toList = as.map Value.ref → R (.ok (.ret res)) { s with heap := h', toks := tk }) :
    ∀ (k i : Nat) (h : Heap) (tk c : Nat) (acc : Array Value) (as : List Addr), n - i = k → i ≤ n → ZipSt h z TI TO i1 i2 l1 l2 S i → h.IsList l1 xs → h.IsList l2 ys →
      (∀ b o, b ≠ S → b ≠ z → b ≠ TO → b ≠ i1 → b ≠ i2 → h₁.get? b = some o → h.get? b = some o) →
      h.get? S = some { cls := .type "list", dict := none, data := .seq acc c, slots := #[] } → acc.toList = as.map Value.ref → as.length = i → PairsM xs ys lo h as → lo ≤ h.objs.size →
      codeAny (model prog w) A (.builtin "list.extend.loop" ⟨[.ref S, .ref z, res], []⟩) R { s with heap := h, toks := tk } := by
  intro k
  induction k with
  | zero =>
    intro i h tk c acc as hk hi hst hl1 hl2 hkeep hS hacc hal hG hlo
    refine codeAny_builtin PySem.F.entry_extend_loop ?_
    rw [Around.under_plainId PySem.F.plain_extend_loop _]
    show wpAny _ A.in1 (pyNext (.ref z) >>= _) _ _ _
    have hend : xs[i]? = none ∨ ys[i]? = none := by
      rcases Nat.le_total xs.size ys.size with q | q
      · exact .inl (Array.getElem?_eq_none (by omega))
      · exact .inr (Array.getElem?_eq_none (by omega))
    refine wpAny_bind (zip_end (s := { s with heap := h, toks := tk }) (A := A.in1) hh D hst hl1 hl2 hend fun h' he => ?_)
    refine wpAny_pure (hR h' tk acc c as (fun b o h1 h2 h3 h4 h5 e => he b o h2 h3 h4 h5 (hkeep b o h1 h2 h3 h4 h5 e)) (he S _ nz.symm nO.symm n1.symm n2.symm hS) (by omega) ⟨hG.rise, hG.above, fun j a hj => ?_⟩ hacc)
    obtain ⟨x, y, e1, e2, e3⟩ := hG.pairs j a hj
    have hb := hG.above a (List.mem_of_getElem? hj)
    exact ⟨x, y, e1, e2, he a _ (ngt bz hb) (ngt bO hb) (ngt b1 hb) (ngt b2 hb) e3⟩
  | succ k ih =>
    intro i h tk c acc as hk hi hst hl1 hl2 hkeep hS hacc hal hG hlo
    have hx1 : i < xs.size := by omega
    have hx2 : i < ys.size := by omega
    have hsz2 : acc.size = i := by rw [← Array.length_toList, hacc, List.length_map, hal]
    refine codeAny_builtin PySem.F.entry_extend_loop ?_
    rw [Around.under_plainId PySem.F.plain_extend_loop _]
    show wpAny _ A.in1 (pyNext (.ref z) >>= _) _ _ _
    refine wpAny_bind (zip_item (s := { s with heap := h, toks := tk }) (S := S) D hst (Heap.lt_size hS) hl1 hl2 (Array.getElem?_eq_getElem hx1) (Array.getElem?_eq_getElem hx2) fun h' hst' ht hz hkp => ?_)
    dsimp only at ht hz hkp ⊢
    have hS' := hkp S _ nz.symm nO.symm n1.symm n2.symm hS
    have up : ∀ b o, b ≠ S → h'.get? b = some o → (h'.update S (Obj.mapSeq (·.push (Value.ref h.objs.size)))).get? b = some o := fun b o hb e => (Heap.get?_update_other _ _ (Ne.symm hb)).trans e
    have hSl : S < h.objs.size := Heap.lt_size hS
    show wpAny _ A.in1 (updateSeq S (·.push (Value.ref h.objs.size)) >>= _) _ _ _
    refine wpAny_bind ?_
    refine wpAny_updateSeq hS' rfl (wpAny_pure ⟨plainId_quiet PySem.F.plain_extend_loop _, ih (i + 1) _ tk _ (acc.push (Value.ref h.objs.size)) (as ++ [h.objs.size]) (by omega) (by omega) (hst'.keep up nz nI nO n1 n2)
      (hl1.at fun o e => up _ o m1 (hkp _ o D.l1z D.l1TO D.l1i1 D.l1i2 e)) (hl2.at fun o e => up _ o m2 (hkp _ o D.l2z D.l2TO D.l2i1 D.l2i2 e))
      (fun b o h1 h2 h3 h4 h5 e => up b o h1 (hkp b o h2 h3 h4 h5 (hkeep b o h1 h2 h3 h4 h5 e))) (Heap.get?_update_self _ hS' rfl) (by rw [Array.toList_push, hacc, List.map_append]; rfl) (by rw [List.length_append, hal]; rfl) ⟨?_, ?_, ?_⟩ ?_⟩)
      (by rw [hsz2]; omega) (by show (acc.push (Value.ref h.objs.size)).size ≤ sizeLine + 1; rw [Array.size_push, hsz2]; omega)
    · refine List.pairwise_append.mpr ⟨hG.rise, List.pairwise_singleton _ _, fun a ha b hb => ?_⟩
      rw [List.mem_singleton.mp hb]
      exact hG.there ha
    · intro a ha
      rcases List.mem_append.mp ha with ha | ha
      · exact hG.above a ha
      · rw [List.mem_singleton.mp ha]; exact hlo
    · intro j b hj
      rcases Nat.lt_trichotomy j as.length with h1 | h1 | h1
      · rw [List.getElem?_append_left h1] at hj
        obtain ⟨x, y, e1, e2, e3⟩ := hG.pairs j b hj
        have hb := hG.above b (List.mem_of_getElem? hj)
        exact ⟨x, y, e1, e2, up b _ (ngt bS hb) (hkp b _ (ngt bz hb) (ngt bO hb) (ngt b1 hb) (ngt b2 hb) e3)⟩
      · subst h1
        have hb : h.objs.size = b := by simpa using hj
        subst hb
        exact ⟨xs[as.length]'(by omega), ys[as.length]'(by omega), Array.getElem?_eq_getElem _, Array.getElem?_eq_getElem _, up _ _ (Nat.ne_of_gt hSl) (by subst hal; exact ht)⟩
      · have hnone : (as ++ [h.objs.size])[j]? = none := List.getElem?_eq_none (by rw [List.length_append, List.length_singleton]; omega)
        rw [hnone] at hj; cases hj
    · have e : (h'.update S (Obj.mapSeq (·.push (Value.ref h.objs.size)))).get? h.objs.size = _ := up _ _ (Nat.ne_of_gt hSl) ht
      exact Nat.le_of_lt (Nat.lt_of_le_of_lt hlo (Heap.lt_size e))
theorem nolen_zip : typeLookup (.type "zip") "__len__" = pure none := by rw [typeLookup_type, builtinLookup_eq_fast]; kernel_rfl
theorem nohint_zip : typeLookup (.type "zip") "__length_hint__" = pure none := by rw [typeLookup_type, builtinLookup_eq_fast]; kernel_rfl
/-- what stands of zip's things at its beginning -/
structure Zip0 (h : Heap) (z TI TO i1 i2 l1 l2 : Addr) (xs ys : Array Value) : Prop where
  apart : ZipApart z TI TO i1 i2 l1 l2
  zz : IsZip h z TI TO .none
  ti : IsPair h TI (.ref i1) (.ref i2)
  tt : ∃ p q, IsPair h TO p q
  a1 : h.IsListIter i1 l1 0
  a2 : h.IsListIter i2 l2 0
  l1 : h.IsList l1 xs
  l2 : h.IsList l2 ys
theorem Zip0.keep {h h' : Heap} {z TI TO i1 i2 l1 l2 : Addr} {xs ys : Array Value} (g : Zip0 h z TI TO i1 i2 l1 l2 xs ys) (k : ∀ b o, b < h.objs.size → h.get? b = some o → h'.get? b = some o) : Zip0 h' z TI TO i1 i2 l1 l2 xs ys :=
  have k' : ∀ b o, h.get? b = some o → h'.get? b = some o := fun b o e => k b o (Heap.lt_size e) e
  ⟨g.apart, k' _ _ g.zz, k' _ _ g.ti, (let ⟨p, q, e⟩ := g.tt; ⟨p, q, k' _ _ e⟩), g.a1.at fun o e => k' _ o e, g.a2.at fun o e => k' _ o e, g.l1.at fun o e => k' _ o e, g.l2.at fun o e => k' _ o e⟩
theorem call_list_zip {E : Value → Shared → Prop} {z TI TO i1 i2 l1 l2 : Addr} {xs ys : Array Value} {Q : Value → Shared → Prop} (hh : A.handled = none) (g : Zip0 s.heap z TI TO i1 i2 l1 l2 xs ys) (hsz : min xs.size ys.size ≤ sizeLine)
    (hQ : ∀ (h' : Heap) (tk : Nat) (acc : Array Value) (c : Nat) (as : List Addr), (∀ b o, b ≠ z → b ≠ TO → b ≠ i1 → b ≠ i2 → s.heap.get? b = some o → h'.get? b = some o) →
      h'.get? s.heap.objs.size = some { cls := .type "list", dict := none, data := .seq acc c, slots := #[] } → as.length = min xs.size ys.size → PairsM xs ys (s.heap.objs.size + 1) h' as → acc.toList = as.map Value.ref →
      Q (.ref s.heap.objs.size) { s with heap := h', toks := tk }) :
    wpAny (model prog w) A (call (.type "list") [.ref z]) Q E s := by
  have bz : z < s.heap.objs.size := Heap.lt_size g.zz
  have bI : TI < s.heap.objs.size := Heap.lt_size g.ti
  have bO : TO < s.heap.objs.size := let ⟨_, _, e⟩ := g.tt; Heap.lt_size e
  have b1 : i1 < s.heap.objs.size := by obtain ⟨_, e, _⟩ := g.a1; exact Heap.lt_size e
  have b2 : i2 < s.heap.objs.size := by obtain ⟨_, e, _⟩ := g.a2; exact Heap.lt_size e
  have m1 : l1 < s.heap.objs.size := by obtain ⟨_, e, _⟩ := g.l1; exact Heap.lt_size e
  have m2 : l2 < s.heap.objs.size := by obtain ⟨_, e, _⟩ := g.l2; exact Heap.lt_size e
  refine callType_codes (Q₁ := fun obj s₁ => obj = .ref s.heap.objs.size ∧ s₁ = { s with heap := s.heap.push { cls := .type "list", data := .seq #[] } }) F.called_list (F.typeCall_list_1 _) F.entry_list_init
    (code_list_new _ ⟨rfl, rfl⟩) fun obj s₁ h₁ => ?_
  obtain ⟨rfl, rfl⟩ := h₁
  generalize hSe : s.heap.objs.size = S at *
  have hS : (s.heap.push { cls := .type "list", data := .seq #[] }).get? S = some { cls := .type "list", data := .seq #[] } := by rw [← hSe]; exact Heap.get?_push_size _ rfl
  refine ⟨⟨_, hS, rfl⟩, F.args_list_init_2 _ _, ?_⟩
  have g1 : Zip0 (s.heap.push { cls := .type "list", data := .seq #[] }) z TI TO i1 i2 l1 l2 xs ys := g.keep fun b o _ e => Heap.get?_push_of_some _ e
  have k1 : ∀ b o, s.heap.get? b = some o → (s.heap.push { cls := .type "list", data := .seq #[] }).get? b = some o := fun b o e => Heap.get?_push_of_some _ e
  have z1 : (s.heap.push { cls := .type "list", data := .seq #[] }).objs.size = S + 1 := by rw [Heap.size_push, hSe]
  generalize s.heap.push { cls := .type "list", data := .seq #[] } = h1 at hS g1 k1 z1 ⊢
  show wpAny _ A.in1.in1 (do let old ← Builtin.List.listItems (.ref S); Builtin.List.listUpdate (.ref S) (fun _ => #[]); letGo old.toList.reverse; Builtin.List.listExtendWith (.ref S) (.ref z) .none) _ _ _
  refine wpAny_bind ?_
  unfold Builtin.List.listItems
  refine wpAny_bind (wpAny_seqItems hS rfl (wpAny_pure ?_))
  show wpAny _ A.in1.in1 (updateSeq S (fun _ => #[]) >>= fun _ => letGo (#[] : Array Value).toList.reverse >>= fun _ => Builtin.List.listExtendWith (.ref S) (.ref z) .none) _ _ _
  refine wpAny_bind (wpAny_updateSeq hS rfl ?_)
  have hS₂ := Heap.get?_update_self (Obj.mapSeq (fun _ => (#[] : Array Value))) hS rfl
  have oth : ∀ b o, b ≠ S → h1.get? b = some o → (h1.update S (Obj.mapSeq (fun _ => (#[] : Array Value)))).get? b = some o :=
    fun b o hb e => (Heap.get?_update_other _ _ (Ne.symm hb)).trans e
  have z2 : (h1.update S (Obj.mapSeq (fun _ => (#[] : Array Value)))).objs.size = S + 1 := by rw [Heap.size_update, z1]
  have e4 : ∀ {u : Addr} {h₀ h₂ : Heap}, True := fun {_ _ _} => trivial
  have nS : ∀ {u : Addr}, u < S → u ≠ S := fun h => Nat.ne_of_lt h
  have g2 : Zip0 (h1.update S (Obj.mapSeq (fun _ => (#[] : Array Value)))) z TI TO i1 i2 l1 l2 xs ys :=
    ⟨g1.apart, oth _ _ (nS bz) g1.zz, oth _ _ (nS bI) g1.ti, (let ⟨p, q, e⟩ := g1.tt; ⟨p, q, oth _ _ (nS bO) e⟩), g1.a1.at fun o e => oth _ o (nS b1) e, g1.a2.at fun o e => oth _ o (nS b2) e, g1.l1.at fun o e => oth _ o (nS m1) e, g1.l2.at fun o e => oth _ o (nS m2) e⟩
  have k2 : ∀ b o, s.heap.get? b = some o → (h1.update S (Obj.mapSeq (fun _ => (#[] : Array Value)))).get? b = some o := fun b o e => oth b o (by rw [← hSe]; exact Nat.ne_of_lt (Heap.lt_size e)) (k1 b o e)
  generalize h1.update S (Obj.mapSeq (fun _ => (#[] : Array Value))) = h2 at hS₂ g2 k2 z2 ⊢
  clear hS g1 k1 z1 oth
  refine wpAny_bind (wpAny_letGo ?_)
  unfold Builtin.List.listExtendWith
  have hT : Shared.TypeIs { s with heap := h2 } (.ref z) "zip" := ⟨_, g2.zz, rfl⟩
  refine wpAny_bind (wpAny_typeOf hT ?_)
  have h1 : Builtin.List.listSameRef (.ref S) (.ref z) = false := by simp [Builtin.List.listSameRef, (nS bz).symm]
  have h2' : (Value.type "zip" == Value.type "list") = false := by decide
  have h3 : (Value.type "zip" == Value.type "tuple") = false := by decide
  simp only [h1, h2', h3, Bool.or_false, Bool.false_eq_true, if_false]
  refine wpAny_bind (wpAny_pyIter_zip g2.zz ?_)
  refine wpAny_bind (wpAny_holding ?_)
  unfold Builtin.List.listLengthHint
  refine wpAny_bind (wpAny_specialOf hT nolen_zip ?_)
  show wpAny _ A.in1.in1 (specialOf (Value.ref z) (Str.ofString "__length_hint__") >>= _) _ _ _
  refine wpAny_bind (wpAny_specialOf hT nohint_zip ?_)
  refine wpAny_pure ?_
  show wpAny _ A.in1.in1 (rule "list.extend.makes-room" >>= fun _ => Builtin.List.listTouch (.ref S) >>= fun _ =>
    again (.builtin "list.extend.loop" ⟨[.ref S, .ref z, .none], []⟩)) _ _ _
  refine wpAny_bind (wpAny_rule ?_)
  refine wpAny_bind ?_
  show wpAny _ A.in1.in1 (updateSeq S (·.push .none) >>= fun _ => updateSeq S (·.pop)) _ _ _
  refine wpAny_bind (wpAny_updateSeq hS₂ rfl ?_)
  have hS₃ := Heap.get?_update_self (Obj.mapSeq (·.push Value.none)) hS₂ rfl
  refine wpAny_updateSeq hS₃ rfl ?_
  have hS₄ := Heap.get?_update_self (Obj.mapSeq (·.pop)) hS₃ rfl
  have oth : ∀ b o, b ≠ S → h2.get? b = some o → ((h2.update S (Obj.mapSeq (·.push Value.none))).update S (Obj.mapSeq (·.pop))).get? b = some o :=
    fun b o hb e => (Heap.get?_update_other _ _ (Ne.symm hb)).trans ((Heap.get?_update_other _ _ (Ne.symm hb)).trans e)
  have z3 : ((h2.update S (Obj.mapSeq (·.push Value.none))).update S (Obj.mapSeq (·.pop))).objs.size = S + 1 := by rw [Heap.size_update, Heap.size_update, z2]
  generalize (h2.update S (Obj.mapSeq (·.push Value.none))).update S (Obj.mapSeq (·.pop)) = h3' at hS₄ oth z3 ⊢
  have D := g2.apart
  refine wpAny_pure ⟨plainId_quiet F.plain_extend_loop _, zip_loop (A := A.in1) (lo := S + 1) (h₁ := h2) (xs := xs) (ys := ys) (n := min xs.size ys.size) hh D rfl hsz (nS bz) (nS bI) (nS bO) (nS b1) (nS b2) (nS m1) (nS m2) (Nat.lt_succ_self _) (Nat.lt_succ_of_lt bz) (Nat.lt_succ_of_lt bO) (Nat.lt_succ_of_lt b1) (Nat.lt_succ_of_lt b2) .none
    (fun h' tk acc c as hk hS' hl hG hacc => ?_) (min xs.size ys.size) 0 h3' _ _ #[] [] (Nat.sub_zero _) (Nat.zero_le _) ⟨.inl ⟨rfl, oth _ _ (nS bz) g2.zz, (let ⟨p, q, e⟩ := g2.tt; ⟨p, q, oth _ _ (nS bO) e⟩)⟩, oth _ _ (nS bI) g2.ti, g2.a1.at fun o e => oth _ o (nS b1) e, g2.a2.at fun o e => oth _ o (nS b2) e⟩
    (g2.l1.at fun o e => oth _ o (nS m1) e) (g2.l2.at fun o e => oth _ o (nS m2) e) (fun b o hb _ _ _ _ e => oth b o hb e) hS₄ rfl rfl ⟨List.Pairwise.nil, (fun _ ha => nomatch ha), (fun j a hj => by simp at hj)⟩ (by rw [z3]; exact Nat.le_refl _)⟩
  refine ⟨rfl, hQ h' tk acc c as (fun b o c1 c2 c3 c4 e => hk b o ?_ c1 c2 c3 c4 (k2 b o e)) hS' hl hG hacc⟩
  rw [← hSe]; exact Nat.ne_of_lt (Heap.lt_size e)
end
/-! the rule -/
section
variable {X : Cx} {ta : TA} {e e2 : Expr}
def tLstZip (K : PySem.W.Frag) (ta : TA) : TE := fun σ H Q => ta σ H fun vs H1 => ∃ (a b : Addr) (xs ys : List V), vs = [.ref a, .ref b] ∧ SqL K H1 a xs ∧ SqL K H1 b ys ∧ ∀ (H' : Hp) (l : Addr) (as : List Addr), (∀ c o, H1 c = some o → H' c = some o) → H1 l = none →
  as.length = min xs.length ys.length → (∀ (j : Nat) (T : Addr), as[j]? = some T → ∃ x y, xs[j]? = some x ∧ ys[j]? = some y ∧ H' T = some (.tup [x, y])) → H' l = some (.lst (as.map V.ref)) → Q (.ref l) H'
theorem vals_refs : ∀ as : List Addr, Vals (as.map V.ref) (as.map Value.ref)
  | [] => .nil
  | a :: as => .cons rfl (vals_refs as)
theorem pe_lstZip {p p2 pz pos : Pos} (hc : X.calm = true) (hg : Gl X "list") (hm : X.mg "list" = none) (hg2 : Gl X "zip") (hm2 : X.mg "zip" = none) (ha : PA X [e, e2] ta)
    (hs : starEach [e, e2] X.env = (false, eval e X.env) :: starEach [e2] X.env := by rfl) (hpl : (backTo pz (starEach [e2] X.env)).any (·.1) = false := by rfl)
    (na : starEach [.Call (.Name "zip" p2) [e, e2] [] pz] X.env = (false, eval (.Call (.Name "zip" p2) [e, e2] [] pz) X.env) :: starEach [] X.env := by rfl) :
    PE X (.Call (.Name "list" p) [.Call (.Name "zip" p2) [e, e2] [] pz] [] pos) (tLstZip X.K ta) := by
  refine ⟨fun pins s σ H Q I h => ?_⟩
  have zp : wpAny (model X.prog X.w) X.A (eval (.Call (.Name "zip" p2) [e, e2] [] pz) X.env) (fun v s' => ∃ (z TI TO i1 i2 a b : Addr) (its its2 : List Value) (xs ys : List V) (H1 : Hp), v = .ref z ∧ Zip0 s'.heap z TI TO i1 i2 a b its.toArray its2.toArray ∧
      Vals xs its ∧ Vals ys its2 ∧ Inv X pins σ H1 s' ∧ (∀ c, c ∈ [z, TI, TO, i1, i2] → FpOk X pins H1 c) ∧ xs.length ≤ sizeLine ∧
      ∀ (H' : Hp) (l : Addr) (as : List Addr), (∀ c o, H1 c = some o → H' c = some o) → H1 l = none → as.length = min xs.length ys.length →
        (∀ (j : Nat) (T : Addr), as[j]? = some T → ∃ x y, xs[j]? = some x ∧ ys[j]? = some y ∧ H' T = some (.tup [x, y])) → H' l = some (.lst (as.map V.ref)) → Q (.ref l) H') X.xe s := by
    refine Call_ (ld_blt I hg2 hm2 PyProof.Rows.boot_zip (PyProof.Rows.callWith_type1 (thn (ha.run pz pins s σ H _ I h) fun us s1 ⟨vs, H1, I1, r1, q1⟩ => ?_) hs hpl))
    obtain ⟨a, b, xs, ys, ex, hqx, hqy, q⟩ := q1
    subst ex
    cases r1 with
    | cons r rr =>
      cases rr with
      | cons r' rr =>
        cases rr
        cases r
        cases r'
        have fresh5 : ∀ c, c ∈ [s1.heap.objs.size + 4, s1.heap.objs.size + 2, s1.heap.objs.size + 3, s1.heap.objs.size, s1.heap.objs.size + 1] → FpOk X pins H1 c := fun c hcm => by
          have e' : c = s1.heap.objs.size + 4 ∨ c = s1.heap.objs.size + 2 ∨ c = s1.heap.objs.size + 3 ∨ c = s1.heap.objs.size ∨ c = s1.heap.objs.size + 1 := by simpa using hcm
          have hle : s1.heap.objs.size ≤ c := by
            rcases e' with z | z | z | z | z
            · rw [z]; exact Nat.le_add_right _ _
            · rw [z]; exact Nat.le_add_right _ _
            · rw [z]; exact Nat.le_add_right _ _
            · rw [z]; exact Nat.le_refl _
            · rw [z]; exact Nat.le_add_right _ _
          exact I1.fpOk hle (I1.hok.fresh hle)
        obtain ⟨its, rv, p1, hz1⟩ := I1.list hqx
        obtain ⟨its2, rv2, p2, _⟩ := I1.list hqy
        refine call_zip_2 p1.isList p2.isList fun h' hz hTI hTO h1 h2 hsz hk => ?_
        have I2 : Inv X pins σ H1 { s1 with heap := h' } := I1.kept (t' := s1.toks) hk
        exact ⟨s1.heap.objs.size + 4, s1.heap.objs.size + 2, s1.heap.objs.size + 3, s1.heap.objs.size, s1.heap.objs.size + 1, a, b, its, its2, xs, ys, H1, rfl,
          ⟨PySem.W.ktu_apart s1.heap.objs.size a b p1.lt p2.lt, hz, hTI, ⟨_, _, hTO⟩, h1, h2, p1.isList.at fun o e => hk _ o e, p2.isList.at fun o e => hk _ o e⟩, rv, rv2, I2, fresh5, hz1, q⟩
  refine Call_ (ld_blt I hg hm PyProof.Rows.boot_list (PyProof.Rows.callWith_type1 (args_cons (thn zp fun x s1 ⟨z, TI, TO, i1, i2, a, b, its, its2, xs, ys, H1, ex, g, rv, rv2, I1, fr5, hz1, q⟩ => args_nil ?_) na) na))
  subst ex
  have l1 := rv.length
  have l2 := rv2.length
  have hmin : min its.toArray.size its2.toArray.size = min xs.length ys.length := by simp only [List.size_toArray]; omega
  refine call_list_zip (I1.ok.hd hc) g (by rw [hmin]; omega) fun h' tk acc c as hk hS hl hG hacc => ?_
  rw [hmin] at hl
  have I2 : Inv X pins σ H1 { s1 with heap := h', toks := tk } := I1.turnedL (t' := tk) (ch := [z, TI, TO, i1, i2]) (fun b o hb e => hk b o (fun q' => hb (by simp [q'])) (fun q' => hb (by simp [q'])) (fun q' => hb (by simp [q'])) (fun q' => hb (by simp [q'])) e) fr5
  have nS : H1 s1.heap.objs.size = none := I1.hok.fresh (Nat.le_refl _)
  have I3 : Inv X pins σ (upd H1 s1.heap.objs.size (.lst (as.map V.ref))) { s1 with heap := h', toks := tk } :=
    I2.take (h' := h') (t' := tk) (fun b ob _ e => e) (I1.fpOk (Nat.le_refl _) nS) (show ObjOk X.prog X.w _ _ _ (.lst (as.map V.ref)) from ⟨by rw [List.length_map, hl]; omega, as.map Value.ref, c, vals_refs as, by rw [← hacc, Array.toArray_toList]; exact hS⟩)
  obtain ⟨H2, I4, g2, hT⟩ := L2.DX.takeT (P := fun T vs => ∃ j x y, as[j]? = some T ∧ xs[j]? = some x ∧ ys[j]? = some y ∧ vs = [x, y]) I1 as _ I3 (List.Pairwise.imp (fun h => Nat.ne_of_lt h) hG.rise) (fun T hTm => by
    have hb := hG.above T hTm
    have hb' : s1.heap.objs.size ≤ T := Nat.le_of_succ_le hb
    obtain ⟨j, hj⟩ := List.mem_iff_getElem?.mp hTm
    obtain ⟨u, u2, hu, hu2, hp⟩ := hG.pairs j T hj
    rw [List.getElem?_toArray] at hu hu2
    obtain ⟨x, hx, rx⟩ := L2.DX.pget rv hu
    obtain ⟨y, hy, ry⟩ := L2.DX.pget rv2 hu2
    exact ⟨hb', by rw [upd_ne (fun z => absurd hb (by rw [z]; exact Nat.not_succ_le_self _))]; exact I1.hok.fresh hb', [x, y], ⟨j, x, y, hj, hx, hy, rfl⟩, fun H2 => ⟨by show 2 ≤ sizeLine; decide, [u, u2], .cons rx (.cons ry .nil), ⟨_, hp, rfl, _, rfl⟩⟩⟩)
  have nd : as.Nodup := List.Pairwise.imp (fun h => Nat.ne_of_lt h) hG.rise
  refine ⟨.ref s1.heap.objs.size, H2, I4, rfl, q H2 _ as (fun b o e => g2 b o (by rw [upd_ne (L2.ne_of_none e nS)]; exact e)) nS hl (fun j T hj => ?_) (g2 _ _ upd_same)⟩
  obtain ⟨vs, ⟨j', x, y, hj', hx, hy, rfl⟩, e⟩ := hT T (List.mem_of_getElem? hj)
  have ej : j' = j := by
    have b1 : j' < as.length := by
      rcases Nat.lt_or_ge j' as.length with q | q
      · exact q
      · rw [List.getElem?_eq_none q] at hj'; cases hj'
    exact (List.getElem?_inj b1 nd).mp (hj'.trans hj.symm)
  subst ej
  exact ⟨x, y, hx, hy, e⟩
end
def mLstZip (a b : MTE) : MTE := fun env h Q => a env h fun x h1 => b env h1 fun y h2 => match x, y with
  | .ref a, .ref b => ∃ ds es, h2 a = some (.lst ds) ∧ h2 b = some (.lst es) ∧ ∀ p, h2 p = none → Q (.ref p) (up h2 p (.lst (List.zipWith (fun d e => .tup [d, e]) ds es)))
  | _, _ => False
theorem rvs_zip {K : PySem.W.Frag} {H : Hp} : ∀ {ds es : List D} {xs ys : List V} {as : List Addr}, RVs K H ds xs → RVs K H es ys → as.length = min xs.length ys.length → (∀ (j : Nat) (T : Addr), as[j]? = some T → ∃ x y, xs[j]? = some x ∧ ys[j]? = some y ∧ H T = some (.tup [x, y])) →
    RVs K H (List.zipWith (fun d e => .tup [d, e]) ds es) (as.map V.ref)
  | [], es, xs, ys, as, r, _, hl, _ => by
    rw [r.inv0] at hl
    have : as = [] := List.length_eq_zero_iff.mp (by simpa using hl)
    subst this
    exact .nil
  | d :: ds, [], xs, ys, as, _, r, hl, _ => by
    rw [r.inv0] at hl
    have : as = [] := List.length_eq_zero_iff.mp (by simpa using hl)
    subst this
    exact .nil
  | d :: ds, e :: es, xs, ys, as, r, r2, hl, h => by
    obtain ⟨v, vs, rfl, q, t⟩ := r.inv
    obtain ⟨u, us, rfl, q2, t2⟩ := r2.inv
    cases as with
    | nil => simp at hl
    | cons a as =>
      obtain ⟨x, y, hx, hy, e1⟩ := h 0 a rfl
      cases hx
      cases hy
      exact .cons (rv_tup (.of e1) (.cons q (.cons q2 .nil))) (rvs_zip t t2 (by simpa using hl) fun j T hj => h (j + 1) T hj)
section
variable {X : Cx} {Hb : Hp} {a b : Expr} {ma mb : MTE} {p p2 pz pos : Pos}
theorem ie_lstZip (hm : X.mg "list" = none) (hm2 : X.mg "zip" = none) (ha : IE X Hb a ma) (hb : IE X Hb b mb) (hc : X.calm = true := by rfl) (hg : Gl X "list" := by rfl) (hg2 : Gl X "zip" := by rfl)
    (hs : starEach [a, b] X.env = (false, eval a X.env) :: starEach [b] X.env := by rfl) (hs2 : starEach [b] X.env = (false, eval b X.env) :: starEach [] X.env := by rfl) (hpl : (backTo pz (starEach [b] X.env)).any (·.1) = false := by rfl)
    (na : starEach [.Call (.Name "zip" p2) [a, b] [] pz] X.env = (false, eval (.Call (.Name "zip" p2) [a, b] [] pz) X.env) :: starEach [] X.env := by rfl) :
    IE X Hb (.Call (.Name "list" p) [.Call (.Name "zip" p2) [a, b] [] pz] [] pos) (mLstZip ma mb) := by
  refine pe_w (pe_lstZip hc hg hm hg2 hm2 (pa_cons ha (pa_cons hb pa_nil hs2) hs) hs hpl na) fun σ H Q ⟨env, h, Q0, re, rh, m, f⟩ => ?_
  refine ⟨env, h, _, re, rh, m, fun x h1 q1 v H1 t1 r1 rx => ?_⟩
  refine ⟨env, h1, _, re.mono t1, r1, q1, fun y h2 q w H2 t2 r2 ry => ?_⟩
  have t12 := t1.trans t2
  have rx2 := rx.mono t2
  cases x <;> cases y <;> first | exact q.elim | skip
  obtain ⟨ds, es, e, e2, q⟩ := q
  rw [rx2.ref, ry.ref]
  obtain ⟨vs, E, rs⟩ := r2.lst e
  obtain ⟨ws, E2, rt⟩ := r2.lst e2
  refine ⟨_, _, vs, ws, rfl, .of E, .of E2, fun H' l as ext nl hl hT hL => ?_⟩
  have t3 : TL H2 H' := ⟨fun c xs h => ext c _ h, fun c o u h _ => ext c _ h⟩
  refine f _ _ (q l (r2.free nl)) _ _ (t12.trans t3) (fun c m em => ?_) rv_ref
  by_cases cl : c = l
  · subst cl
    rw [up_same] at em
    cases em
    exact ⟨_, hL, _, rfl, rvs_zip (rs.mono t3) (rt.mono t3) hl hT⟩
  · rw [up_ne cl] at em
    obtain ⟨u, e1, q1⟩ := r2 c m em
    exact ⟨u, ext _ _ e1, q1.mono t3⟩
end
end M

namespace M
open PySem L2
section
variable {env : ME} {e : MTE} {t : Tg}
/-- a comprehension over things, that changes nothing -/
theorem lcD (xs : List D) (g : D → Option D) {okk : MH → Prop} {h1 : MH} {Q : MQ} {tt : MTT} {vs : List Nat} (ok : ∀ h', Fr [] h1 h' → okk h') (hz : xs.length ≤ 100000)
    (turn : ∀ x h', x ∈ xs → Fr [] h1 h' → ∃ env2, asg t x (mwipe env vs) = some env2 ∧ ∀ R : Option D → MH → Prop,
      (∀ h3, Fr [] h' h3 → R (g x) h3) → tt env2 h' fun b h3 => if b = true then e env2 h3 fun y h4 => R (some y) h4 else R none h3)
    (fin : ∀ p h', Fr [] h1 h' → h1 p = none → h' p = some (.lst (xs.filterMap g)) → Q (.ref p) h') : LcW (srcD xs okk) t tt e vs env h1 Q := by
  have := lcL (env := env) (e := e) (t := t) xs id g (okk := okk) (h1 := h1) (Q := Q) (tt := tt) (vs := vs) ok hz turn fin
  rw [List.map_id] at this
  exact this
theorem getD_map' {α : Type} {f : α → D} {xs : List α} {k : Nat} (h : k < xs.length) : (xs.map f).getD k .non = f xs[k] := getD_map h
/-- a comprehension over a zip -/
theorem lcZ {α β : Type} (xs : List α) (ys : List β) (f : α → D) (g : β → D) (r : α × β → Option D) {okk : MH → Prop} {h1 : MH} {Q : MQ} {tt : MTT} {vs : List Nat} (ok : ∀ h', Fr [] h1 h' → okk h') (hz : (xs.zip ys).length ≤ 100000)
    (turn : ∀ x h', x ∈ xs.zip ys → Fr [] h1 h' → ∃ env2, asg t (.tup [f x.1, g x.2]) (mwipe env vs) = some env2 ∧ ∀ R : Option D → MH → Prop,
      (∀ h3, Fr [] h' h3 → R (r x) h3) → tt env2 h' fun b h3 => if b = true then e env2 h3 fun y h4 => R (some y) h4 else R none h3)
    (fin : ∀ p h', Fr [] h1 h' → h1 p = none → h' p = some (.lst ((xs.zip ys).filterMap r)) → Q (.ref p) h') : LcW (srcZ (xs.map f) (ys.map g) okk) t tt e vs env h1 Q := by
  have hn : (srcZ (xs.map f) (ys.map g) okk).n = (xs.zip ys).length := by rw [srcZ_n, List.length_map, List.length_map, List.length_zip]
  refine lcP (fun k => ((xs.zip ys)[k]?).bind r) ok (by rw [hn]; exact hz) (fun k h' hk fr => ?_) (fun p h' fr np ep => fin p h' fr np ?_)
  · rw [hn] at hk
    have hk' := hk
    rw [List.length_zip] at hk'
    have e1 : (srcZ (xs.map f) (ys.map g) okk).item k = .tup [f (xs.zip ys)[k].1, g (xs.zip ys)[k].2] := by
      rw [srcZ_item, getD_map (by omega), getD_map (by omega), List.getElem_zip]
    rw [e1, List.getElem?_eq_getElem hk]
    exact turn (xs.zip ys)[k] h' (List.getElem_mem hk) fr
  · rw [hn, range_fm] at ep
    exact ep
end
theorem q_strI {h : MH} {Q : MQ} {i : Int} : rStrI [.int i] h Q = (i.natAbs.log2 < 1920 ∧ Q (.str (toString i)) h) := rfl
theorem fr_free {h h' : MH} {a p : Addr} (f : Fr [a] h h') (n : h' p = none) (ne : p ≠ a) : h p = none := by
  cases e : h p with
  | none => rfl
  | some o =>
    have := f p o (by simpa using ne) e
    rw [n] at this; cases this
theorem new_facts {h h' : MH} {p : Addr} {o : MO} (e : up h p o = h') (n : h p = none) : h' p = some o ∧ Fr [] h h' := by
  subst e; exact ⟨up_same, .new n⟩
theorem atI_last {xs : List D} {x : D} : atI (xs ++ [x]) (-1) = some x := by
  unfold atI ixN
  rw [List.length_append, List.length_singleton, if_neg (by omega), if_pos (by omega)]
  show (xs ++ [x])[((-1 : Int) + ((xs.length + 1 : Nat) : Int)).toNat]? = _
  rw [show ((-1 : Int) + ((xs.length + 1 : Nat) : Int)).toNat = xs.length by omega, List.getElem?_append_right (Nat.le_refl _), Nat.sub_self]; rfl
section
variable {h : MH} {Q : MQ} {p : Addr}
theorem all_fin {α : Type} {xs : List α} {g : α → Bool} (e : h p = some (.lst (xs.filterMap fun x => some (.bl (g x))))) (q : Q (.bl (xs.all g)) h) : rAll [.ref p] h Q := by
  rw [fm_some] at e
  refine ⟨xs.map g, by rw [List.map_map]; exact e, ?_⟩
  rw [List.all_map]
  exact q
theorem any_fin {α : Type} {xs : List α} {g : α → Bool} (e : h p = some (.lst (xs.filterMap fun x => some (.bl (g x))))) (q : Q (.bl (xs.any g)) h) : rAny [.ref p] h Q := by
  rw [fm_some] at e
  refine ⟨xs.map g, by rw [List.map_map]; exact e, ?_⟩
  rw [List.any_map]
  exact q
theorem sum_fin {α : Type} {xs : List α} {g : α → Int} (e : h p = some (.lst (xs.filterMap fun x => some (.int (g x))))) (q : Q (.int (xs.map g).sum) h) : rSum [.ref p] h Q := by
  rw [fm_some] at e
  exact ⟨xs.map g, by rw [List.map_map]; exact e, q⟩
theorem tup_fin {α : Type} {xs : List α} {g : α → D} (e : h p = some (.lst (xs.filterMap fun x => some (g x)))) (q : Q (.tup (xs.map g)) h) : rTuple [.ref p] h Q := by
  rw [fm_some] at e
  exact ⟨_, e, q⟩
end
end M

/-! phases by halves, plainly -/
namespace M
namespace Law
def hv (row : List (Int × Int)) (k : Nat) : Int := (row.getD k (0, 0)).2
def pv (n d k : Nat) : Nat := (k + n - d) % n
def nkeep (row : List (Int × Int)) (k : Nat) : Bool := decide (hv row k < hv row (pv row.length 1 k)) && decide (hv row (pv row.length 2 k) < hv row (pv row.length 1 k))
def nxf (row : List (Int × Int)) (k : Nat) : Option (Int × Int) := if nkeep row k = true then some ((row.getD k (0, 0)).1, hv row (pv row.length 1 k)) else none
def nxr (row : List (Int × Int)) : List (Int × Int) := (List.range row.length).filterMap (nxf row)
def phs : Nat → List (Int × Int) → List (List (Int × Int))
  | 0, row => [row]
  | f + 1, row => if row.length ≤ 1 then [row] else row :: phs f (nxr row)
theorem maxAt : ∀ (n : Nat) (g : Nat → Int), 0 < n → ∃ k, k < n ∧ ∀ j, j < n → g j ≤ g k
  | 1, g, _ => ⟨0, by omega, fun j hj => by rw [show j = 0 by omega]; exact Int.le_refl _⟩
  | n + 2, g, _ => by
    obtain ⟨k, hk, h⟩ := maxAt (n + 1) g (by omega)
    by_cases c : g k ≤ g (n + 1)
    · exact ⟨n + 1, by omega, fun j hj => by
        by_cases e : j = n + 1
        · rw [e]; exact Int.le_refl _
        · exact Int.le_trans (h j (by omega)) c⟩
    · exact ⟨k, by omega, fun j hj => by
        by_cases e : j = n + 1
        · rw [e]; omega
        · exact h j (by omega)⟩
theorem pv_lt {n d k : Nat} (h : 0 < n) : pv n d k < n := Nat.mod_lt _ h
theorem nxr_lt {row : List (Int × Int)} (h : 1 < row.length) : (nxr row).length < row.length := by
  obtain ⟨k, hk, hm⟩ := maxAt row.length (hv row) (by omega)
  have e : nxf row k = none := by
    unfold nxf nkeep
    have := hm _ (pv_lt (n := row.length) (d := 1) (k := k) (by omega))
    rw [decide_eq_false (show ¬ hv row k < hv row (pv row.length 1 k) by omega), Bool.false_and, if_neg Bool.false_ne_true]
  have := (List.length_filterMap_lt_length_iff_exists (xs := List.range row.length) (f := nxf row)).mpr ⟨k, List.mem_range.mpr hk, e⟩
  rw [List.length_range] at this
  exact this
theorem phs_one {f : Nat} {row : List (Int × Int)} (h : row.length ≤ 1) : phs f row = [row] := by
  cases f with
  | zero => rfl
  | succ f => show (if row.length ≤ 1 then [row] else _) = _; rw [if_pos h]
theorem phs_more {f : Nat} {row : List (Int × Int)} (h : 1 < row.length) : phs (f + 1) row = row :: phs f (nxr row) := by
  show (if row.length ≤ 1 then [row] else _) = _; rw [if_neg (by omega)]
theorem phs_len : ∀ (f : Nat) (row : List (Int × Int)), (phs f row).length ≤ f + 1 ∧ ∀ r ∈ phs f row, r.length ≤ row.length
  | 0, row => ⟨by show 1 ≤ 1; omega, fun r hr => by rw [List.mem_singleton.mp hr]; exact Nat.le_refl _⟩
  | f + 1, row => by
    by_cases c : row.length ≤ 1
    · rw [phs_one c]; exact ⟨by show 1 ≤ f + 1 + 1; omega, fun r hr => by rw [List.mem_singleton.mp hr]; exact Nat.le_refl _⟩
    · rw [phs_more (by omega)]
      obtain ⟨a, b⟩ := phs_len f (nxr row)
      refine ⟨by rw [List.length_cons]; omega, fun r hr => ?_⟩
      rcases List.mem_cons.mp hr with rfl | hr
      · exact Nat.le_refl _
      · exact Nat.le_trans (b r hr) (Nat.le_of_lt (nxr_lt (by omega)))
/-- the greatest stands just once -/
def UM (row : List (Int × Int)) (M : Int) : Prop := ∃ p, p < row.length ∧ hv row p = M ∧ ∀ j, j < row.length → j ≠ p → hv row j < M
theorem fm_if {α β : Type} {c : α → Bool} {g : α → β} : ∀ l : List α, l.filterMap (fun k => if c k = true then some (g k) else none) = (l.filter c).map g
  | [] => rfl
  | x :: l => by
    by_cases h : c x = true
    · rw [List.filterMap_cons_some (by rw [if_pos h]), List.filter_cons_of_pos h, List.map_cons, fm_if l]
    · rw [List.filterMap_cons_none (by rw [if_neg h]), List.filter_cons_of_neg h, fm_if l]
theorem um_next {row : List (Int × Int)} {M : Int} (h : 1 < row.length) (u : UM row M) : UM (nxr row) M := by
  obtain ⟨p, hp, e, lt⟩ := u
  have en : nxr row = ((List.range row.length).filter (nkeep row)).map fun k => ((row.getD k (0, 0)).1, hv row (pv row.length 1 k)) := fm_if _
  have nd : ((List.range row.length).filter (nkeep row)).Nodup := List.nodup_range.filter _
  have hm : ∀ k ∈ (List.range row.length).filter (nkeep row), k < row.length := fun k hk => List.mem_range.mp (List.mem_filter.mp hk).1
  obtain ⟨k0, hk0, b1, b2, b3, only⟩ : ∃ k0, k0 < row.length ∧ pv row.length 1 k0 = p ∧ k0 ≠ p ∧ pv row.length 2 k0 ≠ p ∧ ∀ k, k < row.length → pv row.length 1 k = p → k = k0 := by
    have ek : ∀ k, k < row.length → pv row.length 1 k = if k = 0 then row.length - 1 else k - 1 := fun k hk => by
      unfold pv
      by_cases c : k = 0
      · rw [if_pos c, c, Nat.mod_eq_of_lt (by omega)]; omega
      · rw [if_neg c, show k + row.length - 1 = (k - 1) + row.length by omega, Nat.add_mod_right, Nat.mod_eq_of_lt (by omega)]
    have ek2 : ∀ k, k < row.length → pv row.length 2 k = if k = 0 then row.length - 2 else if k = 1 then row.length - 1 else k - 2 := fun k hk => by
      unfold pv
      by_cases c : k < 2
      · rw [Nat.mod_eq_of_lt (by omega)]
        by_cases c0 : k = 0
        · rw [if_pos c0]; omega
        · rw [if_neg c0, if_pos (by omega)]; omega
      · rw [if_neg (by omega), if_neg (by omega), show k + row.length - 2 = (k - 2) + row.length by omega, Nat.add_mod_right, Nat.mod_eq_of_lt (by omega)]
    by_cases c : p + 1 < row.length
    · refine ⟨p + 1, c, ?_, by omega, ?_, fun k hk q => ?_⟩
      · rw [ek _ c, if_neg (by omega)]; omega
      · rw [ek2 _ c]
        split
        · omega
        · split <;> omega
      · rw [ek _ hk] at q
        split at q <;> omega
    · refine ⟨0, by omega, ?_, by omega, ?_, fun k hk q => ?_⟩
      · rw [ek _ (by omega), if_pos rfl]; omega
      · rw [ek2 _ (by omega), if_pos rfl]; omega
      · rw [ek _ hk] at q
        split at q <;> omega
  have keep : nkeep row k0 = true := by
    unfold nkeep
    rw [b1, e, decide_eq_true (lt k0 hk0 b2), decide_eq_true (lt _ (pv_lt (by omega)) b3)]; rfl
  have mem : k0 ∈ (List.range row.length).filter (nkeep row) := List.mem_filter.mpr ⟨List.mem_range.mpr hk0, keep⟩
  generalize (List.range row.length).filter (nkeep row) = ks at en nd hm mem
  obtain ⟨q, hq, eq⟩ := List.mem_iff_getElem.mp mem
  have hg : ∀ j (hj : j < ks.length), hv (nxr row) j = hv row (pv row.length 1 ks[j]) := fun j hj => by
    rw [en]
    show ((ks.map _).getD j (0, 0)).2 = _
    rw [List.getD_eq_getElem?_getD, List.getElem?_map, List.getElem?_eq_getElem hj]; rfl
  have hl : (nxr row).length = ks.length := by rw [en, List.length_map]
  refine ⟨q, by omega, by rw [hg q hq, eq, b1, e], fun j hj nj => ?_⟩
  have hj' : j < ks.length := by omega
  rw [hg j hj']
  refine lt _ (pv_lt (by omega)) fun z => ?_
  have := only _ (hm _ (List.getElem_mem hj')) z
  rw [← eq] at this
  exact nj ((List.getElem_inj nd).mp this)
theorem phs_last : ∀ (f : Nat) (row : List (Int × Int)) (M : Int), row.length ≤ f + 1 → UM row M → ∃ rs x, phs f row = rs ++ [[(x, M)]] := by
  intro f
  induction f with
  | zero =>
    intro row M hl ⟨p, hp, e, _⟩
    match row, hl, hp, e with
    | [(a, b)], _, hp, e =>
      have : p = 0 := by simpa using hp
      subst this
      exact ⟨[], a, by rw [← e]; rfl⟩
    | [], _, hp, _ => simp at hp
    | _ :: _ :: _, hl, _, _ => simp at hl
  | succ f ih =>
    intro row M hl u
    by_cases c : row.length ≤ 1
    · rw [phs_one c]
      obtain ⟨p, hp, e, _⟩ := u
      match row, c, hp, e with
      | [(a, b)], _, hp, e =>
        have : p = 0 := by simpa using hp
        subst this
        exact ⟨[], a, by rw [← e]; rfl⟩
      | [], _, hp, _ => simp at hp
      | _ :: _ :: _, c, _, _ => simp at c
    · rw [phs_more (by omega)]
      have := nxr_lt (row := row) (by omega)
      obtain ⟨rs, x, e⟩ := ih (nxr row) M (by omega) (um_next (by omega) u)
      exact ⟨row :: rs, x, by rw [e]; rfl⟩
end Law
end M
namespace M
open PySem L2
local macro_rules | `(tactic| walk_at "m") => `(tactic| simp only [mVar, mC, mOp, mUn, mNil, mCons, mTup, mLst, mCa, mTest, mAnd, mOr, mNot, mAndV, mOrV, mNotV, mIfE, mChain, mSl, mNo, mPart, mBM, mCall, mIsi, mLc, mIter, mRange1, mRange2, mRange3, mEnum, mZip,
  q_add1, q_add2, q_add3, q_add4, q_sub, q_mul1, q_mul2, q_fdiv, q_fdivN, q_mod, q_modN, q_pow, q_shl, q_neg, q_lt, q_le, q_gt, q_ge, q_eq1, q_eq2, q_eq3, q_eq4, q_eq5, q_eq6, q_eq7, q_eq8, q_eq9, q_ne1, q_ne2, q_ne3, q_ne4, q_ne5, q_ne6, q_ne7, q_ne8, q_ne9, q_iadd, q_ix1, q_ix2, q_ix3, q_ix4, q_sl1, q_sl2, q_sl3, q_len1, q_len2, q_len3, q_len4, q_abs, q_max2, q_min2, q_int1, q_int2, q_tuple1, q_tuple2, q_tuple3, q_list1, q_list2, q_list3, q_sum, q_all, q_any, q_maxL, q_minL, q_maxA1, q_maxA2, q_minA1, q_minA2, q_sorted, q_is1, q_is2, q_is3, q_is4, q_in1, q_in2, q_in3, q_nin1, q_nin2, q_nin3, q_setL, q_app, q_ext, q_popAt, q_pop, q_ty1, q_ty2, q_ty3, q_ty4, q_ty5, q_ty6, q_ty7, q_tym1, q_isN1, q_isN2, q_isN3, q_isN4, q_isN5, q_isN6, q_step1, q_step2, inF_ints, flat_ints, mDisp0, mDisp1, mDispN, mLstZip, mPairs, mDGetT, mDGet2T, mDisp0T, mDisp1T, mKeysF, mLC, q_dget, q_dgetS, q_dgetI, q_putS, q_putI, dV_cons, q_gtT1, q_gtT2, q_ltT1, q_ltT2, Sum.inr.injEq, kn_cells_at, kn_cells_digits, kn_cells_turn, kn_at_cells, kn_at_digits, kn_at_turn, kn_digits_cells, kn_digits_at, kn_digits_turn, kn_turn_cells, kn_turn_at, kn_turn_digits, Sum.inl.injEq, q_ty8, q_mulT, q_maxTup, q_strI, mTupR1, mLstR1, mRev, mYes, mwipe, flatD, asg, asgs, at0, at1, at2, at3, at4, at5, ixN,
  mstart, List.length_map, List.map_cons, List.map_nil, List.length_cons, List.length_nil, List.cons_append, List.nil_append, List.append_nil, List.replicate_succ, List.replicate_zero, Nat.reduceAdd, Nat.reduceSub, Nat.zero_add, Nat.sub_zero, Int.cast_ofNat_Int, Int.reduceLE, Int.reduceLT, Int.reduceToNat, Int.toNat_zero, Int.toNat_one,
  List.getElem?_cons_zero, List.getElem?_cons_succ, List.set_cons_zero, List.set_cons_succ, Option.some.injEq, exists_eq_left', exists_eq_left, exists_eq_right, D.int.injEq, D.bl.injEq, D.str.injEq, D.ref.injEq, D.tup.injEq, MO.lst.injEq, MO.dK.injEq, MO.dT.injEq, true_and, and_true, if_true, if_false, ite_true, ite_false, reduceIte, Bool.not_true, Bool.not_false, Bool.false_eq_true, exists_and_left, and_assoc, ne_eq, not_false_eq_true, not_true_eq_false, List.cons.injEq, exists_const, exists_eq, exists_eq', srcR_item, srcR_n, srcD_n, srcD_item, srcE_n, srcE_item, srcZ_n, srcZ_item, Int.zero_add, Int.mul_one, isTy, String.reduceEq, String.reduceBEq, Bool.or_true, Bool.true_or, Bool.or_false, Bool.false_or, Bool.and_false, Bool.false_and, Bool.and_true, Bool.true_and, decide_true, decide_false, sizeLine_eq, up_same, up_up, Nat.reduceLeDiff, Nat.reduceLT, *])
local macro_rules | `(tactic| walk_at "n") => `(tactic| ((repeat (with_reducible refine seq_ ?_)); (with_reducible first | refine set_ ?_ | refine put_ ?_ | refine putD_ ?_ | refine putDT_ ?_ | refine lockT_ ?_ | refine drop_ ?_ | refine ret_ ?_ | refine if_ ?_ | refine par_ ?_ | refine for_ ?_ | refine aug_ ?_ | refine asg_ ?_ | refine asgL_ ?_ | refine next_ ?_ | refine retN_ ?_ | refine brk_ ?_ | refine ct_ ?_); (try walk_at "m")))
local macro_rules | `(tactic| walk_at "r") => `(tactic| (walk_at "n"; repeat walk_at "n"))
local macro_rules | `(tactic| walk_at "w") => `(tactic| ((try walk_at "m"); walk_at "n"))
local macro_rules | `(tactic| walk_at "g") => `(tactic| repeat (first | walk_at "n" | walk_at "m"))
namespace Law
/-! ### contracts -/
def Hand (h : MH) (a : Addr) (t : Nat) : Prop := ∃ s0 s1 s2 : Int, h a = some (.lst [.int s0, .int s1, .int s2]) ∧ 0 ≤ s1 ∧ s1 < 2 ^ 62 ∧ 0 ≤ s2 ∧ s2 + t ≤ 2 ^ 60
theorem Hand.less {h : MH} {a : Addr} {t u : Nat} (x : Hand h a t) (l : u ≤ t) : Hand h a u := let ⟨s0, s1, s2, e, a1, a2, a3, a4⟩ := x; ⟨s0, s1, s2, e, a1, a2, a3, by omega⟩
theorem Hand.fr {h h' : MH} {a : Addr} {t : Nat} (x : Hand h a t) (f : Fr [] h h') : Hand h' a t := let ⟨s0, s1, s2, e, r⟩ := x; ⟨s0, s1, s2, f.at0 e, r⟩
theorem Hand.put {h : MH} {a p : Addr} {t : Nat} {o : MO} (x : Hand h a t) (n : a ≠ p) : Hand (up h p o) a t := let ⟨s0, s1, s2, e, r⟩ := x; ⟨s0, s1, s2, by rw [up_ne n]; exact e, r⟩
theorem Hand.ne {h : MH} {a p : Addr} {t : Nat} (x : Hand h a t) (n : h p = none) : a ≠ p := let ⟨_, _, _, e, _⟩ := x; ne_of e n
theorem Hand.some {h : MH} {a : Addr} {t : Nat} (x : Hand h a t) : h a ≠ none := let ⟨_, _, _, e, _⟩ := x; fun z => by rw [z] at e; cases e
def c_law_hand : MSp := fun ds h Q _ => ∃ (ns : List Int) (k : Nat), ds = [.rl (ns.map .int), .int k] ∧ k ≤ 1000 ∧ ∀ p h', Fr [] h h' → h p = none → Hand h' p (2 ^ 59) → Q (.ref p) h'
def c_law_take : MSp := fun ds h Q _ => ∃ (a : Addr) (many : Int) (t : Nat), ds = [.ref a, .int many] ∧ Hand h a (t + 1) ∧ 0 < many ∧ many < 2 ^ 200 ∧ ∀ r h', 0 ≤ r → r < many → Hand h' a t → Fr [a] h h' → Q (.int r) h'
/-! ### rings, some houses, stops -/
abbrev tI (xs : List Int) : D := .tup (xs.map .int)
def fst (c : Nat → Bool) : Nat → Nat → Nat
  | f, 0 => f
  | f, k + 1 => if c f = true then f else fst c (f + 1) k
/-- the house far steps to the side is of some, and greater -/
def stC (ring some : List Int) (house side : Int) (far : Nat) : Bool := decide ((house + side * far) % ring.length ∈ some) && decide (ring.getD house.toNat 0 < ring.getD ((house + side * far) % ring.length).toNat 0)
def stV (ring some : List Int) (house side : Int) : Nat := fst (stC ring some house side) 1 (ring.length - 1)
def Sds (n : Nat) (some : List Int) : Prop := some.length ≤ 1000 ∧ ∀ x ∈ some, 0 ≤ x ∧ x < n
def RgK (ring : List Int) : Prop := 1 ≤ ring.length ∧ ring.length ≤ 1000
def c_law_order : MSp := fun ds h Q _ => ∃ (a : Addr) (many t : Nat), ds = [.ref a, .int many] ∧ 1 ≤ many ∧ many ≤ 1000 ∧ Hand h a (t + 2 + many) ∧ ∀ p h' (xs : List Int), xs.length = many → (∀ x ∈ xs, 0 ≤ x ∧ x < many) → xs.Nodup → Hand h' a t → Fr [a] h h' → h' p = some (.lst (xs.map .int)) → h p = none → Q (.ref p) h'
def c_law_ring : MSp := fun ds h Q _ => ∃ (a : Addr) (many t : Nat), ds = [.ref a, .int many] ∧ 1 ≤ many ∧ many ≤ 1000 ∧ Hand h a (t + 3 + 2 * many) ∧ ∀ h' (xs : List Int), xs.length = many → (∀ x ∈ xs, 0 ≤ x ∧ x < 2 ^ 50) → xs.Nodup → Hand h' a t → Fr [a] h h' → Q (tI xs) h'
def c_law_some : MSp := fun ds h Q _ => ∃ (a : Addr) (many t : Nat), ds = [.ref a, .int many] ∧ 1 ≤ many ∧ many ≤ 1000 ∧ Hand h a (t + 2 + many) ∧ ∀ h' (xs : List Int), Sds many xs → xs.Nodup → 1 ≤ xs.length → xs.length ≤ many → Hand h' a t → Fr [a] h h' → Q (tI xs) h'
def c_law_size : MSp := fun ds h Q _ => ∃ (a : Addr) (t : Nat), ds = [.ref a] ∧ Hand h a (t + 2) ∧ ∀ (n : Nat) h', 1 ≤ n → n ≤ 64 → Hand h' a t → Fr [a] h h' → Q (.int n) h'
def c_stop_of : MSp := fun ds h Q _ => ∃ (ring some : List Int) (house side : Int), ds = [tI ring, tI some, .int house, .int side] ∧ RgK ring ∧ 0 ≤ house ∧ house < ring.length ∧ (side = 1 ∨ side = -1) ∧ Q (.int (stV ring some house side)) h
def c_law_stop : MSp := fun ds h Q _ => ∃ (ring some : List Int) (house side : Int), ds = [tI ring, tI some, .int house, .int side] ∧ RgK ring ∧ 0 ≤ house ∧ house < ring.length ∧ (side = 1 ∨ side = -1) ∧ Q (.int (stV ring some house side)) h
/-- ints, tuples of these -/
def Dt : Nat → D → Prop
  | 0, _ => False
  | n + 1, d => match d with
    | .int _ => True
    | .tup ds => ds.length ≤ 100000 ∧ ∀ x ∈ ds, Dt n x
    | _ => False
def c_law_same : Nat → MSp
  | 0 => fun _ _ _ _ => False
  | n + 1 => fun ds h Q _ => ∃ d e, ds = [d, e] ∧ Dt (n + 1) d ∧ Dt (n + 1) e ∧ ∀ b h', Fr [] h h' → (b = true ↔ d = e) → Q (.bl b) h'
/-! ### phases by halves -/
abbrev prD (p : Int × Int) : D := .tup [.int p.1, .int p.2]
abbrev rwD (row : List (Int × Int)) : D := .tup (row.map prD)
def row0 (ring some : List Int) : List (Int × Int) := some.map fun x => (x, ring.getD x.toNat 0)
def phV (ring some : List Int) : List (List (Int × Int)) := phs some.length (row0 ring some)
def c_next_row : MSp := fun ds h Q _ => ∃ row : List (Int × Int), ds = [rwD row] ∧ 1 < row.length ∧ row.length ≤ 100000 ∧ ∀ h', Fr [] h h' → Q (rwD (nxr row)) h'
def c_phases : MSp := fun ds h Q _ => ∃ (ring some : List Int), ds = [tI ring, tI some] ∧ RgK ring ∧ Sds ring.length some ∧ ∀ h', Fr [] h h' → Q (.tup ((phV ring some).map rwD)) h'
def c_law_phases : MSp := fun ds h Q _ => ∃ (ring some : List Int), ds = [tI ring, tI some] ∧ RgK ring ∧ Sds ring.length some ∧ ∀ h', Fr [] h h' → Q (.tup ((phV ring some).map rwD)) h'
def reS (r s : Int) : Int := if r < s then 2 * r else s
def reV (l r : Int) : Nat → Nat → Int
  | 0, _ => 0
  | f + 1, k => reS (2 ^ k) l + reS (2 ^ k) r + (if (decide ((2 : Int) ^ k < l) && decide ((2 : Int) ^ k < r)) = true then reV l r f (k + 1) else 0)
def reT (ring some : List Int) (x : Int) : Int := reV (stV ring some x (-1)) (stV ring some x 1) 7 0
def trV (ring some : List Int) : Int := ring.length + (some.map (reT ring some)).sum
def c_side_letters : MSp := fun ds h Q _ => ∃ r s : Int, ds = [.int r, .int s] ∧ 0 ≤ r ∧ r ≤ 1000 ∧ Q (.int (reS r s)) h
def c_reach_letters : MSp := fun ds h Q _ => ∃ l r : Int, ds = [.int l, .int r] ∧ l ≤ 64 ∧ r ≤ 64 ∧ Q (.int (reV l r 7 0)) h
def c_law_reach : MSp := fun ds h Q _ => ∃ l r : Int, ds = [.int l, .int r] ∧ Q (.int (reV l r 7 0)) h
/-- the ways -/
inductive Way where
  | round | halves | reach | whole
def Way.s : Way → Str
  | .round => "round"
  | .halves => "halves"
  | .reach => "reach"
  | .whole => "whole"
def papV (w : Way) (ring some : List Int) : D := match w with
  | .round => .tup (some.map fun x => .tup [.int x, .int (stV ring some x 1)])
  | .halves => .tup ((phV ring some).map rwD)
  | .reach => .tup (some.map fun x => .tup [.int x, .int (stV ring some x (-1)), .int (stV ring some x 1)])
  | .whole => .tup []
def rlV (ring some : List Int) : Int := (some.map fun x => (stV ring some x 1 : Int)).sum + ring.length
def toldV (w : Way) (ring some : List Int) : Int := match w with
  | .round => rlV ring some
  | .halves => 2 * ring.length * (phV ring some).length
  | .reach => trV ring some
  | .whole => ring.length * (ring.length - 1)
/-- a ring and some of its houses -/
structure Gd (w : Way) (ring some : List Int) : Prop where
  rk : RgK ring
  l64 : ring.length ≤ 64
  sk : Sds ring.length some
  nd : some.Nodup
  s1 : 1 ≤ some.length
  rn : w = .halves → ring.Nodup
def c_sum_paper : MSp := fun ds h Q _ => ∃ (w : Way) (ring some : List Int), ds = [.str w.s, tI ring, tI some] ∧ RgK ring ∧ Sds ring.length some ∧ ∀ h', Fr [] h h' → Q (papV w ring some) h'
def c_law_paper : MSp := fun ds h Q _ => ∃ (w : Way) (ring some : List Int), ds = [.str w.s, tI ring, tI some] ∧ RgK ring ∧ Sds ring.length some ∧ ∀ h', Fr [] h h' → Q (papV w ring some) h'
def c_round_letters : MSp := fun ds h Q _ => ∃ (ring some : List Int), ds = [tI ring, tI some] ∧ RgK ring ∧ Sds ring.length some ∧ ∀ h', Fr [] h h' → Q (.int (rlV ring some)) h'
def c_told_letters : MSp := fun ds h Q _ => ∃ (w : Way) (ring some : List Int), ds = [.str w.s, tI ring, tI some] ∧ RgK ring ∧ ring.length ≤ 64 ∧ Sds ring.length some ∧ ∀ h', Fr [] h h' → Q (.int (toldV w ring some)) h'
def c_law_told : MSp := fun ds h Q _ => ∃ (w : Way) (ring some : List Int), ds = [.str w.s, tI ring, tI some] ∧ RgK ring ∧ ring.length ≤ 64 ∧ Sds ring.length some ∧ ∀ h', Fr [] h h' → Q (.int (toldV w ring some)) h'
def c_law_word : MSp := fun ds h Q _ => ∃ (a : Addr) (many t : Nat), ds = [.ref a, .int many] ∧ 1 ≤ many ∧ many ≤ 1000 ∧ Hand h a (t + 2 + many) ∧ ∀ h' (xs : List Int), xs.length = many → Hand h' a t → Fr [a] h h' → Q (tI xs) h'
/-! ### sums shown -/
def kn0 (h : MH) : D → Prop
  | .ref a => (∃ ds, h a = some (.lst ds)) ∨ ∃ kv, h a = some (.dK kv)
  | .rl _ => False
  | _ => True
/-- a thing whose kind is known, n deep -/
def Th (h : MH) : Nat → D → Prop
  | 0, d => kn0 h d
  | n + 1, d => kn0 h d ∧ ∀ ds, d = .tup ds → ds.length ≤ 100000 ∧ ∀ x ∈ ds, Th h n x
def isI : D → Bool
  | .int _ => true
  | _ => false
def rowOk (s : Nat) : D → Bool
  | .tup xs => decide (xs.length = s) && xs.all isI
  | _ => false
def arD (s : Nat) : D → Bool
  | .tup rows => rows.all (rowOk s)
  | _ => false
def grC (ring some : List Int) (house steps : Int) : Bool := decide ((house + steps) % ring.length ∈ some) && decide (ring.getD house.toNat 0 < ring.getD ((house + steps) % ring.length).toNat 0)
def c_is_whole : MSp := fun ds h Q _ => ∃ d, ds = [d] ∧ kn0 h d ∧ Q (.bl (isI d)) h
def c_are_rows : MSp := fun ds h Q _ => ∃ (d : D) (s : Nat), ds = [d, .int s] ∧ Th h 2 d ∧ ∀ h', Fr [] h h' → Q (.bl (arD s d)) h'
def c_is_greater : MSp := fun ds h Q _ => ∃ (ring some : List Int) (house steps : Int), ds = [tI ring, tI some, .int house, .int steps] ∧ RgK ring ∧ 0 ≤ house ∧ house < ring.length ∧ Q (.bl (grC ring some house steps)) h
def c_is_stop : MSp := fun ds h Q _ => ∃ (ring some : List Int) (house side stop : Int), ds = [tI ring, tI some, .int house, .int side, .int stop] ∧ RgK ring ∧ 0 ≤ house ∧ house < ring.length ∧ (side = 1 ∨ side = -1) ∧ ∀ h', Fr [] h h' → Q (.bl (decide (stop = (stV ring some house side : Int)))) h'
def c_shows (w : Way) : MSp := fun ds h Q _ => ∃ (ring some : List Int) (number : Int) (d : D), ds = [tI ring, tI some, .int number, d] ∧ Gd w ring some ∧ Th h 3 d ∧ ∀ b h', Fr [] h h' → (b = true ↔ d = papV w ring some ∧ number = toldV w ring some) → Q (.bl b) h'
abbrev c_shows_round : MSp := c_shows .round
abbrev c_shows_halves : MSp := c_shows .halves
abbrev c_shows_reach : MSp := c_shows .reach
def c_shows_sum : MSp := fun ds h Q _ => ∃ (w : Way) (ring some : List Int) (x d : D), ds = [.str w.s, tI ring, tI some, x, d] ∧ Gd w ring some ∧ kn0 h x ∧ Th h 3 d ∧ ∀ b h', Fr [] h h' → (b = true ↔ d = papV w ring some ∧ x = .int (toldV w ring some)) → Q (.bl b) h'
abbrev p3D (t : Int × Int × Int) : D := .tup [.int t.1, .int t.2.1, .int t.2.2]
def nest : Nat → D
  | 0 => .int 0
  | k + 1 => .tup [nest k]
def NN : D → Prop
  | .int _ => False
  | .tup _ => False
  | .rl _ => False
  | _ => True
def c_law_nested : MSp := fun ds h Q _ => ∃ (deep : Nat) (b : Bool), ds = [.int deep, .bl b] ∧ deep ≤ 100 ∧ 1 ≤ deep ∧ ∀ h' x, Fr [] h h' → (b = true → ∃ p ds, x = .ref p ∧ h' p = some (.lst ds)) → (b = false → x = nest deep) → Q x h'
def c_law_odd : MSp := fun ds h Q _ => ∃ (a : Addr) (t : Nat), ds = [.ref a] ∧ Hand h a (t + 2) ∧ ∀ h' x, kn0 h' x → NN x → Hand h' a t → Fr [a] h h' → Q x h'
/-- a row of a way's paper -/
def Rw (w : Way) (d : D) : Prop := match w with
  | .round => ∃ p : Int × Int, d = prD p
  | .reach => ∃ p : Int × Int × Int, d = p3D p
  | .halves => ∃ ps : List (Int × Int), d = rwD ps ∧ 1 ≤ ps.length ∧ ps.length ≤ 1000
  | .whole => False
def c_law_put : MSp := fun ds h Q _ => ∃ (xs : List D) (k : Nat) (x : D), ds = [.tup xs, .int k, x] ∧ k < xs.length ∧ xs.length ≤ 100000 ∧ Q (.tup (xs.set k x)) h
def c_law_kinds : MSp := fun ds h Q _ => ∃ (w : Way) (rs : List D), ds = [.tup rs] ∧ (∀ r ∈ rs, Rw w r) ∧ rs.length ≤ 1001 ∧ ∀ p h' L, Fr [] h h' → h p = none → h' p = some (.lst L) → L.length ≤ 20 → (∀ x ∈ L, Th h' 3 x ∧ x ≠ .tup rs) → Q (.ref p) h'
def c_law_inside : MSp := fun ds h Q _ => ∃ (a : Addr) (t : Nat) (w : Way) (rs : List D), ds = [.ref a, .tup rs] ∧ (∀ r ∈ rs, Rw w r) ∧ 1 ≤ rs.length ∧ rs.length ≤ 1001 ∧ Hand h a (t + 10) ∧ ∀ h' x, Th h' 3 x → x ≠ .tup rs → Hand h' a t → Fr [a] h h' → Q x h'
def c_law_right_here : MSp := fun ds h Q _ => ∃ (a : Addr) (t : Nat) (w : Way) (ring some : List Int), ds = [.ref a, .str w.s, tI ring, tI some] ∧ Gd w ring some ∧ Hand h a (t + 80) ∧ ∀ h', Hand h' a t → Fr [a] h h' → Q (.bl true) h'
def c_law : MSp := fun ds h Q _ => ∃ ns : List Int, ds = [.rl (ns.map .int)] ∧ ns.length ≤ 63 ∧ ∀ h', Q (.bl true) h'
abbrev k_LEFT : D := .int (-1)
abbrev k_RIGHT : D := .int 1
-- next_row: ['row', 'found', 'place', 'house', 'held', 'near']
abbrev m_next_row : MTS :=
 (mSeq (mSet 1 (mLst mNil))
 (mSeq (mFor (mEnum (mVar 0)) (.tp [(.nm 2), (.tp [(.nm 3), (.nm 4)])]) (mSeq (mSet 5 (mOp rIx (mOp rIx (mVar 0) (mOp rSub (mVar 2) (mC (.int 1)))) (mC (.int 1))))
 (mIf (mAnd (mTest (mOp rGtI (mVar 5) (mVar 4))) (mTest (mOp rGtI (mVar 5) (mOp rIx (mOp rIx (mVar 0) (mOp rSub (mVar 2) (mC (.int 2)))) (mC (.int 1)))))) (mDrop (mBM "list" rAppend (mVar 1) (mCons (mTup (mCons (mVar 3) (mCons (mVar 5) mNil))) mNil))) mNext)))
 (mRet (mCa rTuple (mCons (mVar 1) mNil)))))
abbrev N_next_row : List Str := ["row", "found", "place", "house", "held", "near"]
-- side_letters: ['reach', 'stop']
abbrev m_side_letters : MTS :=
 (mSeq (mIf (mTest (mOp rGtI (mVar 1) (mVar 0))) (mRet (mOp rMul (mC (.int 2)) (mVar 0))) mNext)
 (mRet (mVar 1)))
abbrev N_side_letters : List Str := ["reach", "stop"]
-- reach_letters: ['left', 'right', 'total', 'reach', 'is_on']
abbrev m_reach_letters : MTS :=
 (mSeq (mSet 2 (mC (.int 0)))
 (mSeq (mSet 3 (mC (.int 1)))
 (mSeq (mSet 4 (mC (.bl true)))
 (mSeq (mWhile (mTest (mVar 4)) (mSeq (mAug 2 rIAdd (mOp rAdd (mCall c_side_letters noE (mCons (mVar 3) (mCons (mVar 0) mNil))) (mCall c_side_letters noE (mCons (mVar 3) (mCons (mVar 1) mNil)))))
 (mSeq (mSet 4 (mAndV (mOp rGtI (mVar 0) (mVar 3)) (mOp rGtI (mVar 1) (mVar 3))))
 (mSet 3 (mOp rMul (mC (.int 2)) (mVar 3))))))
 (mRet (mVar 2))))))
abbrev N_reach_letters : List Str := ["left", "right", "total", "reach", "is_on"]
-- is_whole: ['thing']
abbrev m_is_whole : MTS :=
 (mRet (mAndV (mIsi "int" (mVar 0)) (mNotV (mTest (mIsi "bool" (mVar 0))))))
abbrev N_is_whole : List Str := ["thing"]
-- are_rows: ['thing', 'size', 'row', 'one']
abbrev m_are_rows : MTS :=
 (mSeq (mIf (mNot (mTest (mIsi "tuple" (mVar 0)))) (mRet (mC (.bl false))) mNext)
 (mSeq (mFor (mIter (mVar 0)) (.nm 2) (mIf (mOr (mNot (mTest (mIsi "tuple" (mVar 2)))) (mOr (mTest (mOp rNe (mCa rLen (mCons (mVar 2) mNil)) (mVar 1))) (mNot (mTest (mCa rAll (mCons (mLc (mIter (mVar 2)) (.nm 3) mYes (mCall c_is_whole noE (mCons (mVar 3) mNil)) [3]) mNil)))))) (mRet (mC (.bl false))) mNext))
 (mRet (mC (.bl true)))))
abbrev N_are_rows : List Str := ["thing", "size", "row", "one"]
-- is_greater: ['ring', 'some', 'house', 'steps', 'other']
abbrev m_is_greater : MTS :=
 (mSeq (mSet 4 (mOp rMod (mOp rAdd (mVar 2) (mVar 3)) (mCa rLen (mCons (mVar 0) mNil))))
 (mRet (mAndV (mOp (rIn false) (mVar 4) (mVar 1)) (mOp rGtI (mOp rIx (mVar 0) (mVar 4)) (mOp rIx (mVar 0) (mVar 2))))))
abbrev N_is_greater : List Str := ["ring", "some", "house", "steps", "other"]
-- is_stop: ['ring', 'some', 'house', 'side', 'stop', 'steps']
abbrev m_is_stop : MTS :=
 (mSeq (mIf (mNot (mTest (mChain rLeI rLeI (mC (.int 1)) (mVar 4) (mCa rLen (mCons (mVar 0) mNil))))) (mRet (mC (.bl false))) mNext)
 (mSeq (mIf (mTest (mCa rAny (mCons (mLc (mRange2 (mC (.int 1)) (mVar 4)) (.nm 5) mYes (mCall c_is_greater noE (mCons (mVar 0) (mCons (mVar 1) (mCons (mVar 2) (mCons (mOp rMul (mVar 3) (mVar 5)) mNil))))) [5]) mNil))) (mRet (mC (.bl false))) mNext)
 (mRet (mOrV (mOp rEq (mVar 4) (mCa rLen (mCons (mVar 0) mNil))) (mCall c_is_greater noE (mCons (mVar 0) (mCons (mVar 1) (mCons (mVar 2) (mCons (mOp rMul (mVar 3) (mVar 4)) mNil)))))))))
abbrev N_is_stop : List Str := ["ring", "some", "house", "side", "stop", "steps"]
-- shows_round: ['ring', 'some', 'number', 'paper', 'house', 'stop', 'row']
abbrev m_shows_round : MTS :=
 (mSeq (mIf (mOr (mNot (mTest (mCall c_are_rows noE (mCons (mVar 3) (mCons (mC (.int 2)) mNil))))) (mTest (mOp rNe (mCa rTuple (mCons (mLc (mIter (mVar 3)) (.nm 6) mYes (mOp rIx (mVar 6) (mC (.int 0))) [6]) mNil)) (mVar 1)))) (mRet (mC (.bl false))) mNext)
 (mSeq (mIf (mNot (mTest (mCa rAll (mCons (mLc (mIter (mVar 3)) (.tp [(.nm 4), (.nm 5)]) mYes (mCall c_is_stop noE (mCons (mVar 0) (mCons (mVar 1) (mCons (mVar 4) (mCons (mC (.int 1)) (mCons (mVar 5) mNil)))))) [4, 5]) mNil)))) (mRet (mC (.bl false))) mNext)
 (mRet (mOp rEq (mVar 2) (mOp rAdd (mCa rLen (mCons (mVar 0) mNil)) (mCa rSum (mCons (mLc (mIter (mVar 3)) (.tp [(.nm 4), (.nm 5)]) mYes (mVar 5) [4, 5]) mNil)))))))
abbrev N_shows_round : List Str := ["ring", "some", "number", "paper", "house", "stop", "row"]
-- shows_reach: ['ring', 'some', 'number', 'paper', 'total', 'house', 'left', 'right', 'row']
abbrev m_shows_reach : MTS :=
 (mSeq (mIf (mOr (mNot (mTest (mCall c_are_rows noE (mCons (mVar 3) (mCons (mC (.int 3)) mNil))))) (mTest (mOp rNe (mCa rTuple (mCons (mLc (mIter (mVar 3)) (.nm 8) mYes (mOp rIx (mVar 8) (mC (.int 0))) [8]) mNil)) (mVar 1)))) (mRet (mC (.bl false))) mNext)
 (mSeq (mSet 4 (mCa rLen (mCons (mVar 0) mNil)))
 (mSeq (mFor (mIter (mVar 3)) (.tp [(.nm 5), (.nm 6), (.nm 7)]) (mSeq (mIf (mOr (mNot (mTest (mCall c_is_stop noE (mCons (mVar 0) (mCons (mVar 1) (mCons (mVar 5) (mCons (mC (.int (-1))) (mCons (mVar 6) mNil)))))))) (mNot (mTest (mCall c_is_stop noE (mCons (mVar 0) (mCons (mVar 1) (mCons (mVar 5) (mCons (mC (.int 1)) (mCons (mVar 7) mNil))))))))) (mRet (mC (.bl false))) mNext)
 (mAug 4 rIAdd (mCall c_reach_letters noE (mCons (mVar 6) (mCons (mVar 7) mNil))))))
 (mRet (mOp rEq (mVar 2) (mVar 4))))))
abbrev N_shows_reach : List Str := ["ring", "some", "number", "paper", "total", "house", "left", "right", "row"]
-- shows_halves: ['ring', 'some', 'number', 'paper', 'one', 'other', 'row', 'house']
abbrev m_shows_halves : MTS :=
 (mSeq (mIf (mOr (mNot (mTest (mIsi "tuple" (mVar 3)))) (mOr (mTest (mOp rEq (mCa rLen (mCons (mVar 3) mNil)) (mC (.int 0)))) (mNot (mTest (mCa rAll (mCons (mLc (mIter (mVar 3)) (.nm 6) mYes (mCall c_are_rows noE (mCons (mVar 6) (mCons (mC (.int 2)) mNil))) [6]) mNil)))))) (mRet (mC (.bl false))) mNext)
 (mSeq (mIf (mOr (mTest (mOp rNe (mOp rIx (mVar 3) (mC (.int 0))) (mCa rTuple (mCons (mLc (mIter (mVar 1)) (.nm 7) mYes (mTup (mCons (mVar 7) (mCons (mOp rIx (mVar 0) (mVar 7)) mNil))) [7]) mNil)))) (mTest (mOp rNe (mCa rLen (mCons (mOp rIx (mVar 3) (mUn rNeg (mC (.int 1)))) mNil)) (mC (.int 1))))) (mRet (mC (.bl false))) mNext)
 (mSeq (mIf (mNot (mTest (mCa rAll (mCons (mLc (mZip (mVar 3) (mSl rSl (mVar 3) (mPart (mC (.int 1))) mNo)) (.tp [(.nm 4), (.nm 5)]) mYes (mAndV (mOp rGtI (mCa rLen (mCons (mVar 4) mNil)) (mC (.int 1))) (mOp rEq (mCall c_next_row noE (mCons (mVar 4) mNil)) (mVar 5))) [4, 5]) mNil)))) (mRet (mC (.bl false))) mNext)
 (mRet (mOp rEq (mVar 2) (mOp rMul (mOp rMul (mC (.int 2)) (mCa rLen (mCons (mVar 0) mNil))) (mCa rLen (mCons (mVar 3) mNil))))))))
abbrev N_shows_halves : List Str := ["ring", "some", "number", "paper", "one", "other", "row", "house"]
-- shows_sum: ['way', 'ring', 'some', 'number', 'paper']
abbrev m_shows_sum : MTS :=
 (mSeq (mIf (mNot (mTest (mCall c_is_whole noE (mCons (mVar 3) mNil)))) (mRet (mC (.bl false))) mNext)
 (mSeq (mIf (mTest (mOp rEq (mVar 0) (mC (.str "round")))) (mRet (mCall c_shows_round noE (mCons (mVar 1) (mCons (mVar 2) (mCons (mVar 3) (mCons (mVar 4) mNil)))))) mNext)
 (mSeq (mIf (mTest (mOp rEq (mVar 0) (mC (.str "halves")))) (mRet (mCall c_shows_halves noE (mCons (mVar 1) (mCons (mVar 2) (mCons (mVar 3) (mCons (mVar 4) mNil)))))) mNext)
 (mSeq (mIf (mTest (mOp rEq (mVar 0) (mC (.str "reach")))) (mRet (mCall c_shows_reach noE (mCons (mVar 1) (mCons (mVar 2) (mCons (mVar 3) (mCons (mVar 4) mNil)))))) mNext)
 (mRet (mAndV (mIsi "tuple" (mVar 4)) (mAndV (mOp rEq (mCa rLen (mCons (mVar 4) mNil)) (mC (.int 0))) (mOp rEq (mVar 3) (mOp rMul (mCa rLen (mCons (mVar 1) mNil)) (mOp rSub (mCa rLen (mCons (mVar 1) mNil)) (mC (.int 1))))))))))))
abbrev N_shows_sum : List Str := ["way", "ring", "some", "number", "paper"]
-- _law_hand: ['_law_script', '_law_k', '_law_cell']
abbrev m_law_hand : MTS :=
 (mSeq (mSet 2 (mC (.int 0)))
 (mSeq (mIf (mTest (mOp rLtI (mVar 1) (mCa rLen (mCons (mVar 0) mNil)))) (mSet 2 (mOp rIx (mVar 0) (mVar 1))) mNext)
 (mRet (mLst (mCons (mOp rMul (mVar 2) (mCa rInt1 (mCons (mOp rGeI (mVar 2) (mOp rPow (mC (.int 10)) (mC (.int 18)))) mNil))) (mCons (mOp rAdd (mOp rAdd (mOp rMod (mVar 2) (mC (.int 2305843009213693951))) (mOp rMul (mC (.int 7919)) (mVar 1))) (mC (.int 3))) (mCons (mC (.int 0)) mNil)))))))
abbrev N_law_hand : List Str := ["_law_script", "_law_k", "_law_cell"]
-- _law_take: ['_law_from', '_law_many', '_law_turn', '_law_mixed', '_law_digit']
abbrev m_law_take : MTS :=
 (mSeq (mIf (mTest (mOp rGtI (mOp rIx (mVar 0) (mC (.int 0))) (mC (.int 0)))) (mSeq (mSet 4 (mOp rMod (mOp rIx (mVar 0) (mC (.int 0))) (mVar 1)))
 (mSeq (mPut rSetL (mOp rFdiv (mOp rIx (mVar 0) (mC (.int 0))) (mVar 1)) (mVar 0) (mC (.int 0)))
 (mRet (mVar 4)))) mNext)
 (mSeq (mPut rSetL (mOp rAdd (mOp rIx (mVar 0) (mC (.int 2))) (mC (.int 1))) (mVar 0) (mC (.int 2)))
 (mSeq (mSet 2 (mOp rIx (mVar 0) (mC (.int 2))))
 (mSeq (mSet 3 (mOp rMod (mOp rAdd (mOp rMul (mOp rIx (mVar 0) (mC (.int 1))) (mOp rAdd (mC (.int 48271)) (mOp rMul (mOp rMul (mC (.int 2)) (mVar 2)) (mVar 2)))) (mOp rMul (mC (.int 65537)) (mVar 2))) (mC (.int 2305843009213693921))))
 (mSeq (mSet 3 (mOp rMod (mOp rMul (mVar 3) (mOp rAdd (mOp rAdd (mOp rMod (mVar 3) (mC (.int 1000003))) (mOp rMul (mC (.int 99991)) (mVar 2))) (mC (.int 11)))) (mC (.int 2305843009213693907))))
 (mRet (mOp rMod (mOp rAdd (mOp rFdiv (mVar 3) (mC (.int 97))) (mOp rFdiv (mVar 3) (mC (.int 1000033)))) (mVar 1))))))))
abbrev N_law_take : List Str := ["_law_from", "_law_many", "_law_turn", "_law_mixed", "_law_digit"]
-- _law_order: ['_law_from', '_law_many', '_law_way', '_law_turn', '_law_left', '_law_k']
abbrev m_law_order : MTS :=
 (mSeq (mSet 2 (mCall c_law_take noE (mCons (mVar 0) (mCons (mC (.int 6)) mNil))))
 (mSeq (mSet 3 (mCall c_law_take noE (mCons (mVar 0) (mCons (mVar 1) mNil))))
 (mSeq (mSet 4 (mLc (mRange1 (mVar 1)) (.nm 5) mYes (mOp rMod (mOp rAdd (mVar 3) (mVar 5)) (mVar 1)) [5]))
 (mSeq (mIf (mTest (mOp rEq (mVar 2) (mC (.int 0)))) (mRet (mVar 4)) mNext)
 (mSeq (mIf (mTest (mOp rEq (mVar 2) (mC (.int 1)))) (mRet (mOp rStep (mVar 4) (mUn rNeg (mC (.int 1))))) mNext)
 (mRet (mLc (mRange1 (mVar 1)) (.nm 5) mYes (mBM "list" rPopAt (mVar 4) (mCons (mCall c_law_take noE (mCons (mVar 0) (mCons (mCa rLen (mCons (mVar 4) mNil)) mNil))) mNil)) [5])))))))
abbrev N_law_order : List Str := ["_law_from", "_law_many", "_law_way", "_law_turn", "_law_left", "_law_k"]
-- _law_ring: ['_law_from', '_law_many', '_law_order_here', '_law_k']
abbrev m_law_ring : MTS :=
 (mSeq (mSet 2 (mCall c_law_order noE (mCons (mVar 0) (mCons (mVar 1) mNil))))
 (mSeq (mIf (mTest (mOp rEq (mCall c_law_take noE (mCons (mVar 0) (mCons (mC (.int 3)) mNil))) (mC (.int 0)))) (mRet (mCa rTuple (mCons (mLc (mIter (mVar 2)) (.nm 3) mYes (mOp rAdd (mOp rMul (mVar 3) (mC (.int 15625000000))) (mCall c_law_take noE (mCons (mVar 0) (mCons (mOp rPow (mC (.int 10)) (mC (.int 10))) mNil)))) [3]) mNil))) mNext)
 (mRet (mCa rTuple (mCons (mVar 2) mNil)))))
abbrev N_law_ring : List Str := ["_law_from", "_law_many", "_law_order_here", "_law_k"]
-- _law_some: ['_law_from', '_law_many', '_law_way', '_law_one', '_law_k']
abbrev m_law_some : MTS :=
 (mSeq (mSet 2 (mCall c_law_take noE (mCons (mVar 0) (mCons (mC (.int 4)) mNil))))
 (mSeq (mIf (mTest (mOp rEq (mVar 2) (mC (.int 0)))) (mRet (mTupR1 (mVar 1))) mNext)
 (mSeq (mSet 3 (mCall c_law_take noE (mCons (mVar 0) (mCons (mVar 1) mNil))))
 (mSeq (mIf (mTest (mOp rEq (mVar 2) (mC (.int 1)))) (mRet (mTup (mCons (mVar 3) mNil))) mNext)
 (mRet (mCa rTuple (mCons (mLc (mRange1 (mVar 1)) (.nm 4) (mOr (mTest (mOp rEq (mVar 4) (mVar 3))) (mTest (mOp rEq (mCall c_law_take noE (mCons (mVar 0) (mCons (mVar 2) mNil))) (mC (.int 0))))) (mVar 4) [4]) mNil)))))))
abbrev N_law_some : List Str := ["_law_from", "_law_many", "_law_way", "_law_one", "_law_k"]
-- _law_size: ['_law_from']
abbrev m_law_size : MTS :=
 (mRet (mOp rAdd (mC (.int 1)) (mCall c_law_take noE (mCons (mVar 0) (mCons (mOp rIx (mLst (mCons (mC (.int 12)) (mCons (mC (.int 12)) (mCons (mC (.int 12)) (mCons (mC (.int 12)) (mCons (mC (.int 64)) mNil)))))) (mCall c_law_take noE (mCons (mVar 0) (mCons (mC (.int 5)) mNil)))) mNil)))))
abbrev N_law_size : List Str := ["_law_from"]
-- _law_stop: ['_law_ring_here', '_law_some_here', '_law_house', '_law_side', '_law_many', '_law_at', '_law_steps']
abbrev m_law_stop : MTS :=
 (mSeq (mSet 4 (mCa rLen (mCons (mVar 0) mNil)))
 (mSeq (mSet 5 (mVar 2))
 (mSeq (mFor (mRange2 (mC (.int 1)) (mVar 4)) (.nm 6) (mSeq (mSet 5 (mOp rMod (mOp rAdd (mVar 5) (mVar 3)) (mVar 4)))
 (mIf (mAnd (mTest (mOp (rIn false) (mVar 5) (mVar 1))) (mTest (mOp rGtI (mOp rIx (mVar 0) (mVar 5)) (mOp rIx (mVar 0) (mVar 2))))) (mRet (mVar 6)) mNext)))
 (mRet (mVar 4)))))
abbrev N_law_stop : List Str := ["_law_ring_here", "_law_some_here", "_law_house", "_law_side", "_law_many", "_law_at", "_law_steps"]
-- _law_reach: ['_law_left', '_law_right_here', '_law_total', '_law_k', '_law_far', '_law_stop_here']
abbrev m_law_reach : MTS :=
 (mSeq (mSet 2 (mC (.int 0)))
 (mSeq (mFor (mRange1 (mC (.int 7))) (.nm 3) (mSeq (mSet 4 (mOp rShl (mC (.int 1)) (mVar 3)))
 (mSeq (mFor (mIter (mTup (mCons (mVar 0) (mCons (mVar 1) mNil)))) (.nm 5) (mSeq (mSet 2 (mOp rAdd (mVar 2) (mCa rMin2 (mCons (mVar 4) (mCons (mVar 5) mNil)))))
 (mIf (mTest (mOp rGtI (mVar 5) (mVar 4))) (mSet 2 (mOp rAdd (mVar 2) (mVar 4))) mNext)))
 (mIf (mTest (mOp rLeI (mCa rMin2 (mCons (mVar 0) (mCons (mVar 1) mNil))) (mVar 4))) mBrk mNext))))
 (mRet (mVar 2))))
abbrev N_law_reach : List Str := ["_law_left", "_law_right_here", "_law_total", "_law_k", "_law_far", "_law_stop_here"]
-- _law_phases: ['_law_ring_here', '_law_some_here', '_law_houses', '_law_held', '_law_rows', '_law_size_here', '_law_stay', '_law_k', '_law_near', '_law_house', '_law_name']
abbrev m_law_phases : MTS :=
 (mSeq (mSet 2 (mCa rList (mCons (mVar 1) mNil)))
 (mSeq (mSet 3 (mLc (mIter (mVar 2)) (.nm 9) mYes (mOp rIx (mVar 0) (mVar 9)) [9]))
 (mSeq (mSet 4 (mLst (mCons (mCa rTuple (mCons (mLstZip (mVar 2) (mVar 3)) mNil)) mNil)))
 (mSeq (mWhile (mTest (mOp rGtI (mCa rLen (mCons (mVar 2) mNil)) (mC (.int 1)))) (mSeq (mSet 5 (mCa rLen (mCons (mVar 2) mNil)))
 (mSeq (mSet 6 (mLst mNil))
 (mSeq (mFor (mRange1 (mVar 5)) (.nm 7) (mSeq (mSet 8 (mOp rIx (mVar 3) (mOp rMod (mOp rSub (mOp rAdd (mVar 7) (mVar 5)) (mC (.int 1))) (mVar 5))))
 (mIf (mTest (mOp rGtI (mVar 8) (mCa rMax2 (mCons (mOp rIx (mVar 3) (mVar 7)) (mCons (mOp rIx (mVar 3) (mOp rMod (mOp rSub (mOp rAdd (mVar 7) (mVar 5)) (mC (.int 2))) (mVar 5))) mNil))))) (mDrop (mBM "list" rAppend (mVar 6) (mCons (mTup (mCons (mOp rIx (mVar 2) (mVar 7)) (mCons (mVar 8) mNil))) mNil))) mNext)))
 (mSeq (mDrop (mBM "list" rAppend (mVar 4) (mCons (mCa rTuple (mCons (mVar 6) mNil)) mNil)))
 (mSeq (mSet 2 (mLc (mIter (mVar 6)) (.tp [(.nm 9), (.nm 10)]) mYes (mVar 9) [9, 10]))
 (mSet 3 (mLc (mIter (mVar 6)) (.tp [(.nm 9), (.nm 10)]) mYes (mVar 10) [9, 10]))))))))
 (mRet (mCa rTuple (mCons (mVar 4) mNil)))))))
abbrev N_law_phases : List Str := ["_law_ring_here", "_law_some_here", "_law_houses", "_law_held", "_law_rows", "_law_size_here", "_law_stay", "_law_k", "_law_near", "_law_house", "_law_name"]
-- _law_told: ['_law_way', '_law_ring_here', '_law_some_here', '_law_many', '_law_total', '_law_house', '_law_right_here', '_law_left']
abbrev m_law_told : MTS :=
 (mSeq (mSet 3 (mCa rLen (mCons (mVar 1) mNil)))
 (mSeq (mIf (mTest (mOp rEq (mVar 0) (mC (.str "whole")))) (mRet (mOp rMul (mVar 3) (mOp rSub (mVar 3) (mC (.int 1))))) mNext)
 (mSeq (mIf (mTest (mOp rEq (mVar 0) (mC (.str "halves")))) (mRet (mOp rMul (mOp rMul (mC (.int 2)) (mVar 3)) (mCa rLen (mCons (mCall c_law_phases noE (mCons (mVar 1) (mCons (mVar 2) mNil))) mNil)))) mNext)
 (mSeq (mSet 4 (mVar 3))
 (mSeq (mFor (mIter (mVar 2)) (.nm 5) (mSeq (mSet 6 (mCall c_law_stop noE (mCons (mVar 1) (mCons (mVar 2) (mCons (mVar 5) (mCons (mC (.int 1)) mNil))))))
 (mIf (mTest (mOp rEq (mVar 0) (mC (.str "round")))) (mSet 4 (mOp rAdd (mVar 4) (mVar 6))) (mSeq (mSet 7 (mCall c_law_stop noE (mCons (mVar 1) (mCons (mVar 2) (mCons (mVar 5) (mCons (mUn rNeg (mC (.int 1))) mNil))))))
 (mSet 4 (mOp rAdd (mVar 4) (mCall c_law_reach noE (mCons (mVar 7) (mCons (mVar 6) mNil)))))))))
 (mRet (mVar 4)))))))
abbrev N_law_told : List Str := ["_law_way", "_law_ring_here", "_law_some_here", "_law_many", "_law_total", "_law_house", "_law_right_here", "_law_left"]
-- _law_paper: ['_law_way', '_law_ring_here', '_law_some_here', '_law_rows', '_law_house', '_law_row']
abbrev m_law_paper : MTS :=
 (mSeq (mIf (mTest (mOp rEq (mVar 0) (mC (.str "whole")))) (mRet (mTup mNil)) mNext)
 (mSeq (mIf (mTest (mOp rEq (mVar 0) (mC (.str "halves")))) (mRet (mCall c_law_phases noE (mCons (mVar 1) (mCons (mVar 2) mNil)))) mNext)
 (mSeq (mSet 3 (mLst mNil))
 (mSeq (mFor (mIter (mVar 2)) (.nm 4) (mSeq (mSet 5 (mTup (mCons (mVar 4) mNil)))
 (mSeq (mIf (mTest (mOp rEq (mVar 0) (mC (.str "reach")))) (mSet 5 (mOp rAdd (mVar 5) (mTup (mCons (mCall c_law_stop noE (mCons (mVar 1) (mCons (mVar 2) (mCons (mVar 4) (mCons (mUn rNeg (mC (.int 1))) mNil))))) mNil)))) mNext)
 (mDrop (mBM "list" rAppend (mVar 3) (mCons (mOp rAdd (mVar 5) (mTup (mCons (mCall c_law_stop noE (mCons (mVar 1) (mCons (mVar 2) (mCons (mVar 4) (mCons (mC (.int 1)) mNil))))) mNil))) mNil))))))
 (mRet (mCa rTuple (mCons (mVar 3) mNil)))))))
abbrev N_law_paper : List Str := ["_law_way", "_law_ring_here", "_law_some_here", "_law_rows", "_law_house", "_law_row"]
-- _law_word: ['_law_from', '_law_many', '_law_most', '_law_k']
abbrev m_law_word : MTS :=
 (mSeq (mSet 2 (mOp rIx (mLst (mCons (mC (.int 1)) (mCons (mC (.int 2)) (mCons (mC (.int 3)) (mCons (mC (.int 100)) mNil))))) (mCall c_law_take noE (mCons (mVar 0) (mCons (mC (.int 4)) mNil)))))
 (mRet (mCa rTuple (mCons (mLc (mRange1 (mVar 1)) (.nm 3) mYes (mCall c_law_take noE (mCons (mVar 0) (mCons (mVar 2) mNil))) [3]) mNil))))
abbrev N_law_word : List Str := ["_law_from", "_law_many", "_law_most", "_law_k"]
-- _law_nested: ['_law_deep', '_law_listed', '_law_thing', '_law_k']
abbrev m_law_nested : MTS :=
 (mSeq (mSet 2 (mC (.int 0)))
 (mSeq (mFor (mRange1 (mVar 0)) (.nm 3) (mSet 2 (mIfE (mTest (mVar 1)) (mLst (mCons (mVar 2) mNil)) (mTup (mCons (mVar 2) mNil)))))
 (mRet (mVar 2))))
abbrev N_law_nested : List Str := ["_law_deep", "_law_listed", "_law_thing", "_law_k"]
-- _law_odd: ['_law_from', '_law_deep', '_law_some_odd']
abbrev m_law_odd : MTS :=
 (mSeq (mSet 1 (mOp rAdd (mC (.int 1)) (mCall c_law_take noE (mCons (mVar 0) (mCons (mC (.int 55)) mNil)))))
 (mSeq (mSet 2 (mLst (mCons (mC .non) (mCons (mC (.str "1")) (mCons (mC (.str "")) (mCons (mLst mNil) (mCons mDisp0 (mCons (mDisp1 (.inl 0) (.int 1)) (mCons (mC (.bl true)) (mCons (mC (.bl false)) (mCons (mCall c_law_nested noE (mCons (mVar 1) (mCons (mC (.bl true)) mNil))) (mCons (mLst (mCons (mC (.int 0)) mNil)) (mCons (mDispN [(.inr "a", (mTup mNil))]) mNil)))))))))))))
 (mRet (mOp rIx (mVar 2) (mCall c_law_take noE (mCons (mVar 0) (mCons (mCa rLen (mCons (mVar 2) mNil)) mNil)))))))
abbrev N_law_odd : List Str := ["_law_from", "_law_deep", "_law_some_odd"]
-- _law_put: ['_law_things', '_law_at', '_law_thing']
abbrev m_law_put : MTS :=
 (mRet (mOp rAdd (mOp rAdd (mSl rSl (mVar 0) mNo (mPart (mVar 1))) (mTup (mCons (mVar 2) mNil))) (mSl rSl (mVar 0) (mPart (mOp rAdd (mVar 1) (mC (.int 1)))) mNo)))
abbrev N_law_put : List Str := ["_law_things", "_law_at", "_law_thing"]
-- _law_kinds: ['_law_rows', '_law_found', '_law_row']
abbrev m_law_kinds : MTS :=
 (mSeq (mSet 1 (mLst (mCons (mCa rList (mCons (mVar 0) mNil)) (mCons (mLc (mIter (mVar 0)) (.nm 2) mYes (mCa rList (mCons (mVar 2) mNil)) [2]) (mCons (mTup (mCons (mVar 0) mNil)) (mCons (mLst (mCons (mVar 0) mNil)) mNil))))))
 (mSeq (mIf (mTest (mOp rNe (mVar 0) (mTup mNil))) (mSeq (mSet 2 (mOp rIx (mVar 0) (mC (.int 0))))
 (mSeq (mSet 1 (mOp rAdd (mVar 1) (mLst (mCons (mCall c_law_put noE (mCons (mVar 0) (mCons (mC (.int 0)) (mCons (mCa rList (mCons (mVar 2) mNil)) mNil)))) (mCons (mCall c_law_put noE (mCons (mVar 0) (mCons (mC (.int 0)) (mCons (mTup (mCons (mVar 2) mNil)) mNil)))) mNil)))))
 (mSeq (mIf (mAnd (mNot (mTest (mIsi "tuple" (mOp rIx (mVar 2) (mC (.int 0)))))) (mTest (mOp (rIn false) (mOp rIx (mVar 2) (mC (.int 0))) (mTup (mCons (mC (.int 0)) (mCons (mC (.int 1)) mNil)))))) (mDrop (mBM "list" rAppend (mVar 1) (mCons (mCall c_law_put noE (mCons (mVar 0) (mCons (mC (.int 0)) (mCons (mOp rAdd (mTup (mCons (mOp rEq (mOp rIx (mVar 2) (mC (.int 0))) (mC (.int 1))) mNil)) (mSl rSl (mVar 2) (mPart (mC (.int 1))) mNo)) mNil)))) mNil))) mNext)
 (mIf (mAnd (mNot (mTest (mIsi "tuple" (mOp rIx (mVar 2) (mC (.int 0)))))) (mTest (mOp rEq (mOp rIx (mVar 2) (mUn rNeg (mC (.int 1)))) (mC (.int 1))))) (mDrop (mBM "list" rAppend (mVar 1) (mCons (mCall c_law_put noE (mCons (mVar 0) (mCons (mC (.int 0)) (mCons (mOp rAdd (mSl rSl (mVar 2) mNo (mPart (mUn rNeg (mC (.int 1))))) (mTup (mCons (mC (.bl true)) mNil))) mNil)))) mNil))) mNext)))) mNext)
 (mRet (mVar 1))))
abbrev N_law_kinds : List Str := ["_law_rows", "_law_found", "_law_row"]
-- _law_inside: ['_law_from', '_law_rows', '_law_at', '_law_row', '_law_place', '_law_pair']
abbrev m_law_inside : MTS :=
 (mSeq (mSet 2 (mCall c_law_take noE (mCons (mVar 0) (mCons (mCa rLen (mCons (mVar 1) mNil)) mNil))))
 (mSeq (mSet 3 (mOp rIx (mVar 1) (mVar 2)))
 (mSeq (mIf (mTest (mOp rEq (mCall c_law_take noE (mCons (mVar 0) (mCons (mC (.int 3)) mNil))) (mC (.int 0)))) (mRet (mCall c_law_put noE (mCons (mVar 1) (mCons (mVar 2) (mCons (mCall c_law_odd noE (mCons (mVar 0) mNil)) mNil))))) mNext)
 (mSeq (mSet 4 (mCall c_law_take noE (mCons (mVar 0) (mCons (mCa rLen (mCons (mVar 3) mNil)) mNil))))
 (mSeq (mIf (mOr (mNot (mTest (mIsi "tuple" (mOp rIx (mVar 3) (mVar 4))))) (mTest (mOp rEq (mCall c_law_take noE (mCons (mVar 0) (mCons (mC (.int 2)) mNil))) (mC (.int 0))))) (mRet (mCall c_law_put noE (mCons (mVar 1) (mCons (mVar 2) (mCons (mCall c_law_put noE (mCons (mVar 3) (mCons (mVar 4) (mCons (mCall c_law_odd noE (mCons (mVar 0) mNil)) mNil)))) mNil))))) mNext)
 (mSeq (mSet 5 (mCall c_law_put noE (mCons (mOp rIx (mVar 3) (mVar 4)) (mCons (mCall c_law_take noE (mCons (mVar 0) (mCons (mC (.int 2)) mNil))) (mCons (mCall c_law_odd noE (mCons (mVar 0) mNil)) mNil)))))
 (mRet (mCall c_law_put noE (mCons (mVar 1) (mCons (mVar 2) (mCons (mCall c_law_put noE (mCons (mVar 3) (mCons (mVar 4) (mCons (mVar 5) mNil)))) mNil)))))))))))
abbrev N_law_inside : List Str := ["_law_from", "_law_rows", "_law_at", "_law_row", "_law_place", "_law_pair"]
-- _law_right_here: ['_law_from', '_law_way', '_law_asked', '_law_begun', '_law_number', '_law_rows', '_law_papers', '_law_turn', '_law_bad']
abbrev m_law_right_here : MTS :=
 (mSeq (mSet 4 (mCall c_law_told noE (mCons (mVar 1) (mCons (mVar 2) (mCons (mVar 3) mNil)))))
 (mSeq (mSet 5 (mCall c_law_paper noE (mCons (mVar 1) (mCons (mVar 2) (mCons (mVar 3) mNil)))))
 (mSeq (mSet 6 (mOp rAdd (mCall c_law_kinds noE (mCons (mVar 5) mNil)) (mLst (mCons (mCall c_law_odd noE (mCons (mVar 0) mNil)) (mCons (mCall c_law_nested noE (mCons (mOp rAdd (mC (.int 1)) (mCall c_law_take noE (mCons (mVar 0) (mCons (mC (.int 55)) mNil)))) (mCons (mC (.bl false)) mNil))) mNil)))))
 (mSeq (mFor (mRange1 (mOp rMul (mC (.int 4)) (mCa rInt1 (mCons (mOp rNe (mVar 5) (mTup mNil)) mNil)))) (.nm 7) (mDrop (mBM "list" rAppend (mVar 6) (mCons (mCall c_law_inside noE (mCons (mVar 0) (mCons (mVar 5) mNil))) mNil))))
 (mSeq (mFor (mIter (mVar 6)) (.nm 8) (mIf (mTest (mOp (rIs true) (mCall c_shows_sum noE (mCons (mVar 1) (mCons (mVar 2) (mCons (mVar 3) (mCons (mVar 4) (mCons (mVar 8) mNil)))))) (mC (.bl false)))) (mRet (mC (.bl false))) mNext))
 (mSeq (mFor (mIter (mTup (mCons (mC .non) (mCons (mCa rStrI (mCons (mVar 4) mNil)) (mCons (mTup (mCons (mVar 4) mNil)) (mCons (mLst (mCons (mVar 4) mNil)) (mCons (mCall c_law_odd noE (mCons (mVar 0) mNil)) (mCons (mOp rEq (mVar 4) (mC (.int 0))) mNil)))))))) (.nm 8) (mIf (mTest (mOp (rIs true) (mCall c_shows_sum noE (mCons (mVar 1) (mCons (mVar 2) (mCons (mVar 3) (mCons (mVar 8) (mCons (mVar 5) mNil)))))) (mC (.bl false)))) (mRet (mC (.bl false))) mNext))
 (mRet (mOp (rIs false) (mCall c_shows_sum noE (mCons (mVar 1) (mCons (mVar 2) (mCons (mVar 3) (mCons (mVar 4) (mCons (mVar 5) mNil)))))) (mC (.bl true))))))))))
abbrev N_law_right_here : List Str := ["_law_from", "_law_way", "_law_asked", "_law_begun", "_law_number", "_law_rows", "_law_papers", "_law_turn", "_law_bad"]
-- law: ['_law_script', '_law_k', '_law_from', '_law_many', '_law_here', '_law_begun', '_law_way']
abbrev m_law : MTS :=
 (mSeq (mFor (mRange1 (mCa rMax2 (mCons (mC (.int 2)) (mCons (mCa rMin2 (mCons (mC (.int 8)) (mCons (mCa rLen (mCons (mVar 0) mNil)) mNil))) mNil)))) (.nm 1) (mSeq (mSet 2 (mCall c_law_hand noE (mCons (mVar 0) (mCons (mVar 1) mNil))))
 (mSeq (mSet 3 (mCall c_law_size noE (mCons (mVar 2) mNil)))
 (mSeq (mSet 4 (mCall c_law_ring noE (mCons (mVar 2) (mCons (mVar 3) mNil))))
 (mSeq (mSet 5 (mCall c_law_some noE (mCons (mVar 2) (mCons (mVar 3) mNil))))
 (mSeq (mFor (mIter (mTup (mCons (mC (.str "round")) (mCons (mC (.str "halves")) (mCons (mC (.str "reach")) mNil))))) (.nm 6) (mIf (mNot (mTest (mCall c_law_right_here noE (mCons (mVar 2) (mCons (mVar 6) (mCons (mVar 4) (mCons (mVar 5) mNil))))))) (mRet (mC (.bl false))) mNext))
 (mIf (mNot (mTest (mCall c_law_right_here noE (mCons (mVar 2) (mCons (mC (.str "whole")) (mCons (mCall c_law_word noE (mCons (mVar 2) (mCons (mVar 3) mNil))) (mCons (mVar 5) mNil))))))) (mRet (mC (.bl false))) mNext)))))))
 (mRet (mOp (rIs false) (mCall c_shows_sum noE (mCons (mC (.str "whole")) (mCons (mTup (mCons (mC (.int 5)) mNil)) (mCons (mTup (mCons (mC (.int 0)) mNil)) (mCons (mC (.bl false)) (mCons (mTup mNil) mNil)))))) (mC (.bl false)))))
abbrev N_law : List Str := ["_law_script", "_law_k", "_law_from", "_law_many", "_law_here", "_law_begun", "_law_way"]
/-! ### the hand -/
theorem len_law_hand : ∀ ds h Q E, c_law_hand ds h Q E → ds.length = 2 := by rintro ds h Q E ⟨a, b, rfl, _⟩; rfl
theorem len_law_take : ∀ ds h Q E, c_law_take ds h Q E → ds.length = 2 := by rintro ds h Q E ⟨a, b, c, rfl, _⟩; rfl
theorem p_law_hand : ∀ ds h Q E, c_law_hand ds h Q E → m_law_hand { nx := fun _ h' => Q .non h', rt := Q } (mstart N_law_hand ds) h := by
  rintro ds h Q E ⟨ns, k, rfl, hk, q⟩
  walk_at "n"
  have fin : ∀ cell : Int, mRet (mLst (mCons (mOp rMul (mVar 2) (mCa rInt1 (mCons (mOp rGeI (mVar 2) (mOp rPow (mC (.int 10)) (mC (.int 18)))) mNil))) (mCons (mOp rAdd (mOp rAdd (mOp rMod (mVar 2) (mC (.int 2305843009213693951))) (mOp rMul (mC (.int 7919)) (mVar 1))) (mC (.int 3))) (mCons (mC (.int 0)) mNil)))) { nx := fun _ h' => Q .non h', rt := Q } [some (.rl (ns.map .int)), some (.int k), some (.int cell)] h := fun cell => by
    walk_at "n"
    have h1 := Int.emod_nonneg cell (show (2305843009213693951 : Int) ≠ 0 by decide)
    have h2 := Int.emod_lt_of_pos cell (show (0 : Int) < 2305843009213693951 by decide)
    refine ⟨⟨by decide, by decide, by decide⟩, mulOkR (by split <;> decide) (by split <;> decide), mulOkL (by decide) (by decide), fun p np => ?_⟩
    refine q p _ (.new np) np ⟨_, _, _, up_same, by omega, by omega, by omega, by omega⟩
  walk_at "n"
  refine ite_ (fun c => ?_) (fun c => ?_)
  · have hl : k < ns.length := by simpa using c
    have e : atI (ns.map D.int) (k : Int) = some (.int ns[k]) := atI_nat (by rw [List.getElem?_map, List.getElem?_eq_getElem hl]; rfl)
    walk_at "n"
  · walk_at "n"

theorem p_law_take : ∀ ds h Q E, c_law_take ds h Q E → m_law_take { nx := fun _ h' => Q .non h', rt := Q } (mstart N_law_take ds) h := by
  rintro ds h Q E ⟨a, many, t, rfl, ⟨s0, s1, s2, e, a1, a2, a3, a4⟩, hm, hm2, q⟩
  have dv : DivOk many := divOk hm hm2
  have r0 : ∀ x : Int, 0 ≤ x % many := fun x => Int.emod_nonneg x (by omega)
  have r1 : ∀ x : Int, x % many < many := fun x => Int.emod_lt_of_pos x hm
  walk_at "n"
  refine ite_ (fun c => ?_) (fun c => ?_)
  · walk_at "n"
    walk_at "n"
    walk_at "n"
    exact q _ _ (r0 _) (r1 _) ⟨_, _, _, up_same, a1, a2, a3, by omega⟩ (.put (by simp))
  · walk_at "n"
    walk_at "n"
    walk_at "n"
    walk_at "n"
    have dd : ∀ d : Int, 0 < d → d < 2 ^ 62 → DivOk d := fun d h1 h2 => divOk h1 (by omega)
    refine ⟨mulOkL (by decide) (by decide), mulOkL (by omega) (by omega), mulOkL (by omega) (by omega), mulOkL (by decide) (by decide), ?_⟩
    generalize hx : (s1 * (48271 + 2 * (s2 + 1) * (s2 + 1)) + 65537 * (s2 + 1)) % 2305843009213693921 = x
    have hx0 : 0 ≤ x := by rw [← hx]; exact Int.emod_nonneg _ (by decide)
    have hx1 : x < 2305843009213693921 := by rw [← hx]; exact Int.emod_lt_of_pos _ (by decide)
    walk_at "n"
    refine ⟨mulOkL (by decide) (by decide), mulOkL (by omega) (by omega), ?_⟩
    walk_at "n"
    exact ⟨dd _ (by decide) (by decide), dd _ (by decide) (by decide), q _ _ (r0 _) (r1 _) ⟨_, _, _, up_same, a1, a2, by omega, by omega⟩ (.put (by simp))⟩
/-! ### rings, some houses, stops -/
theorem len_law_order : ∀ ds h Q E, c_law_order ds h Q E → ds.length = 2 := by rintro ds h Q E ⟨a, b, c, rfl, _⟩; rfl
theorem len_law_ring : ∀ ds h Q E, c_law_ring ds h Q E → ds.length = 2 := by rintro ds h Q E ⟨a, b, c, rfl, _⟩; rfl
theorem len_law_some : ∀ ds h Q E, c_law_some ds h Q E → ds.length = 2 := by rintro ds h Q E ⟨a, b, c, rfl, _⟩; rfl
theorem len_law_size : ∀ ds h Q E, c_law_size ds h Q E → ds.length = 1 := by rintro ds h Q E ⟨a, b, rfl, _⟩; rfl
theorem row_atI {row : List Int} {x : Int} (h0 : 0 ≤ x) (h : x < row.length) : atI (row.map D.int) x = some (.int (row.getD x.toNat 0)) := by
  have e : x = (x.toNat : Int) := by omega
  have hl : x.toNat < row.length := by omega
  have := atI_ints (xs := row) (i := x.toNat) (x := row.getD x.toNat 0) (by rw [List.getD_eq_getElem?_getD, List.getElem?_eq_getElem hl]; rfl)
  rw [← e] at this
  exact this
theorem memI {x : D} {xs : List Int} (h : x ∈ xs.map D.int) : ∃ i, x = .int i ∧ i ∈ xs := let ⟨i, a, b⟩ := List.mem_map.mp h; ⟨i, b.symm, a⟩
theorem rgI0m (n : Nat) : rgI 0 (n : Int) = List.map (fun i : Nat => (i : Int)) (List.range n) := by
  unfold rgI
  rw [Int.sub_zero, Int.toNat_natCast]
  refine List.map_congr_left fun i _ => ?_
  rw [Int.zero_add]
theorem erase_map {α β : Type} (f : α → β) : ∀ (xs : List α) (i : Nat), (xs.map f).eraseIdx i = (xs.eraseIdx i).map f
  | [], _ => rfl
  | _ :: _, 0 => rfl
  | x :: xs, i + 1 => by show f x :: (xs.map f).eraseIdx i = f x :: (xs.eraseIdx i).map f; rw [erase_map f xs i]
theorem fst_step {c : Nat → Bool} {f k : Nat} : fst c f (k + 1) = if c f = true then f else fst c (f + 1) k := rfl
theorem perm_idx {α : Type} : ∀ {l : List α} {i : Nat} (h : i < l.length), (l[i] :: l.eraseIdx i).Perm l
  | [], i, h => by simp at h
  | x :: l, 0, h => List.Perm.refl _
  | x :: l, i + 1, h => by
    have h' : i < l.length := by simpa using h
    show (l[i] :: x :: l.eraseIdx i).Perm (x :: l)
    exact (List.Perm.swap _ _ _).trans ((perm_idx h').cons x)
theorem p_law_size : ∀ ds h Q E, c_law_size ds h Q E → m_law_size { nx := fun _ h' => Q .non h', rt := Q } (mstart N_law_size ds) h := by
  rintro ds h Q E ⟨a, t, rfl, hd, q⟩
  walk_at "n"
  intro p np
  refine ⟨a, 5, t + 1, rfl, hd.put (hd.ne np), by decide, by decide, fun r h1 r0 r1 hd1 f1 => ?_⟩
  have ep := f1.at1 up_same (Ne.symm (hd.ne np))
  obtain ⟨d, e1, e2⟩ := atI_lt (ds := [.int 12, .int 12, .int 12, .int 12, .int 64]) r0 r1
  have hd5 : ∃ v : Int, d = .int v ∧ 1 ≤ v ∧ v ≤ 64 := by
    obtain ⟨v, rfl, hv⟩ := memI (xs := [12, 12, 12, 12, 64]) e2
    refine ⟨v, rfl, ?_⟩
    simp only [List.mem_cons, List.not_mem_nil, or_false] at hv
    omega
  obtain ⟨v, rfl, v1, v2⟩ := hd5
  refine ⟨_, ep, _, e1, ?_⟩
  refine ⟨a, v, t, rfl, hd1, by omega, by omega, fun s h2 s0 s1 hd2 f2 => ?_⟩
  walk_at "m"
  obtain ⟨n, en⟩ : ∃ n : Nat, 1 + s = (n : Int) := ⟨(1 + s).toNat, by omega⟩
  rw [en]
  exact q n h2 (by omega) (by omega) hd2 (Fr.trans (Fr.new np) (f1.trans f2))
theorem p_law_order : ∀ ds h Q E, c_law_order ds h Q E → m_law_order { nx := fun _ h' => Q .non h', rt := Q } (mstart N_law_order ds) h := by
  rintro ds h Q E ⟨a, many, t, rfl, m1, m2, hd, q⟩
  walk_at "n"
  refine ⟨a, 6, t + 1 + many, rfl, hd.less (by omega), by decide, by decide, fun w h1 w0 w1 hd1 f1 => ?_⟩
  walk_at "n"
  refine ⟨a, many, t + many, rfl, hd1.less (by omega), by omega, by omega, fun u h2 u0 u1 hd2 f2 => ?_⟩
  walk_at "n"
  refine ⟨by omega, by omega, ?_⟩
  refine lcP (fun k => some (.int ((u + (k : Int)) % many))) (fun _ _ => trivial) (by rw [srcR_n]; omega) (fun k h3 hk fr => ⟨_, rfl, fun R r => ?_⟩) (fun p h3 fr np ep => ?_)
  · have : (0 : Int) < many := by omega
    walk_at "m"
    exact r h3 .refl
  have hn : (srcR 0 (many : Int).toNat 1).n = many := by rw [srcR_n]; omega
  have ex : (List.range many).filterMap (fun k : Nat => some (D.int ((u + (k : Int)) % many))) = ((List.range many).map fun k : Nat => (u + (k : Int)) % many).map D.int := by
    rw [fm_some, List.map_map]; rfl
  rw [hn, ex] at ep
  generalize hxs : ((List.range many).map fun k : Nat => (u + (k : Int)) % many) = xs at ep
  have lx : xs.length = many := by rw [← hxs, List.length_map, List.length_range]
  have bx : ∀ x ∈ xs, 0 ≤ x ∧ x < many := by
    intro x hx
    rw [← hxs] at hx
    obtain ⟨k, _, rfl⟩ := List.mem_map.mp hx
    exact ⟨Int.emod_nonneg _ (by omega), Int.emod_lt_of_pos _ (by omega)⟩
  have nx : xs.Nodup := by
    rw [← hxs]
    refine List.Pairwise.map _ (R := fun i j : Nat => i < j ∧ j < many) (fun i j q z => ?_) ?_
    · have z2 : (u + (i : Int)) % many = (u + (j : Int)) % many := z
      have z3 : (many : Int) ∣ ((u + (j : Int)) - (u + (i : Int))) := Int.dvd_of_emod_eq_zero (by rw [Int.sub_emod, z2, Int.sub_self, Int.zero_emod])
      have z4 : (many : Int) ∣ (((j - i : Nat)) : Int) := by
        rw [show ((j - i : Nat) : Int) = (u + (j : Int)) - (u + (i : Int)) by omega]; exact z3
      have z5 := Nat.le_of_dvd (by omega) (Int.natCast_dvd_natCast.mp z4)
      omega
    · refine (List.pairwise_lt_range (n := many)).imp_of_mem fun {i j} hi hj q => ⟨q, List.mem_range.mp hj⟩
  have hd3 := hd2.fr fr
  have np0 : h p = none := by
    cases c : h p with
    | none => rfl
    | some o =>
      have : a ≠ p := hd2.ne np
      rw [f2 p o (by simpa using Ne.symm this) (f1 p o (by simpa using Ne.symm this) c)] at np
      cases np
  have frh : Fr [a] h h3 := f1.trans (f2.trans (fr.mono (by simp)))
  have ap : a ≠ p := hd2.ne np
  clear hxs ex
  walk_at "n"
  refine ite_ (fun c => ?_) (fun c => ?_)
  · walk_at "n"
    exact q p h3 xs lx bx nx (hd3.less (by omega)) frh ep np0
  walk_at "n"
  walk_at "n"
  refine ite_ (fun c => ?_) (fun c => ?_)
  · walk_at "n"
    intro p2 np2
    refine q p2 _ xs.reverse (by rw [List.length_reverse, lx]) (fun x hx => bx x (List.mem_reverse.mp hx)) (List.pairwise_reverse.mpr (nx.imp Ne.symm)) ((hd3.put (hd3.ne np2)).less (by omega)) (frh.trans (.new np2)) (by rw [up_same, List.map_reverse]) ?_
    cases c : h p2 with
    | none => rfl
    | some o =>
      have : a ≠ p2 := hd3.ne np2
      rw [frh p2 o (by simpa using Ne.symm this) c] at np2
      cases np2
  walk_at "n"
  walk_at "n"
  refine ⟨by omega, by omega, ?_⟩
  refine lcS [a, p] (fun k acc h' => ∃ zs ys : List Int, acc = zs.map .int ∧ zs.length = k ∧ (∀ x ∈ zs, 0 ≤ x ∧ x < many) ∧ (∀ x ∈ ys, 0 ≤ x ∧ x < many) ∧ (zs ++ ys).Nodup ∧ ys.length + k = many ∧ h' p = some (.lst (ys.map .int)) ∧ Hand h' a (t + many - k)) (by
      intro b hb
      simp only [List.mem_cons, List.not_mem_nil, or_false] at hb
      rcases hb with rfl | rfl
      · exact hd3.some
      · rw [ep]; exact fun z => by cases z) ?_ ⟨[], xs, rfl, rfl, by simp, bx, nx, by omega, ep, hd3⟩ (fun _ _ => trivial) (by rw [srcR_n]; omega) ?_ ?_
  · rintro k acc h' p2 o np2 ⟨zs, ys, e1, e2, e3, e4, nd, e5, e6, e7⟩
    exact ⟨zs, ys, e1, e2, e3, e4, nd, e5, by rw [up_ne (ne_of ep np2)]; exact e6, e7.put (hd3.ne np2)⟩
  · rintro k acc h' hk f4 ⟨zs, ys, rfl, e2, e3, e4, nd, e5, e6, e7⟩ _
    have hk : k < many := by rw [srcR_n] at hk; omega
    refine ⟨_, rfl, fun R _ r => ?_⟩
    walk_at "m"
    refine ⟨a, ys.length, t + many - k - 1, rfl, e7.less (by omega), by omega, by omega, fun v h5 v0 v1 hd5 f5 => ?_⟩
    have e8 := f5.at1 e6 (Ne.symm ap)
    have hv : v.toNat < ys.length := by omega
    refine ⟨_, e8, v0, by rw [List.length_map]; exact v1, by rw [List.length_map]; omega, _, by rw [List.getElem?_map, List.getElem?_eq_getElem hv]; rfl, ?_⟩
    refine r _ _ ((f5.mono (by simp)).trans (.put (by simp))) ⟨zs ++ [ys[v.toNat]], ys.eraseIdx v.toNat, by rw [List.map_append]; rfl, by rw [List.length_append, e2]; rfl, ?_, fun x hx => e4 x (List.mem_of_mem_eraseIdx hx), (by rw [List.append_assoc]; exact ((List.Perm.append_left zs (perm_idx hv)).nodup_iff).mpr nd), by rw [List.length_eraseIdx_of_lt hv]; omega, by rw [up_same, erase_map], (hd5.put ap).less (by omega)⟩
    intro x hx
    rcases List.mem_append.mp hx with h | h
    · exact e3 x h
    · rw [List.mem_singleton.mp h]; exact e4 _ (List.getElem_mem hv)
  · rintro p2 h' acc f4 np2 e9 ⟨zs, ys, rfl, e2, e3, e4, nd, e5, e6, e7⟩
    rw [hn] at e2
    have fr4 : Fr [a] h h' := fun b o nb e => by
      have nbp : b ≠ p := ne_of e np0
      exact f4 b o (by simp only [List.mem_cons, List.not_mem_nil, or_false] at nb ⊢; exact fun z => z.elim nb nbp) (frh b o nb e)
    refine q p2 h' zs e2 e3 (List.nodup_append.mp nd).1 (e7.less (by omega)) fr4 e9 ?_
    cases c : h p2 with
    | none => rfl
    | some o =>
      have : a ≠ p2 := hd3.ne np2
      rw [frh p2 o (by simpa using Ne.symm this) c] at np2
      cases np2
theorem p_law_ring : ∀ ds h Q E, c_law_ring ds h Q E → m_law_ring { nx := fun _ h' => Q .non h', rt := Q } (mstart N_law_ring ds) h := by
  rintro ds h Q E ⟨a, many, t, rfl, m1, m2, hd, q⟩
  walk_at "n"
  refine ⟨a, many, t + 1 + many, rfl, m1, m2, hd.less (by omega), fun p h1 xs lx bx nx hd1 f1 e1 np => ?_⟩
  have ap : a ≠ p := by
    intro z; subst z
    exact hd.some np
  walk_at "n"
  refine ⟨a, 3, t + many, rfl, hd1.less (by omega), by decide, by decide, fun w h2 w0 w1 hd2 f2 => ?_⟩
  have e2 := f2.at1 e1 (Ne.symm ap)
  walk_at "m"
  refine ite_ (fun c => ?_) (fun c => ?_)
  · walk_at "n"
    refine lcS [a] (fun k acc h' => ∃ zs : List Int, acc = zs.map .int ∧ zs.length = k ∧ (∀ x ∈ zs, 0 ≤ x ∧ x < 2 ^ 50) ∧ zs.map (fun x => x / 15625000000) = xs.take k ∧ Hand h' a (t + many - k)) (by simpa using hd2.some) ?_ ⟨[], rfl, rfl, by simp, rfl, hd2⟩ (fun h' f => f.at1 e2 (Ne.symm ap)) (by rw [srcD_n, List.length_map]; omega) ?_ ?_
    · rintro k acc h' p2 o np2 ⟨zs, e3, e4, e5, ez, e6⟩
      exact ⟨zs, e3, e4, e5, ez, e6.put (hd2.ne np2)⟩
    · rintro k acc h' hk fr ⟨zs, rfl, e4, e5, ez, e6⟩ _
      have hk : k < xs.length := by rw [srcD_n, List.length_map] at hk; exact hk
      have bk := bx _ (List.getElem_mem hk)
      refine ⟨_, rfl, fun R _ r => ?_⟩
      rw [srcD_item, getD_map hk]
      have et := List.take_succ_eq_append_getElem hk
      generalize xs[k] = x at bk et ⊢
      walk_at "m"
      refine ⟨mulOkL (by omega) (by omega), ⟨by decide, by decide, by decide⟩, ?_⟩
      refine ⟨a, _, t + many - k - 1, rfl, e6.less (by omega), by decide, by decide, fun v h5 v0 v1 hd5 f5 => ?_⟩
      walk_at "m"
      refine r _ h5 f5 ⟨zs ++ [x * 15625000000 + v], by rw [List.map_append]; rfl, by rw [List.length_append, e4]; rfl, ?_, (by rw [et, List.map_append, ez]; show _ ++ [(x * 15625000000 + v) / 15625000000] = _; have v1 : v < 10000000000 := v1; rw [show (x * 15625000000 + v) / 15625000000 = x by omega]), hd5.less (by omega)⟩
      intro y hy
      rcases List.mem_append.mp hy with h | h
      · exact e5 y h
      · rw [List.mem_singleton.mp h]
        have v1 : v < 10000000000 := v1
        omega
    · rintro p2 h' acc fr np2 e9 ⟨zs, rfl, e4, e5, ez, e6⟩
      rw [srcD_n, List.length_map] at e4 e6 ez
      rw [List.take_length] at ez
      have nz : zs.Nodup := by
        rw [← ez] at nx
        exact (List.Pairwise.of_map (f := fun x : Int => x / 15625000000) (S := fun a b => a ≠ b) (fun a b q z => q (congrArg (fun x : Int => x / 15625000000) z)) nx)
      clear ez
      walk_at "m"
      exact q h' zs (by omega) e5 nz (e6.less (by omega)) (f1.trans (f2.trans fr))
  · walk_at "n"
    walk_at "n"
    exact q h2 xs lx (fun x hx => by have := bx x hx; omega) nx (hd2.less (by omega)) (f1.trans f2)
theorem p_law_some : ∀ ds h Q E, c_law_some ds h Q E → m_law_some { nx := fun _ h' => Q .non h', rt := Q } (mstart N_law_some ds) h := by
  rintro ds h Q E ⟨a, many, t, rfl, m1, m2, hd, q⟩
  walk_at "n"
  refine ⟨a, 4, t + 1 + many, rfl, hd.less (by omega), by decide, by decide, fun w h1 w0 w1 hd1 f1 => ?_⟩
  walk_at "n"
  refine ite_ (fun c => ?_) (fun c => ?_)
  · walk_at "n"
    refine ⟨⟨by omega, by omega, by omega, by omega, by omega⟩, ?_⟩
    rw [rgI0m]
    refine q h1 _ ⟨by rw [List.length_map, List.length_range]; omega, fun x hx => ?_⟩ (List.Pairwise.map _ (R := fun i j : Nat => i < j) (fun i j q z => by have : (i : Int) = j := z; omega) List.pairwise_lt_range) (by rw [List.length_map, List.length_range]; omega) (by rw [List.length_map, List.length_range]; omega) (hd1.less (by omega)) f1
    obtain ⟨i, hi, rfl⟩ := List.mem_map.mp hx
    have := List.mem_range.mp hi
    omega
  walk_at "n"
  walk_at "n"
  refine ⟨a, many, t + many, rfl, hd1.less (by omega), by omega, by omega, fun one h2 o0 o1 hd2 f2 => ?_⟩
  walk_at "n"
  refine ite_ (fun c2 => ?_) (fun c2 => ?_)
  · walk_at "n"
    exact q h2 [one] ⟨by simp, fun x hx => by rw [List.mem_singleton.mp hx]; omega⟩ (by simp) (by simp) (by simpa using m1) (hd2.less (by omega)) (f1.trans f2)
  walk_at "n"
  walk_at "n"
  refine ⟨by omega, by omega, ?_⟩
  refine lcS [a] (fun k acc h' => ∃ zs : List Int, acc = zs.map .int ∧ zs.length ≤ k ∧ (∀ x ∈ zs, 0 ≤ x ∧ x < k) ∧ zs.Nodup ∧ (one < k → 1 ≤ zs.length) ∧ Hand h' a (t + many - k)) (by simpa using hd2.some) ?_ ⟨[], rfl, Nat.le_refl _, by simp, List.nodup_nil, fun z => by omega, hd2⟩ (fun _ _ => trivial) (by rw [srcR_n]; omega) ?_ ?_
  · rintro k acc h' p2 o np2 ⟨zs, e3, e4, e5, nd, e6, e7⟩
    exact ⟨zs, e3, e4, e5, nd, e6, e7.put (hd2.ne np2)⟩
  · rintro k acc h' hk fr ⟨zs, rfl, e4, e5, nd, e6, e7⟩ _
    have hk : k < many := by rw [srcR_n] at hk; omega
    refine ⟨_, rfl, fun R r0 r => ?_⟩
    have yes : ∀ h5, Fr [a] h' h5 → Hand h5 a (t + many - (k + 1)) → R (some (.int k)) h5 := fun h5 f5 hd5 => by
      refine r _ h5 f5 ⟨zs ++ [(k : Int)], by rw [List.map_append]; rfl, by rw [List.length_append, List.length_singleton]; omega, ?_, List.nodup_append.mpr ⟨nd, by simp, fun a ha b hb z => by rw [List.mem_singleton.mp hb] at z; have := e5 a ha; omega⟩, fun _ => by rw [List.length_append, List.length_singleton]; omega, hd5⟩
      intro y hy
      rcases List.mem_append.mp hy with h | h
      · have := e5 y h; omega
      · rw [List.mem_singleton.mp h]; omega
    walk_at "m"
    refine ite_ (fun c3 => ?_) (fun c3 => ?_)
    · exact yes h' .refl (e7.less (by omega))
    · refine ⟨a, w, t + many - k - 1, rfl, e7.less (by omega), by omega, by omega, fun v h5 v0 v1 hd5 f5 => ?_⟩
      walk_at "m"
      refine ite_ (fun c4 => ?_) (fun c4 => ?_)
      · exact yes h5 f5 (hd5.less (by omega))
      · exact r0 h5 f5 ⟨zs, rfl, by omega, fun x hx => by have := e5 x hx; omega, nd, fun z => e6 (by omega), hd5.less (by omega)⟩
  · rintro p2 h' acc fr np2 e9 ⟨zs, rfl, e4, e5, nd, e6, e7⟩
    have hn : (srcR 0 (many : Int).toNat 1).n = many := by rw [srcR_n]; omega
    rw [hn] at e4 e5 e6 e7
    walk_at "m"
    exact q h' zs ⟨by omega, e5⟩ nd (e6 o1) e4 (e7.less (by omega)) (f1.trans (f2.trans fr))
theorem len_law_stop : ∀ ds h Q E, c_law_stop ds h Q E → ds.length = 4 := by rintro ds h Q E ⟨a, b, c, d, rfl, _⟩; rfl
theorem p_law_stop : ∀ ds h Q E, c_law_stop ds h Q E → m_law_stop { nx := fun _ h' => Q .non h', rt := Q } (mstart N_law_stop ds) h := by
  rintro ds h Q E ⟨ring, some', house, side, rfl, ⟨r1, r2⟩, h0, h1, hs, q⟩
  walk_at "n"
  walk_at "n"
  walk_at "n"
  refine ⟨by omega, by omega, ?_⟩
  have en : ((ring.length : Int) - 1).toNat = ring.length - 1 := by omega
  rw [en]
  refine ⟨by omega, by omega, ?_⟩
  refine forW (fun k env h' => h' = h ∧ ∃ x, env = [some (tI ring), some (tI some'), some (.int house), some (.int side), some (.int ring.length), some (.int ((house + side * (k : Int)) % ring.length)), x] ∧ fst (stC ring some' house side) (1 + k) (ring.length - 1 - k) = stV ring some' house side) ?_ (fun _ _ _ _ => trivial) ?_ ?_
  · refine ⟨rfl, none, ?_, rfl⟩
    rw [show (house + side * ((0 : Nat) : Int)) % (ring.length : Int) = house from by rw [show side * ((0 : Nat) : Int) = 0 from Int.mul_zero _, Int.add_zero, Int.emod_eq_of_lt h0 h1]]
  · rintro k env h' hk ⟨rfl, x, rfl, ef⟩
    have hk : k < ring.length - 1 := hk
    obtain ⟨m, em⟩ : ∃ m, ring.length - 1 - k = m + 1 := ⟨ring.length - 1 - k - 1, by omega⟩
    rw [em, fst_step] at ef
    refine ⟨_, rfl, ?_⟩
    have ec : stC ring some' house side (1 + k) = (decide ((house + side * (1 + (k : Int))) % ring.length ∈ some') && decide (ring.getD house.toNat 0 < ring.getD ((house + side * (1 + (k : Int))) % ring.length).toNat 0)) := by
      unfold stC
      rw [show ((1 + k : Nat) : Int) = 1 + (k : Int) from by omega]
    have b0 := Int.emod_nonneg (house + side * (1 + (k : Int))) (show (ring.length : Int) ≠ 0 by omega)
    have b1 := Int.emod_lt_of_pos (house + side * (1 + (k : Int))) (show (0 : Int) < ring.length by omega)
    have es : ((house + side * (k : Int)) % ring.length + side) % ring.length = (house + side * (1 + (k : Int))) % ring.length := by
      rw [Int.emod_add_emod, show house + side * (k : Int) + side = house + side * (1 + (k : Int)) from by rw [Int.mul_add, Int.mul_one]; omega]
    have es2 : ((house + side * ((k + 1 : Nat) : Int)) % ring.length) = (house + side * (1 + (k : Int))) % ring.length := by
      rw [show ((k + 1 : Nat) : Int) = 1 + (k : Int) from by omega]
    have e1 := row_atI (row := ring) h0 h1
    have lp : (0 : Int) < ring.length := by omega
    rw [es2]
    generalize hm : (house + side * (1 + (k : Int))) % ring.length = w at b0 b1 ec es es2 ⊢
    have e2 := row_atI (row := ring) b0 b1
    have em2 : ring.length - 1 - (k + 1) = m := by omega
    rw [ec] at ef
    clear hm es2
    walk_at "n"
    walk_at "n"
    refine ite_ (fun c1 => ?_) (fun c1 => ?_)
    · refine ite_ (fun c2 => ?_) (fun c2 => ?_)
      · rw [decide_eq_true c1, decide_eq_true c2, Bool.true_and, if_pos rfl] at ef
        walk_at "n"
        rw [show (1 + (k : Int)) = ((1 + k : Nat) : Int) from by omega, ef]
        exact q
      · rw [decide_eq_false c2, Bool.and_false, if_neg Bool.false_ne_true] at ef
        walk_at "n"
        exact ef
    · rw [decide_eq_false c1, Bool.false_and, if_neg Bool.false_ne_true] at ef
      walk_at "n"
      exact ef
  · rintro env h' ⟨rfl, x, rfl, ef⟩
    rw [srcR_n, Nat.sub_self] at ef
    have ef : 1 + (ring.length - 1) = stV ring some' house side := ef
    walk_at "n"
    rw [show ((ring.length : Nat) : Int) = ((stV ring some' house side : Nat) : Int) from by omega]
    exact q
theorem getD_el {ds : List D} {k : Nat} (h : k < ds.length) : ds.getD k .non = ds[k] := by
  rw [List.getD_eq_getElem?_getD, List.getElem?_eq_getElem h]; rfl
theorem take_eq {α : Type} {xs ys : List α} {k : Nat} (hx : k < xs.length) (hy : k < ys.length) : (xs.take (k + 1) = ys.take (k + 1)) ↔ (xs.take k = ys.take k ∧ xs[k] = ys[k]) := by
  rw [List.take_succ_eq_append_getElem hx, List.take_succ_eq_append_getElem hy]
  constructor
  · intro h
    have := List.append_inj' h rfl
    exact ⟨this.1, by simpa using this.2⟩
  · rintro ⟨a, b⟩
    rw [a, b]
theorem len_next_row : ∀ ds h Q E, c_next_row ds h Q E → ds.length = 1 := by rintro ds h Q E ⟨a, rfl, _⟩; rfl
theorem len_law_phases : ∀ ds h Q E, c_law_phases ds h Q E → ds.length = 2 := by rintro ds h Q E ⟨a, b, rfl, _⟩; rfl
theorem prD_getD {row : List (Int × Int)} {k : Nat} (h : k < row.length) : (row.map prD).getD k .non = prD (row.getD k (0, 0)) := by
  rw [List.getD_eq_getElem?_getD, List.getElem?_map, List.getD_eq_getElem?_getD, List.getElem?_eq_getElem h]; rfl
/-- the place d ahead, by Python's count from behind -/
theorem row_back {row : List (Int × Int)} {k d : Nat} (hk : k < row.length) (hd : d ≤ row.length) (d1 : 1 ≤ d) : atI (row.map prD) ((k : Int) - (d : Int)) = some (prD (row.getD (pv row.length d k) (0, 0))) := by
  have hn : 0 < row.length := by omega
  have hp : pv row.length d k < row.length := pv_lt hn
  unfold atI ixN
  rw [List.length_map]
  by_cases c : (0 : Int) ≤ (k : Int) - (d : Int)
  · have e : pv row.length d k = k - d := by
      unfold pv
      rw [show k + row.length - d = (k - d) + row.length by omega, Nat.add_mod_right, Nat.mod_eq_of_lt (by omega)]
    rw [if_pos c, if_pos (by omega)]
    show (row.map prD)[((k : Int) - (d : Int)).toNat]? = _
    rw [show ((k : Int) - (d : Int)).toNat = k - d by omega, List.getElem?_map, List.getElem?_eq_getElem (by omega), e, List.getD_eq_getElem?_getD, List.getElem?_eq_getElem (by omega)]
    rfl
  · have e : pv row.length d k = k + row.length - d := by
      unfold pv
      rw [Nat.mod_eq_of_lt (by omega)]
    rw [if_neg c, if_pos (by omega)]
    show (row.map prD)[((k : Int) - (d : Int) + row.length).toNat]? = _
    rw [show ((k : Int) - (d : Int) + row.length).toNat = k + row.length - d by omega, List.getElem?_map, List.getElem?_eq_getElem (by omega), e, List.getD_eq_getElem?_getD, List.getElem?_eq_getElem (by omega)]
    rfl
theorem fm_succ {α : Type} {f : Nat → Option α} {k : Nat} : (List.range (k + 1)).filterMap f = (List.range k).filterMap f ++ (f k).toList := by
  rw [List.range_succ, List.filterMap_append]
  cases h : f k <;> simp [h]
theorem p_next_row : ∀ ds h Q E, c_next_row ds h Q E → m_next_row { nx := fun _ h' => Q .non h', rt := Q } (mstart N_next_row ds) h := by
  rintro ds h Q E ⟨row, rfl, l1, l2, q⟩
  walk_at "n"
  intro p np
  unfold rwD
  walk_at "n"
  refine forW (fun k env h' => Fr [] h h' ∧ ∃ x2 x3 x4 x5, env = [some (.tup (row.map prD)), some (.ref p), x2, x3, x4, x5] ∧ h' p = some (.lst (((List.range k).filterMap (nxf row)).map prD))) ⟨.new np, _, _, _, _, rfl, up_same⟩ (fun _ _ _ _ => trivial) ?_ ?_
  · rintro k env h' hk ⟨fr, x2, x3, x4, x5, rfl, ep⟩
    rw [srcE_n, List.length_map] at hk
    rw [srcE_item, prD_getD hk]
    refine ⟨_, rfl, ?_⟩
    have a1 : atI (row.map prD) ((k : Int) - 1) = some (.tup [.int (row.getD (pv row.length 1 k) (0, 0)).1, .int (hv row (pv row.length 1 k))]) := row_back (d := 1) hk (by omega) (by omega)
    have a2 : atI (row.map prD) ((k : Int) - 2) = some (.tup [.int (row.getD (pv row.length 2 k) (0, 0)).1, .int (hv row (pv row.length 2 k))]) := row_back (d := 2) hk (by omega) (by omega)
    rw [fm_succ]
    have ef : nxf row k = if (decide (hv row k < hv row (pv row.length 1 k)) && decide (hv row (pv row.length 2 k) < hv row (pv row.length 1 k))) = true then some ((row.getD k (0, 0)).1, hv row (pv row.length 1 k)) else none := rfl
    show mSeq _ _ _ [some (.tup (row.map prD)), some (.ref p), some (.int k), some (.int (row.getD k (0, 0)).1), some (.int (hv row k)), x5] h'
    rw [ef]
    generalize hv row (pv row.length 1 k) = near at a1 ⊢
    generalize hv row (pv row.length 2 k) = far at a2 ⊢
    generalize (row.getD (pv row.length 2 k) (0, 0)).1 = g1 at a2
    generalize (row.getD (pv row.length 1 k) (0, 0)).1 = g2 at a1
    generalize hv row k = held
    generalize (row.getD k (0, 0)).1 = house
    have ll : ((List.range k).filterMap (nxf row)).length < 16777216 := by
      have := List.length_filterMap_le (nxf row) (List.range k)
      rw [List.length_range] at this
      omega
    clear ef
    walk_at "n"
    walk_at "n"
    refine ite_ (fun c1 => ?_) (fun c1 => ?_)
    · refine ite_ (fun c2 => ?_) (fun c2 => ?_)
      · rw [decide_eq_true c1, decide_eq_true c2, Bool.true_and, if_pos rfl]
        walk_at "n"
        exact ⟨Fr.over np fr, by rw [List.map_append]; rfl⟩
      · rw [decide_eq_false c2, Bool.and_false, if_neg Bool.false_ne_true]
        walk_at "n"
        rw [Option.toList_none, List.append_nil]
    · rw [decide_eq_false c1, Bool.false_and, if_neg Bool.false_ne_true]
      walk_at "n"
      rw [Option.toList_none, List.append_nil]
  · rintro env h' ⟨fr, x2, x3, x4, x5, rfl, ep⟩
    rw [srcE_n, List.length_map] at ep
    walk_at "n"
    exact q h' fr
theorem nxr_bd {row : List (Int × Int)} : (nxr row).length ≤ row.length := by
  have := List.length_filterMap_le (nxf row) (List.range row.length)
  rw [List.length_range] at this
  exact this
theorem getD_map2 {α : Type} {f : α → Int} {xs : List α} {k : Nat} (h : k < xs.length) (d : Int) : (xs.map f).getD k d = f xs[k] := by
  rw [List.getD_eq_getElem?_getD, List.getElem?_map, List.getElem?_eq_getElem h]; rfl
theorem zip_rows {row : List (Int × Int)} : List.zipWith (fun d e => D.tup [d, e]) ((row.map (·.1)).map D.int) ((row.map (·.2)).map D.int) = row.map prD := by
  induction row with
  | nil => rfl
  | cons p r ih =>
    show D.tup [.int p.1, .int p.2] :: _ = _
    rw [ih]; rfl
theorem fst_at {row : List (Int × Int)} {k : Nat} (h : k < row.length) : atI ((row.map (·.1)).map D.int) (k : Int) = some (.int (row.getD k (0, 0)).1) := by
  refine atI_ints ?_
  rw [List.getElem?_map, List.getD_eq_getElem?_getD, List.getElem?_eq_getElem h]; rfl
theorem snd_at {row : List (Int × Int)} {k : Nat} (h : k < row.length) : atI ((row.map (·.2)).map D.int) (k : Int) = some (.int (hv row k)) := by
  refine atI_ints ?_
  unfold hv
  rw [List.getElem?_map, List.getD_eq_getElem?_getD, List.getElem?_eq_getElem h]; rfl
theorem back_mod {n d k : Nat} (hk : k < n) (hd : d ≤ n) : ((k : Int) + n - d) % n = (pv n d k : Nat) := by
  unfold pv
  rw [show (k : Int) + n - d = ((k + n - d : Nat) : Int) by omega, ← Int.natCast_emod]
theorem p_law_phases : ∀ ds h Q E, c_law_phases ds h Q E → m_law_phases { nx := fun _ h' => Q .non h', rt := Q } (mstart N_law_phases ds) h := by
  rintro ds h Q E ⟨ring, some', rfl, rk, sk, q⟩
  have l0 := sk.1
  walk_at "n"
  intro p np
  walk_at "n"
  refine lcL some' .int (fun x => some (.int (ring.getD x.toNat 0))) (fun h' f => f.at0 up_same) (by omega) (fun x h2 hx f2 => ⟨_, rfl, fun R r => ?_⟩) (fun p2 h2 f2 np2 e0 => ?_)
  · have hx' := sk.2 x hx
    have a1 := row_atI (row := ring) hx'.1 hx'.2
    walk_at "m"
    exact r h2 .refl
  have e2 : h2 p2 = some (.lst (((row0 ring some').map (·.2)).map .int)) := by
    rw [e0, fm_some]
    unfold row0
    rw [List.map_map, List.map_map]; rfl
  have e1 : h2 p = some (.lst (((row0 ring some').map (·.1)).map .int)) := by
    rw [f2.at0 up_same]
    unfold row0
    rw [List.map_map]
    rw [List.map_map]
    exact congrArg (fun x => some (MO.lst x)) (List.map_congr_left fun x _ => rfl)
  have f3 : Fr [] h h2 := (Fr.new np).trans f2
  clear e0
  have e5 := zip_rows (row := row0 ring some')
  walk_at "w"
  intro p3 np3 p4 np4
  have f4 := f3.trans ((Fr.new (o := .lst ((row0 ring some').map prD)) np3).trans (Fr.new (o := .lst [rwD (row0 ring some')]) np4))
  have e1' : (up (up h2 p3 (.lst ((row0 ring some').map prD))) p4 (.lst [rwD (row0 ring some')])) p = some (.lst (((row0 ring some').map (·.1)).map .int)) := (Fr.new (S := []) np4).at0 ((Fr.new (S := []) np3).at0 e1)
  have e2' : (up (up h2 p3 (.lst ((row0 ring some').map prD))) p4 (.lst [rwD (row0 ring some')])) p2 = some (.lst (((row0 ring some').map (·.2)).map .int)) := (Fr.new (S := []) np4).at0 ((Fr.new (S := []) np3).at0 e2)
  have e4 : (up (up h2 p3 (.lst ((row0 ring some').map prD))) p4 (.lst [rwD (row0 ring some')])) p4 = some (.lst [rwD (row0 ring some')]) := up_same
  have np40 : h p4 = none := (f3.trans (Fr.new (o := .lst ((row0 ring some').map prD)) np3)).free np4
  generalize up (up h2 p3 (.lst ((row0 ring some').map prD))) p4 (.lst [rwD (row0 ring some')]) = h4 at f4 e1' e2' e4 ⊢
  clear e1 e2 e5 np3 np4 np2 f2 f3
  have hl0 : (row0 ring some').length = some'.length := List.length_map ..
  refine seq_ ?_
  refine while_ (fun m env h' => Fr [] h h' ∧ ∃ a b row rs x5 x6 x7 x8 x9 x10, env = [some (tI ring), some (tI some'), some (.ref a), some (.ref b), some (.ref p4), x5, x6, x7, x8, x9, x10] ∧ h' a = some (.lst ((row.map (·.1)).map .int)) ∧ h' b = some (.lst ((row.map (·.2)).map .int)) ∧ h' p4 = some (.lst ((rs ++ [row]).map rwD)) ∧
    row.length ≤ m + 1 ∧ m ≤ some'.length ∧ rs ++ phs m row = phV ring some' ∧ rs.length + m ≤ some'.length ∧ row.length ≤ some'.length) some'.length ⟨f4, p, p2, row0 ring some', [], _, _, _, _, _, _, rfl, e1', e2', e4, by omega, Nat.le_refl _, rfl, by simp, by omega⟩ ?_
  rintro m env h' ⟨fr, a, b, row, rs, x5, x6, x7, x8, x9, x10, rfl, ea, eb, e4, l1, l2, ep, l3, l6⟩
  clear e1' e2'
  walk_at "m"
  by_cases c : (row.length : Int) > 1
  · rw [decide_eq_true c, if_pos rfl]
    obtain ⟨m, rfl⟩ : ∃ k, m = k + 1 := ⟨m - 1, by omega⟩
    rw [phs_more (by omega)] at ep
    have l4 := nxr_lt (row := row) (by omega)
    have l5 := (phs_len m (nxr row)).1
    walk_at "n"
    walk_at "n"
    intro p6 np6
    have f6 : Fr [] h (up h' p6 (.lst [])) := fr.trans (.new np6)
    have ea6 := (Fr.new (S := []) (o := .lst []) np6).at0 ea
    have eb6 := (Fr.new (S := []) (o := .lst []) np6).at0 eb
    have e46 := (Fr.new (S := []) (o := .lst []) np6).at0 e4
    have e66 : (up h' p6 (.lst [])) p6 = some (.lst []) := up_same
    have n6 : h p6 = none := fr.free np6
    have na : a ≠ p6 := ne_of ea np6
    have nb : b ≠ p6 := ne_of eb np6
    have n4 : p4 ≠ p6 := ne_of e4 np6
    generalize up h' p6 (.lst []) = h6 at f6 ea6 eb6 e46 e66 ⊢
    clear ea eb e4 np6
    walk_at "n"
    refine ⟨by omega, by omega, ?_⟩
    have hn : (srcR 0 (row.length : Int).toNat 1).n = row.length := by rw [srcR_n]; omega
    refine forW (fun k env h2 => Fr [] h h2 ∧ ∃ x7 x8, env = [some (tI ring), some (tI some'), some (.ref a), some (.ref b), some (.ref p4), some (.int row.length), some (.ref p6), x7, x8, x9, x10] ∧ h2 a = some (.lst ((row.map (·.1)).map .int)) ∧ h2 b = some (.lst ((row.map (·.2)).map .int)) ∧ h2 p4 = some (.lst ((rs ++ [row]).map rwD)) ∧
      h2 p6 = some (.lst (((List.range k).filterMap (nxf row)).map prD))) ⟨f6, _, _, rfl, ea6, eb6, e46, e66⟩ (fun _ _ _ _ => trivial) ?_ ?_
    · rintro k env h2 hk ⟨fr2, x7, x8, rfl, ea2, eb2, e42, e62⟩
      rw [hn] at hk
      refine ⟨_, rfl, ?_⟩
      clear ea6 eb6 e46 e66
      have a1 := snd_at (row := row) hk
      have a0 := fst_at (row := row) hk
      have hp1 := pv_lt (n := row.length) (d := 1) (k := k) (by omega)
      have hp2 := pv_lt (n := row.length) (d := 2) (k := k) (by omega)
      have b1 := snd_at (row := row) hp1
      have b2 := snd_at (row := row) hp2
      have m1 : ((k : Int) + row.length - 1) % row.length = (pv row.length 1 k : Nat) := back_mod (d := 1) hk (by omega)
      have m2 : ((k : Int) + row.length - 2) % row.length = (pv row.length 2 k : Nat) := back_mod (d := 2) hk (by omega)
      rw [fm_succ]
      have ef : nxf row k = if (decide (hv row k < hv row (pv row.length 1 k)) && decide (hv row (pv row.length 2 k) < hv row (pv row.length 1 k))) = true then some ((row.getD k (0, 0)).1, hv row (pv row.length 1 k)) else none := rfl
      rw [ef]
      have ll : ((List.range k).filterMap (nxf row)).length < 16777216 := by
        have := List.length_filterMap_le (nxf row) (List.range k)
        rw [List.length_range] at this
        omega
      generalize hv row (pv row.length 1 k) = near at b1 ⊢
      generalize hv row (pv row.length 2 k) = far at b2 ⊢
      generalize hv row k = held at a1 ⊢
      generalize (row.getD k (0, 0)).1 = house at a0 ⊢
      have lp : (0 : Int) < row.length := by omega
      clear ef ep
      walk_at "n"
      walk_at "n"
      refine ite_ (fun c1 => ?_) (fun c1 => ?_)
      · have d1 : held < near := by split at c1 <;> omega
        have d2 : far < near := by split at c1 <;> omega
        rw [decide_eq_true d1, decide_eq_true d2, Bool.true_and, if_pos rfl]
        walk_at "n"
        exact ⟨Fr.over n6 fr2, by rw [up_ne na]; exact ea2, by rw [up_ne nb]; exact eb2, by rw [up_ne n4]; exact e42, by rw [List.map_append]; rfl⟩
      · have d1 : (decide (held < near) && decide (far < near)) = false := by
          by_cases z : held < near
          · have : ¬ far < near := by split at c1 <;> omega
            rw [decide_eq_false this, Bool.and_false]
          · rw [decide_eq_false z, Bool.false_and]
        rw [d1, if_neg Bool.false_ne_true]
        walk_at "n"
        rw [Option.toList_none, List.append_nil]
    · rintro env h2 ⟨fr2, x7, x8, rfl, ea2, eb2, e42, e62⟩
      rw [hn] at e62
      clear ea6 eb6 e46 e66 ea2 eb2
      replace e62 : h2 p6 = some (.lst ((nxr row).map prD)) := e62
      walk_at "n"
      refine ⟨by rw [List.length_append]; show rs.length + 1 < _; omega, ?_⟩
      have fr3 : Fr [] h (up h2 p4 (.lst ((rs ++ [row]).map rwD ++ [rwD (nxr row)]))) := Fr.over np40 fr2
      have e43 : (up h2 p4 (.lst ((rs ++ [row]).map rwD ++ [rwD (nxr row)]))) p4 = some (.lst ((rs ++ [row] ++ [nxr row]).map rwD)) := by
        rw [up_same, List.map_append (l₁ := rs ++ [row])]; rfl
      have e63 : (up h2 p4 (.lst ((rs ++ [row]).map rwD ++ [rwD (nxr row)]))) p6 = some (.lst ((nxr row).map prD)) := by rw [up_ne n4.symm]; exact e62
      generalize up h2 p4 (.lst ((rs ++ [row]).map rwD ++ [rwD (nxr row)])) = h3 at fr3 e43 e63 ⊢
      clear e42 e62
      walk_at "n"
      refine lcL (nxr row) prD (fun p => some (.int p.1)) (fun h' f => f.at0 e63) (by omega) (fun x h2 hx f2 => ⟨_, rfl, fun R r => ?_⟩) (fun pa h5 f5 npa e5 => ?_)
      · walk_at "m"
        exact r h2 .refl
      have e5' : h5 pa = some (.lst (((nxr row).map (·.1)).map .int)) := by
        rw [e5, fm_some, List.map_map]; rfl
      have e65 := f5.at0 e63
      have e45 := f5.at0 e43
      have fr5 := fr3.trans f5
      clear e5 e63 e43
      walk_at "w"
      refine lcL (nxr row) prD (fun p => some (.int p.2)) (fun h' f => f.at0 e65) (by omega) (fun x h2 hx f2 => ⟨_, rfl, fun R r => ?_⟩) (fun pb h6 f6 npb e6 => ?_)
      · walk_at "m"
        exact r h2 .refl
      have e6' : h6 pb = some (.lst (((nxr row).map (·.2)).map .int)) := by
        rw [e6, fm_some, List.map_map]; rfl
      have e56 := f6.at0 e5'
      have e46 := f6.at0 e45
      have fr6 := fr5.trans f6
      clear e6 e65 e45 e5' e4
      exact ⟨m, by omega, fr6, pb, rfl, nxr row, e56, e6', rs ++ [row], e46, by omega, by omega, by rw [List.append_assoc]; exact ep, by rw [List.length_append]; show rs.length + 1 + m ≤ _; omega, by omega⟩
  · rw [decide_eq_false c, if_neg Bool.false_ne_true]
    rw [phs_one (by omega)] at ep
    rw [ep] at e4
    walk_at "n"
theorem len_side_letters : ∀ ds h Q E, c_side_letters ds h Q E → ds.length = 2 := by rintro ds h Q E ⟨a, b, rfl, _⟩; rfl
theorem len_reach_letters : ∀ ds h Q E, c_reach_letters ds h Q E → ds.length = 2 := by rintro ds h Q E ⟨a, b, rfl, _⟩; rfl
theorem len_law_reach : ∀ ds h Q E, c_law_reach ds h Q E → ds.length = 2 := by rintro ds h Q E ⟨a, b, rfl, _⟩; rfl
theorem p_side_letters : ∀ ds h Q E, c_side_letters ds h Q E → m_side_letters { nx := fun _ h' => Q .non h', rt := Q } (mstart N_side_letters ds) h := by
  rintro ds h Q E ⟨r, s, rfl, r0, r1, q⟩
  unfold reS at q
  walk_at "n"
  refine ite_ (fun c => ?_) (fun c => ?_)
  · rw [if_pos c] at q
    walk_at "n"
    exact mulOkL (by decide) (by decide)
  · rw [if_neg c] at q
    walk_at "n"
    walk_at "n"
theorem p2le {k : Nat} (h : k ≤ 6) : (1 : Int) ≤ 2 ^ k ∧ (2 : Int) ^ k ≤ 64 := by
  have : k = 0 ∨ k = 1 ∨ k = 2 ∨ k = 3 ∨ k = 4 ∨ k = 5 ∨ k = 6 := by omega
  rcases this with rfl | rfl | rfl | rfl | rfl | rfl | rfl <;> decide
theorem p2last {k : Nat} {l : Int} (h : k ≤ 6) (hl : l ≤ 64) (c : (2 : Int) ^ k < l) : k ≤ 5 := by
  by_cases e : k = 6
  · subst e
    have : (2 : Int) ^ 6 = 64 := rfl
    omega
  · omega
theorem p_reach_letters : ∀ ds h Q E, c_reach_letters ds h Q E → m_reach_letters { nx := fun _ h' => Q .non h', rt := Q } (mstart N_reach_letters ds) h := by
  rintro ds h Q E ⟨l, r, rfl, hl, hr, q⟩
  obtain ⟨R, hR⟩ : ∃ R, R = reV l r 7 0 := ⟨_, rfl⟩
  rw [← hR] at q
  walk_at "n"
  walk_at "n"
  walk_at "n"
  refine seq_ (while_ (fun m env h' => h' = h ∧ ∃ (k : Nat) (tot : Int) (on : Bool), env = [some (.int l), some (.int r), some (.int tot), some (.int (2 ^ k)), some (.bl on)] ∧ ((on = true ∧ k ≤ 6 ∧ m = 8 - k ∧ tot + reV l r (7 - k) k = R) ∨ (on = false ∧ m = 0 ∧ tot = R))) 8 ⟨rfl, 0, 0, true, rfl, .inl ⟨rfl, by omega, rfl, by rw [hR]; exact Int.zero_add _⟩⟩ ?_)
  clear hR
  rintro m env h' ⟨rfl, k, tot, on, rfl, st⟩
  rcases st with ⟨rfl, hk, rfl, et⟩ | ⟨rfl, rfl, et⟩
  · obtain ⟨f, ef⟩ : ∃ f, 7 - k = f + 1 := ⟨6 - k, by omega⟩
    have b := p2le hk
    have ep : (2 : Int) ^ (k + 1) = 2 * 2 ^ k := by rw [Int.pow_succ, Int.mul_comm]
    rw [ef] at et
    unfold reV at et
    have ek : 7 - (k + 1) = f := by omega
    have ls1 := fun c => p2last (l := l) hk hl c
    have ls2 := fun c => p2last (l := r) hk hr c
    generalize hpw : (2 : Int) ^ k = pw at b ep et ls1 ls2 ⊢
    have mo : MulOk 2 pw := mulOkL (by decide) (by decide)
    walk_at "m"
    walk_at "n"
    refine ⟨pw, l, rfl, by omega, by omega, ?_⟩
    refine ⟨pw, r, rfl, by omega, by omega, ?_⟩
    walk_at "m"
    walk_at "n"
    refine ite_ (fun c1 => ?_) (fun c1 => ?_)
    · have := ls1 c1
      walk_at "n"
      rw [decide_eq_true c1, Bool.true_and] at et
      by_cases c2 : pw < r
      · rw [if_pos (decide_eq_true c2)] at et
        refine ⟨8 - (k + 1), by omega, k + 1, ep.symm, .inl ⟨decide_eq_true c2, by omega, rfl, by rw [ek]; omega⟩⟩
      · rw [if_neg (by simpa using c2)] at et
        exact ⟨0, by omega, k + 1, ep.symm, .inr ⟨decide_eq_false c2, rfl, by omega⟩⟩
    · rw [decide_eq_false c1, Bool.false_and, if_neg Bool.false_ne_true] at et
      walk_at "n"
      exact ⟨0, by omega, k + 1, ep.symm, .inr ⟨rfl, by omega⟩⟩
  · walk_at "m"
    walk_at "n"
theorem reS_eq {r s : Int} : (if s < r then s else r) + (if r < s then r else 0) = reS r s := by
  unfold reS; split <;> split <;> omega
theorem p_law_reach : ∀ ds h Q E, c_law_reach ds h Q E → m_law_reach { nx := fun _ h' => Q .non h', rt := Q } (mstart N_law_reach ds) h := by
  rintro ds h Q E ⟨l, r, rfl, q⟩
  obtain ⟨R, hR⟩ : ∃ R, R = reV l r 7 0 := ⟨_, rfl⟩
  rw [← hR] at q
  walk_at "n"
  walk_at "n"
  refine ⟨by decide, by decide, ?_⟩
  refine forW (fun k env h' => h' = h ∧ ∃ (tot : Int) (x y z : Option D), env = [some (.int l), some (.int r), some (.int tot), x, y, z] ∧ tot + reV l r (7 - k) k = R) ⟨rfl, 0, none, none, none, rfl, by rw [hR]; exact Int.zero_add _⟩ (fun _ _ _ _ => trivial) ?_ ?_
  · rintro k env h' hk ⟨rfl, tot, x, y, z, rfl, et⟩
    clear hR
    have hk : k < 7 := hk
    refine ⟨_, rfl, ?_⟩
    obtain ⟨f, ef⟩ : ∃ f, 7 - k = f + 1 := ⟨6 - k, by omega⟩
    have b := p2le (k := k) (by omega)
    rw [ef] at et
    unfold reV at et
    have ek : 7 - (k + 1) = f := by omega
    have cp : CPow 1 (k : Int) := ⟨by omega, by omega, by decide⟩
    have e1 : (1 : Int) * 2 ^ ((k : Int)).toNat = 2 ^ k := by rw [Int.one_mul, Int.toNat_natCast]
    generalize hpw : (2 : Int) ^ k = pw at b et e1
    walk_at "n"
    walk_at "n"
    refine forW (fun j env h2 => h2 = h' ∧ ∃ (z : Option D), env = [some (.int l), some (.int r), some (.int (tot + (if j = 0 then 0 else if j = 1 then reS pw l else reS pw l + reS pw r))), some (.int k), some (.int pw), z]) ⟨rfl, z, by simp⟩ (fun _ _ _ _ => trivial) ?_ ?_
    · rintro j env h' hj ⟨rfl, z, rfl⟩
      have hj : j < 2 := hj
      have hs : ∃ s : Int, ([D.int l, D.int r].getD j .non) = .int s ∧ (if j = 0 then 0 else if j = 1 then reS pw l else reS pw l + reS pw r) + reS pw s = (if j + 1 = 0 then 0 else if j + 1 = 1 then reS pw l else reS pw l + reS pw r) := by
        have : j = 0 ∨ j = 1 := by omega
        rcases this with rfl | rfl
        · exact ⟨l, rfl, by simp⟩
        · exact ⟨r, rfl, by simp⟩
      obtain ⟨s, es, et2⟩ := hs
      refine ⟨_, rfl, ?_⟩
      rw [srcD_item, es, ← et2]
      generalize (if j = 0 then 0 else if j = 1 then reS pw l else reS pw l + reS pw r) = acc
      have e := reS_eq (r := pw) (s := s)
      walk_at "n"
      walk_at "n"
      refine ite_ (fun c => ?_) (fun c => ?_)
      · rw [if_pos c] at e
        walk_at "n"
        omega
      · rw [if_neg c] at e
        walk_at "n"
        omega
    · rintro env h' ⟨rfl, z, rfl⟩
      have e3 : (if (srcD [D.int l, D.int r] fun _ => True).n = 0 then (0 : Int) else if (srcD [D.int l, D.int r] fun _ => True).n = 1 then reS pw l else reS pw l + reS pw r) = reS pw l + reS pw r := rfl
      rw [e3]
      walk_at "n"
      refine ite_ (fun c => ?_) (fun c => ?_)
      · have hc : (decide (pw < l) && decide (pw < r)) = false := by
          rw [Bool.and_eq_false_iff, decide_eq_false_iff_not, decide_eq_false_iff_not]
          split at c <;> omega
        rw [hc, if_neg Bool.false_ne_true] at et
        walk_at "n"
        walk_at "n"
        have : tot + (reS pw l + reS pw r) = R := by omega
        rw [this]; exact q
      · have hc : (decide (pw < l) && decide (pw < r)) = true := by
          rw [Bool.and_eq_true, decide_eq_true_eq, decide_eq_true_eq]
          split at c <;> omega
        rw [hc, if_pos rfl] at et
        walk_at "n"
        omega
  · rintro env h' ⟨rfl, tot, x, y, z, rfl, et⟩
    have e : reV l r (7 - (srcR 0 7 1).n) (srcR 0 7 1).n = 0 := rfl
    rw [e, Int.add_zero] at et
    clear hR e
    subst et
    walk_at "n"
theorem fst_le (c : Nat → Bool) : ∀ (k f : Nat), fst c f k ≤ f + k
  | 0, f => Nat.le_refl _
  | k + 1, f => by
    rw [fst_step]
    have := fst_le c k (f + 1)
    split <;> omega
theorem stV_le {ring some' : List Int} {x s : Int} (h : 1 ≤ ring.length) : stV ring some' x s ≤ ring.length := by
  have := fst_le (stC ring some' x s) (ring.length - 1) 1
  unfold stV; omega
theorem len_law_paper : ∀ ds h Q E, c_law_paper ds h Q E → ds.length = 3 := by rintro ds h Q E ⟨a, b, c, rfl, _⟩; rfl
theorem len_law_told : ∀ ds h Q E, c_law_told ds h Q E → ds.length = 3 := by rintro ds h Q E ⟨a, b, c, rfl, _⟩; rfl
theorem w_rh : decide (("halves" : Str) = "round") = false := by decide +kernel
theorem w_rr : decide (("reach" : Str) = "round") = false := by decide +kernel
theorem w_rw : decide (("whole" : Str) = "round") = false := by decide +kernel
theorem w_hr : decide (("reach" : Str) = "halves") = false := by decide +kernel
theorem w_hw : decide (("whole" : Str) = "halves") = false := by decide +kernel
theorem w_wr : decide (("reach" : Str) = "whole") = false := by decide +kernel
theorem w_wo : decide (("round" : Str) = "whole") = false := by decide +kernel
theorem w_wh : decide (("halves" : Str) = "whole") = false := by decide +kernel
theorem w_er : decide (("round" : Str) = "reach") = false := by decide +kernel
theorem w_ho : decide (("round" : Str) = "halves") = false := by decide +kernel
theorem p_law_paper : ∀ ds h Q E, c_law_paper ds h Q E → m_law_paper { nx := fun _ h' => Q .non h', rt := Q } (mstart N_law_paper ds) h := by
  rintro ds h Q E ⟨w, ring, some', rfl, rk, sk, q⟩
  have h1 := w_wo
  have h2 := w_wh
  have h3 := w_wr
  have h4 := w_ho
  have h5 := w_hr
  have h6 := w_er
  have l0 := sk.1
  cases w with
  | round =>
    unfold Way.s
    walk_at "n"
    walk_at "n"
    walk_at "n"
    walk_at "n"
    walk_at "n"
    intro p np
    walk_at "n"
    refine forW (fun k env h' => Fr [] h h' ∧ ∃ x4 x5, env = [some (.str "round"), some (tI ring), some (tI some'), some (.ref p), x4, x5] ∧ h' p = some (.lst ((some'.take k).map fun x => .tup [.int x, .int (stV ring some' x 1)]))) ⟨.new np, _, _, rfl, up_same⟩ (fun _ _ _ _ => trivial) ?_ ?_
    · rintro k env h7 hk ⟨fr, x4, x5, rfl, ep⟩
      have hk : k < some'.length := by rw [srcD_n, List.length_map] at hk; exact hk
      have hx := sk.2 _ (List.getElem_mem hk)
      rw [srcD_item, getD_map hk, List.take_succ_eq_append_getElem hk]
      refine ⟨_, rfl, ?_⟩
      generalize some'[k] = x at hx ⊢
      have ll : (some'.take k).length < 16777216 := by rw [List.length_take]; omega
      walk_at "n"
      walk_at "n"
      walk_at "n"
      walk_at "n"
      refine ⟨ring, some', x, 1, rfl, rk, hx.1, hx.2, .inl rfl, ?_⟩
      walk_at "m"
      exact ⟨Fr.over np fr, by rw [List.map_append]; rfl⟩
    · rintro env h7 ⟨fr, x4, x5, rfl, ep⟩
      rw [srcD_n, List.length_map, List.take_length] at ep
      have := q h7 fr
      unfold papV at this
      walk_at "n"
  | halves =>
    unfold Way.s
    walk_at "r"
    exact ⟨ring, some', rfl, rk, sk, q⟩
  | whole =>
    unfold Way.s
    have := q h .refl
    unfold papV at this
    walk_at "r"
  | reach =>
    unfold Way.s
    walk_at "n"
    walk_at "n"
    walk_at "n"
    walk_at "n"
    walk_at "n"
    intro p np
    walk_at "n"
    refine forW (fun k env h' => Fr [] h h' ∧ ∃ x4 x5, env = [some (.str "reach"), some (tI ring), some (tI some'), some (.ref p), x4, x5] ∧ h' p = some (.lst ((some'.take k).map fun x => .tup [.int x, .int (stV ring some' x (-1)), .int (stV ring some' x 1)]))) ⟨.new np, _, _, rfl, up_same⟩ (fun _ _ _ _ => trivial) ?_ ?_
    · rintro k env h7 hk ⟨fr, x4, x5, rfl, ep⟩
      have hk : k < some'.length := by rw [srcD_n, List.length_map] at hk; exact hk
      have hx := sk.2 _ (List.getElem_mem hk)
      rw [srcD_item, getD_map hk, List.take_succ_eq_append_getElem hk]
      refine ⟨_, rfl, ?_⟩
      generalize some'[k] = x at hx ⊢
      have ll : (some'.take k).length < 16777216 := by rw [List.length_take]; omega
      walk_at "n"
      walk_at "n"
      walk_at "n"
      refine ⟨ring, some', x, -1, rfl, rk, hx.1, hx.2, .inr rfl, ?_⟩
      walk_at "m"
      walk_at "n"
      refine ⟨ring, some', x, 1, rfl, rk, hx.1, hx.2, .inl rfl, ?_⟩
      walk_at "m"
      exact ⟨Fr.over np fr, by rw [List.map_append]; rfl⟩
    · rintro env h7 ⟨fr, x4, x5, rfl, ep⟩
      rw [srcD_n, List.length_map, List.take_length] at ep
      have := q h7 fr
      unfold papV at this
      walk_at "n"
theorem rows_of_phV {ring some' : List Int} : (phV ring some').length ≤ some'.length + 1 ∧ ∀ r ∈ phV ring some', r.length ≤ some'.length := by
  obtain ⟨a, b⟩ := phs_len some'.length (row0 ring some')
  have hl0 : (row0 ring some').length = some'.length := List.length_map ..
  rw [hl0] at b
  exact ⟨a, b⟩
theorem dt_pap {w : Way} {ring some' : List Int} (h : some'.length ≤ 1000) : Dt 5 (papV w ring some') := by
  cases w with
  | round =>
    refine ⟨by rw [List.length_map]; omega, fun x hx => ?_⟩
    obtain ⟨i, _, rfl⟩ := List.mem_map.mp hx
    refine ⟨by show 2 ≤ _; omega, fun y hy => ?_⟩
    simp only [List.mem_cons, List.not_mem_nil, or_false] at hy
    rcases hy with rfl | rfl <;> exact trivial
  | reach =>
    refine ⟨by rw [List.length_map]; omega, fun x hx => ?_⟩
    obtain ⟨i, _, rfl⟩ := List.mem_map.mp hx
    refine ⟨by show 3 ≤ _; omega, fun y hy => ?_⟩
    simp only [List.mem_cons, List.not_mem_nil, or_false] at hy
    rcases hy with rfl | rfl | rfl <;> exact trivial
  | whole => exact ⟨by show 0 ≤ _; omega, fun x hx => nomatch hx⟩
  | halves =>
    obtain ⟨a, b⟩ := rows_of_phV (ring := ring) (some' := some')
    refine ⟨by rw [List.length_map]; omega, fun x hx => ?_⟩
    obtain ⟨r, hr, rfl⟩ := List.mem_map.mp hx
    have := b r hr
    refine ⟨by rw [List.length_map]; omega, fun y hy => ?_⟩
    obtain ⟨z, _, rfl⟩ := List.mem_map.mp hy
    refine ⟨by show 2 ≤ _; omega, fun y hy => ?_⟩
    simp only [List.mem_cons, List.not_mem_nil, or_false] at hy
    rcases hy with rfl | rfl <;> exact trivial
theorem stb {ring some' : List Int} (rk : RgK ring) (l64 : ring.length ≤ 64) (x s : Int) : ((stV ring some' x s : Nat) : Int) ≤ 64 := by
  have := stV_le (some' := some') (x := x) (s := s) rk.1; omega
theorem sum_succ {f : Int → Int} {xs : List Int} {j : Nat} (hj : j < xs.length) : ((xs.take (j + 1)).map f).sum = ((xs.take j).map f).sum + f xs[j] := by
  rw [List.take_succ_eq_append_getElem hj, List.map_append, List.sum_append]
  simp
theorem p_law_told : ∀ ds h Q E, c_law_told ds h Q E → m_law_told { nx := fun _ h' => Q .non h', rt := Q } (mstart N_law_told ds) h := by
  rintro ds h Q E ⟨w, ring, some', rfl, rk, l64, sk, q⟩
  have h1 := w_wo
  have h2 := w_wh
  have h3 := w_wr
  have h4 := w_ho
  have h5 := w_hr
  have h6 := w_er
  have h7 := w_rr
  have l0 := sk.1
  obtain ⟨a, b⟩ := rows_of_phV (ring := ring) (some' := some')
  have r2 := rk.2
  cases w with
  | whole =>
    unfold Way.s
    walk_at "r"
    exact ⟨mulOkL (by omega) (by omega), q h .refl⟩
  | halves =>
    unfold Way.s
    walk_at "r"
    refine ⟨mulOkL (by omega) (by omega), ring, some', rfl, rk, sk, fun h5 f5 => ?_⟩
    have := q h5 f5
    walk_at "m"
    exact ⟨mulOkL (by omega) (by omega), this⟩
  | round =>
    unfold Way.s
    walk_at "n"
    walk_at "n"
    walk_at "n"
    walk_at "n"
    walk_at "n"
    walk_at "n"
    walk_at "n"
    refine forW (fun j env h' => h' = h ∧ ∃ x5 x6 x7, env = [some (.str "round"), some (tI ring), some (tI some'), some (.int ring.length), some (.int (ring.length + ((some'.take j).map (fun x => (stV ring some' x 1 : Int))).sum)), x5, x6, x7]) ⟨rfl, none, none, none, by simp⟩ (fun _ _ _ _ => trivial) ?_ ?_
    · rintro j env h' hj ⟨rfl, x5, x6, x7, rfl⟩
      have hj : j < some'.length := by rw [srcD_n, List.length_map] at hj; exact hj
      refine ⟨_, rfl, ?_⟩
      rw [srcD_item, getD_map hj, sum_succ hj]
      have hx := sk.2 _ (List.getElem_mem hj)
      walk_at "n"
      refine ⟨ring, some', _, 1, rfl, rk, hx.1, hx.2, .inl rfl, ?_⟩
      walk_at "n"
      walk_at "n"
      rw [Int.add_assoc]
    · rintro env h' ⟨rfl, x5, x6, x7, rfl⟩
      rw [srcD_n, List.length_map, List.take_length]
      walk_at "n"
      have := q _ .refl
      unfold toldV rlV at this
      rw [Int.add_comm] at this
      exact this
  | reach =>
    unfold Way.s
    have hb := stb (some' := some') rk l64
    walk_at "n"
    walk_at "n"
    walk_at "n"
    walk_at "n"
    walk_at "n"
    walk_at "n"
    walk_at "n"
    refine forW (fun j env h' => h' = h ∧ ∃ x5 x6 x7, env = [some (.str "reach"), some (tI ring), some (tI some'), some (.int ring.length), some (.int (ring.length + ((some'.take j).map (reT ring some')).sum)), x5, x6, x7]) ⟨rfl, none, none, none, by simp⟩ (fun _ _ _ _ => trivial) ?_ ?_
    · rintro j env h' hj ⟨rfl, x5, x6, x7, rfl⟩
      have hj : j < some'.length := by rw [srcD_n, List.length_map] at hj; exact hj
      refine ⟨_, rfl, ?_⟩
      rw [srcD_item, getD_map hj, sum_succ hj]
      have hx := sk.2 _ (List.getElem_mem hj)
      walk_at "n"
      refine ⟨ring, some', _, 1, rfl, rk, hx.1, hx.2, .inl rfl, ?_⟩
      walk_at "n"
      walk_at "n"
      refine ⟨ring, some', _, -1, rfl, rk, hx.1, hx.2, .inr rfl, ?_⟩
      walk_at "n"
      refine ⟨_, _, rfl, ?_⟩
      walk_at "m"
      rw [Int.add_assoc]; rfl
    · rintro env h' ⟨rfl, x5, x6, x7, rfl⟩
      rw [srcD_n, List.length_map, List.take_length]
      walk_at "n"
      exact q _ .refl
theorem len_law_word : ∀ ds h Q E, c_law_word ds h Q E → ds.length = 2 := by rintro ds h Q E ⟨a, b, c, rfl, _⟩; rfl
theorem p_law_word : ∀ ds h Q E, c_law_word ds h Q E → m_law_word { nx := fun _ h' => Q .non h', rt := Q } (mstart N_law_word ds) h := by
  rintro ds h Q E ⟨a, many, t, rfl, m1, m2, hd, q⟩
  walk_at "n"
  intro p np
  refine ⟨a, 4, t + 1 + many, rfl, (hd.put (hd.ne np)).less (by omega), by decide, by decide, fun r h1 r0 r1 hd1 f1 => ?_⟩
  have ep := f1.at1 up_same (Ne.symm (hd.ne np))
  obtain ⟨d, e1, e2⟩ := atI_lt (ds := [.int 1, .int 2, .int 3, .int 100]) r0 r1
  have hd5 : ∃ v : Int, d = .int v ∧ 1 ≤ v ∧ v ≤ 100 := by
    obtain ⟨v, rfl, hv⟩ := memI (xs := [1, 2, 3, 100]) e2
    refine ⟨v, rfl, ?_⟩
    simp only [List.mem_cons, List.not_mem_nil, or_false] at hv
    omega
  obtain ⟨v, rfl, v1, v2⟩ := hd5
  refine ⟨_, ep, _, e1, ?_⟩
  walk_at "n"
  refine ⟨by omega, by omega, ?_⟩
  refine lcS [a] (fun k acc h' => ∃ zs : List Int, acc = zs.map .int ∧ zs.length = k ∧ Hand h' a (t + 1 + many - k)) (by simpa using hd1.some) ?_ ⟨[], rfl, rfl, hd1⟩ (fun _ _ => trivial) (by rw [srcR_n]; omega) ?_ ?_
  · rintro k acc h' p2 o np2 ⟨zs, e3, e4, e6⟩
    exact ⟨zs, e3, e4, e6.put (hd1.ne np2)⟩
  · rintro k acc h' hk fr ⟨zs, rfl, e4, e6⟩ _
    have hk : k < many := by rw [srcR_n] at hk; omega
    refine ⟨_, rfl, fun R _ r => ?_⟩
    walk_at "m"
    refine ⟨a, v, t + many - k, rfl, e6.less (by omega), by omega, by omega, fun u h5 u0 u1 hd5 f5 => ?_⟩
    exact r _ h5 f5 ⟨zs ++ [u], by rw [List.map_append]; rfl, by rw [List.length_append, e4]; rfl, hd5.less (by omega)⟩
  · rintro p2 h' acc fr np2 e9 ⟨zs, rfl, e4, e6⟩
    have hn : (srcR 0 (many : Int).toNat 1).n = many := by rw [srcR_n]; omega
    rw [hn] at e4 e6
    walk_at "m"
    exact q h' zs e4 (e6.less (by omega)) (Fr.trans (Fr.new np) (f1.trans fr))
theorem len_is_whole : ∀ ds h Q E, c_is_whole ds h Q E → ds.length = 1 := by rintro ds h Q E ⟨a, rfl, _⟩; rfl
theorem len_are_rows : ∀ ds h Q E, c_are_rows ds h Q E → ds.length = 2 := by rintro ds h Q E ⟨a, b, rfl, _⟩; rfl
theorem len_is_greater : ∀ ds h Q E, c_is_greater ds h Q E → ds.length = 4 := by rintro ds h Q E ⟨a, b, c, d, rfl, _⟩; rfl
theorem len_is_stop : ∀ ds h Q E, c_is_stop ds h Q E → ds.length = 5 := by rintro ds h Q E ⟨a, b, c, d, e, rfl, _⟩; rfl
theorem len_shows_round : ∀ ds h Q E, c_shows_round ds h Q E → ds.length = 4 := by rintro ds h Q E ⟨a, b, c, d, rfl, _⟩; rfl
theorem len_shows_halves : ∀ ds h Q E, c_shows_halves ds h Q E → ds.length = 4 := by rintro ds h Q E ⟨a, b, c, d, rfl, _⟩; rfl
theorem len_shows_reach : ∀ ds h Q E, c_shows_reach ds h Q E → ds.length = 4 := by rintro ds h Q E ⟨a, b, c, d, rfl, _⟩; rfl
theorem len_shows_sum : ∀ ds h Q E, c_shows_sum ds h Q E → ds.length = 5 := by rintro ds h Q E ⟨a, b, c, d, e, rfl, _⟩; rfl
theorem kn0.fr {h h' : MH} (f : Fr [] h h') : ∀ {d : D}, kn0 h d → kn0 h' d
  | .ref a, x => by
    rcases x with ⟨ds, e⟩ | ⟨kv, e⟩
    · exact .inl ⟨ds, f.at0 e⟩
    · exact .inr ⟨kv, f.at0 e⟩
  | .rl _, x => x
  | .non, _ => trivial
  | .int _, _ => trivial
  | .bl _, _ => trivial
  | .str _, _ => trivial
  | .tup _, _ => trivial
theorem Th.fr {h h' : MH} (f : Fr [] h h') : ∀ {n : Nat} {d : D}, Th h n d → Th h' n d
  | 0, _, x => kn0.fr f x
  | n + 1, _, x => ⟨kn0.fr f x.1, fun ds e => ⟨(x.2 ds e).1, fun y hy => Th.fr f ((x.2 ds e).2 y hy)⟩⟩
theorem Th.k0 {h : MH} : ∀ {n : Nat} {d : D}, Th h n d → kn0 h d
  | 0, _, x => x
  | _ + 1, _, x => x.1
theorem p_is_whole : ∀ ds h Q E, c_is_whole ds h Q E → m_is_whole { nx := fun _ h' => Q .non h', rt := Q } (mstart N_is_whole ds) h := by
  rintro ds h Q E ⟨d, rfl, k, q⟩
  cases d with
  | rl _ => exact k.elim
  | ref a =>
    rcases k with ⟨ds, e⟩ | ⟨kv, e⟩
    · walk_at "n"
      exact q
    · walk_at "n"
      exact q
  | _ =>
    walk_at "n"
    exact q
theorem p_are_rows : ∀ ds h Q E, c_are_rows ds h Q E → m_are_rows { nx := fun _ h' => Q .non h', rt := Q } (mstart N_are_rows ds) h := by
  rintro ds h Q E ⟨d, s, rfl, k, q⟩
  have q0 := q h .refl
  cases d with
  | rl _ => exact k.1.elim
  | ref a =>
    rcases k.1 with ⟨ds, e⟩ | ⟨kv, e⟩
    · walk_at "r"
      exact q0
    · walk_at "r"
      exact q0
  | tup rows =>
    obtain ⟨hl, hx⟩ := k.2 rows rfl
    clear q0
    walk_at "n"
    walk_at "n"
    walk_at "n"
    refine forW (fun j env h' => Fr [] h h' ∧ ∃ x2 x3, env = [some (.tup rows), some (.int s), x2, x3] ∧ (rows.take j).all (rowOk s) = true) ⟨.refl, _, _, rfl, by simp⟩ (fun _ _ _ _ => trivial) ?_ ?_
    · rintro j env h' hj ⟨fr, x2, x3, rfl, ea⟩
      have hj : j < rows.length := by rw [srcD_n] at hj; exact hj
      rw [srcD_item, List.getD_eq_getElem?_getD, List.getElem?_eq_getElem hj, Option.getD_some]
      have kx := Th.fr fr (hx _ (List.getElem_mem hj))
      have et := List.take_succ_eq_append_getElem hj
      have ef : rowOk s rows[j] = false → arD s (.tup rows) = false := fun z => by
        show rows.all (rowOk s) = false
        rw [List.all_eq_false]
        exact ⟨_, List.getElem_mem hj, by simp [z]⟩
      have e2 : (rows.take (j + 1)).all (rowOk s) = rowOk s rows[j] := by
        rw [et, List.all_append, ea]; simp
      rw [e2]
      refine ⟨_, rfl, ?_⟩
      generalize rows[j] = r at kx ef ⊢
      have qf : rowOk s r = false → ∀ h2, Fr [] h' h2 → Q (.bl false) h2 := fun z h2 f2 => by
        have := q h2 (fr.trans f2)
        rw [ef z] at this
        exact this
      clear ef e2 ea et q hx hj k
      cases r with
      | rl _ => exact kx.1.elim
      | ref a =>
        have qq := qf rfl h' .refl
        rcases kx.1 with ⟨ds, e⟩ | ⟨kv, e⟩
        · walk_at "r"
        · walk_at "r"
      | tup xs =>
        obtain ⟨hl2, hx2⟩ := kx.2 xs rfl
        walk_at "n"
        refine iteb_ (fun c => ?_) (fun c => ?_)
        · have c' : xs.length ≠ s := fun z => by rw [z] at c; simp at c
          have qq := qf (by show (decide (xs.length = s) && _) = false; rw [decide_eq_false c', Bool.false_and]) h' .refl
          walk_at "n"
        · have c' : xs.length = s := by
            have : decide ((xs.length : Int) = s) = true := by simpa using c
            have := of_decide_eq_true this
            omega
          have kn : ∀ x ∈ xs, kn0 h' x := fun x hx => (hx2 x hx).k0
          refine lcD xs (fun x => some (.bl (isI x))) (fun _ _ => trivial) (by omega) (fun x h2 hx3 f2 => ⟨_, rfl, fun R r => ?_⟩) (fun p h2 f2 np2 e2 => ?_)
          · walk_at "m"
            refine ⟨x, rfl, (kn x hx3).fr f2, ?_⟩
            exact r h2 .refl
          · refine all_fin e2 ?_
            have er : rowOk s (.tup xs) = xs.all isI := by
              show (decide (xs.length = s) && _) = _
              rw [decide_eq_true c', Bool.true_and]
            rw [er] at qf ⊢
            generalize xs.all isI = b at qf ⊢
            cases b with
            | true =>
              walk_at "g"
              exact fr.trans f2
            | false =>
              have qq := qf rfl h2 f2
              walk_at "g"
      | _ =>
        have qq := qf rfl h' .refl
        walk_at "r"
    · rintro env h' ⟨fr, x2, x3, rfl, ea⟩
      rw [srcD_n, List.take_length] at ea
      have := q h' fr
      rw [show arD s (.tup rows) = true from ea] at this
      walk_at "n"
  | _ =>
    walk_at "r"
    exact q0
theorem fst_spec (c : Nat → Bool) : ∀ k f, f ≤ fst c f k ∧ fst c f k ≤ f + k ∧ (∀ j, f ≤ j → j < fst c f k → c j = false) ∧ (fst c f k = f + k ∨ c (fst c f k) = true)
  | 0, f => ⟨Nat.le_refl _, Nat.le_refl _, fun j a b => absurd (Nat.lt_of_le_of_lt a b) (Nat.lt_irrefl _), .inl rfl⟩
  | k + 1, f => by
    rw [fst_step]
    by_cases e : c f = true
    · rw [if_pos e]
      exact ⟨Nat.le_refl _, by omega, fun j a b => absurd (Nat.lt_of_le_of_lt a b) (Nat.lt_irrefl _), .inr e⟩
    · rw [if_neg e]
      obtain ⟨a, b, d, g⟩ := fst_spec c k (f + 1)
      refine ⟨by omega, by omega, fun j x y => ?_, g.elim (fun z => .inl (by omega)) .inr⟩
      by_cases q : j = f
      · rw [q]; simpa using e
      · exact d j (by omega) y
theorem fst_uniq {c : Nat → Bool} {f k m : Nat} (h1 : f ≤ m) (h2 : m ≤ f + k) (h3 : ∀ j, f ≤ j → j < m → c j = false) (h4 : m = f + k ∨ c m = true) : m = fst c f k := by
  obtain ⟨a, b, d, e⟩ := fst_spec c k f
  rcases Nat.lt_trichotomy m (fst c f k) with l | l | l
  · rcases h4 with h4 | h4
    · omega
    · have := d m h1 l; rw [h4] at this; cases this
  · exact l
  · rcases e with e | e
    · omega
    · have := h3 _ a l; rw [e] at this; cases this
theorem grC_st {ring some' : List Int} {x s : Int} {k : Nat} : grC ring some' x (s * (k : Int)) = stC ring some' x s k := rfl
theorem p_is_greater : ∀ ds h Q E, c_is_greater ds h Q E → m_is_greater { nx := fun _ h' => Q .non h', rt := Q } (mstart N_is_greater ds) h := by
  rintro ds h Q E ⟨ring, some', house, steps, rfl, rk, h0, h1, q⟩
  have r1 := rk.1
  have b0 := Int.emod_nonneg (house + steps) (show (ring.length : Int) ≠ 0 by omega)
  have b1 := Int.emod_lt_of_pos (house + steps) (show (0 : Int) < ring.length by omega)
  have e1 := row_atI (row := ring) h0 h1
  have lp : (0 : Int) < ring.length := by omega
  unfold grC at q
  generalize hm : (house + steps) % (ring.length : Int) = w at b0 b1 q
  have e2 := row_atI (row := ring) b0 b1
  walk_at "n"
  walk_at "n"
  refine ite_ (fun c1 => ?_) (fun c1 => ?_)
  · rw [decide_eq_true c1, Bool.true_and] at q
    exact q
  · rw [decide_eq_false c1, Bool.false_and] at q
    exact q
theorem p_is_stop : ∀ ds h Q E, c_is_stop ds h Q E → m_is_stop { nx := fun _ h' => Q .non h', rt := Q } (mstart N_is_stop ds) h := by
  rintro ds h Q E ⟨ring, some', house, side, stop, rfl, rk, h0, h1, hs, q⟩
  have r1 := rk.1
  have r2 := rk.2
  obtain ⟨s1, s2, s3, s4⟩ := fst_spec (stC ring some' house side) (ring.length - 1) 1
  have s5 := fun m a b c d => fst_uniq (c := stC ring some' house side) (f := 1) (k := ring.length - 1) (m := m) a b c d
  rw [show fst (stC ring some' house side) 1 (ring.length - 1) = stV ring some' house side from rfl] at s1 s2 s3 s4 s5
  rw [show 1 + (ring.length - 1) = ring.length by omega] at s2 s4 s5
  by_cases c1 : 1 ≤ stop
  · have d1 := decide_eq_true c1
    by_cases c2 : stop ≤ ring.length
    · have d2 := decide_eq_true c2
      obtain ⟨m, rfl⟩ : ∃ m : Nat, stop = m := ⟨stop.toNat, by omega⟩
      walk_at "g"
      refine ⟨by omega, by omega, by omega, by omega, ?_⟩
      refine lcP (fun k => some (.bl (stC ring some' house side (1 + k)))) ?_ ?_ (fun k h2 hk f2 => ?_) (fun p h2 f2 np2 e2 => ?_)
      · exact fun _ _ => trivial
      · rw [srcR_n]; omega
      · refine ⟨_, rfl, fun R r => ?_⟩
        rw [srcR_n] at hk
        rw [srcR_item]
        have e : (1 : Int) + (k : Int) * 1 = ((1 + k : Nat) : Int) := by omega
        rw [e]
        have mo : MulOk side ((1 + k : Nat) : Int) := mulOkL (by omega) (by omega)
        walk_at "m"
        refine ⟨ring, some', house, _, rfl, rk, h0, h1, ?_⟩
        exact r h2 .refl
      · rw [srcR_n] at e2
        refine any_fin e2 ?_
        have hk : ((m : Int) - 1).toNat = m - 1 := by omega
        rw [hk]
        by_cases c3 : ((List.range (m - 1)).any fun k => stC ring some' house side (1 + k)) = true
        · have ne : decide ((m : Int) = (stV ring some' house side : Int)) = false := by
            rw [decide_eq_false_iff_not]
            intro z
            obtain ⟨k, hk, ek⟩ := List.any_eq_true.mp c3
            rw [List.mem_range] at hk
            have := s3 (1 + k) (by omega) (by omega)
            rw [ek] at this; cases this
          have qq := q h2 f2
          rw [ne] at qq
          rw [c3]
          walk_at "g"
        · have no : ∀ j, 1 ≤ j → j < m → stC ring some' house side j = false := fun j a b => by
            by_cases z : stC ring some' house side j = true
            · exact absurd (List.any_eq_true.mpr ⟨j - 1, List.mem_range.mpr (by omega), by rw [show 1 + (j - 1) = j by omega]; exact z⟩) c3
            · simpa using z
          have c3 := Bool.eq_false_iff.mpr c3
          have mo : MulOk side (m : Int) := mulOkL (by omega) (by omega)
          rw [c3]
          walk_at "g"
          refine ite_ (fun c4 => ?_) (fun c4 => ?_)
          · have := s5 m (by omega) (by omega) no (.inl (by omega))
            have qq := q h2 f2
            rw [decide_eq_true (show (m : Int) = (stV ring some' house side : Int) by omega)] at qq
            exact qq
          · refine ⟨ring, some', house, _, rfl, rk, h0, h1, ?_⟩
            rw [grC_st]
            have qq := q h2 f2
            have : decide ((m : Int) = (stV ring some' house side : Int)) = stC ring some' house side m := by
              cases z : stC ring some' house side m with
              | true =>
                have := s5 m (by omega) (by omega) no (.inr z)
                exact decide_eq_true (by omega)
              | false =>
                refine decide_eq_false fun y => ?_
                have y : m = stV ring some' house side := by omega
                rw [← y, z] at s4
                rcases s4 with s4 | s4
                · omega
                · cases s4
            rw [this] at qq
            exact qq
    · have d2 := decide_eq_false c2
      have qq := q h .refl
      rw [decide_eq_false (show ¬ stop = (stV ring some' house side : Int) by omega)] at qq
      walk_at "n"
      walk_at "n"
  · have d1 := decide_eq_false c1
    have qq := q h .refl
    rw [decide_eq_false (show ¬ stop = (stV ring some' house side : Int) by omega)] at qq
    walk_at "n"
    walk_at "n"
theorem Th.down {h : MH} : ∀ {n : Nat} {d : D}, Th h (n + 1) d → Th h n d
  | 0, _, x => x.1
  | n + 1, _, x => ⟨x.1, fun ds e => ⟨(x.2 ds e).1, fun y hy => Th.down ((x.2 ds e).2 y hy)⟩⟩
theorem Th.ofDt {h : MH} : ∀ {m n : Nat} {d : D}, Dt n d → Th h m d
  | m, 0, _, x => x.elim
  | 0, n + 1, d, x => by
    cases d with
    | int i => trivial
    | tup ds => trivial
    | _ => exact x.elim
  | m + 1, n + 1, d, x => by
    cases d with
    | int i => exact ⟨trivial, fun ds e => nomatch e⟩
    | tup ds =>
      refine ⟨trivial, fun ds' e => ?_⟩
      cases e
      exact ⟨x.1, fun y hy => Th.ofDt (x.2 y hy)⟩
    | _ => exact x.elim

theorem row2 {d : D} (h : rowOk 2 d = true) : ∃ p : Int × Int, d = prD p := by
  cases d with
  | tup xs =>
    have h : (decide (xs.length = 2) && xs.all isI) = true := h
    rw [Bool.and_eq_true, decide_eq_true_eq] at h
    obtain ⟨h1, h2⟩ := h
    match xs, h1, h2 with
    | [x, y], _, h2 =>
      simp only [List.all_cons, List.all_nil, Bool.and_true, Bool.and_eq_true] at h2
      obtain ⟨a, b⟩ := h2
      cases x <;> first | cases a | skip
      cases y <;> first | cases b | skip
      exact ⟨(_, _), rfl⟩
  | _ => cases h
theorem row3 {d : D} (h : rowOk 3 d = true) : ∃ p : Int × Int × Int, d = p3D p := by
  cases d with
  | tup xs =>
    have h : (decide (xs.length = 3) && xs.all isI) = true := h
    rw [Bool.and_eq_true, decide_eq_true_eq] at h
    obtain ⟨h1, h2⟩ := h
    match xs, h1, h2 with
    | [x, y, z], _, h2 =>
      simp only [List.all_cons, List.all_nil, Bool.and_true, Bool.and_eq_true] at h2
      obtain ⟨a, b, c⟩ := h2
      cases x <;> first | cases a | skip
      cases y <;> first | cases b | skip
      cases z <;> first | cases c | skip
      exact ⟨(_, _, _), rfl⟩
  | _ => cases h
theorem all_of {α β : Type} {f : α → β} {c : β → Bool} (k : ∀ d, c d = true → ∃ p, d = f p) : ∀ {ds : List β}, ds.all c = true → ∃ ps : List α, ds = ps.map f
  | [], _ => ⟨[], rfl⟩
  | d :: ds, h => by
    rw [List.all_cons, Bool.and_eq_true] at h
    obtain ⟨p, rfl⟩ := k d h.1
    obtain ⟨ps, rfl⟩ := all_of k h.2
    exact ⟨p :: ps, rfl⟩
theorem arD2 {d : D} (h : arD 2 d = true) : ∃ ps : List (Int × Int), d = rwD ps := by
  cases d with
  | tup xs =>
    obtain ⟨ps, rfl⟩ := all_of (fun d => row2) h
    exact ⟨ps, rfl⟩
  | _ => cases h
theorem arD3 {d : D} (h : arD 3 d = true) : ∃ ps : List (Int × Int × Int), d = .tup (ps.map p3D) := by
  cases d with
  | tup xs =>
    obtain ⟨ps, rfl⟩ := all_of (fun d => row3) h
    exact ⟨ps, rfl⟩
  | _ => cases h
theorem arD_rw {ps : List (Int × Int)} : arD 2 (rwD ps) = true := by
  show (ps.map prD).all (rowOk 2) = true
  rw [List.all_map]
  exact List.all_eq_true.mpr fun _ _ => rfl
theorem arD_p3 {ps : List (Int × Int × Int)} : arD 3 (.tup (ps.map p3D)) = true := by
  show (ps.map p3D).all (rowOk 3) = true
  rw [List.all_map]
  exact List.all_eq_true.mpr fun _ _ => rfl
theorem pu_rw {ps : List (Int × Int)} : Pu 3 (rwD ps) := by
  show ∀ x ∈ ps.map prD, Pu 2 x
  intro x hx
  obtain ⟨p, _, rfl⟩ := List.mem_map.mp hx
  show ∀ y ∈ [D.int p.1, .int p.2], Pu 1 y
  intro y hy
  simp only [List.mem_cons, List.not_mem_nil, or_false] at hy
  rcases hy with rfl | rfl <;> exact trivial
theorem Pu.up : ∀ {n : Nat} {d : D}, Pu n d → Pu (n + 1) d
  | 0, _, x => x.elim
  | n + 1, d, x => by
    cases d with
    | tup ds => exact fun y hy => Pu.up (x y hy)
    | non => trivial
    | int _ => trivial
    | _ => exact x.elim
theorem pu_tI {xs : List Int} : Pu 9 (tI xs) := by
  show ∀ x ∈ xs.map D.int, Pu 8 x
  intro x hx
  obtain ⟨p, _, rfl⟩ := List.mem_map.mp hx
  exact trivial
theorem pu_rw9 {ps : List (Int × Int)} : Pu 9 (rwD ps) := Pu.up (Pu.up (Pu.up (Pu.up (Pu.up (Pu.up (pu_rw (ps := ps)))))))
theorem prD_inj : ∀ {ps qs : List (Int × Int)}, ps.map prD = qs.map prD → ps = qs
  | [], [], _ => rfl
  | [], _ :: _, h => by cases h
  | _ :: _, [], h => by cases h
  | p :: ps, r :: qs, h => by
    rw [List.map_cons, List.map_cons] at h
    injection h with h1 h2
    injection h1 with h1
    simp only [List.cons.injEq, D.int.injEq, and_true] at h1
    rw [prD_inj h2, Prod.ext h1.1 h1.2]
theorem rwD_inj {ps qs : List (Int × Int)} (h : rwD ps = rwD qs) : ps = qs := prD_inj (D.tup.inj h)
theorem p3D_inj : ∀ {ps qs : List (Int × Int × Int)}, ps.map p3D = qs.map p3D → ps = qs
  | [], [], _ => rfl
  | [], _ :: _, h => by cases h
  | _ :: _, [], h => by cases h
  | p :: ps, r :: qs, h => by
    rw [List.map_cons, List.map_cons] at h
    injection h with h1 h2
    injection h1 with h1
    simp only [List.cons.injEq, D.int.injEq, and_true] at h1
    rw [p3D_inj h2, Prod.ext h1.1 (Prod.ext h1.2.1 h1.2.2)]
theorem hd_iff {f : Int → Int} : ∀ {ps : List (Int × Int)} {xs : List Int}, ps.map (·.1) = xs → ((ps.all fun p => decide (p.2 = f p.1)) = true ↔ ps = xs.map fun x => (x, f x))
  | [], _, rfl => by simp
  | p :: ps, _, rfl => by
    rw [List.all_cons, Bool.and_eq_true, decide_eq_true_eq, hd_iff (ps := ps) rfl, List.map_cons, List.map_cons, List.cons.injEq]
    refine and_congr ⟨fun e => Prod.ext rfl e, fun e => ?_⟩ Iff.rfl
    exact (congrArg Prod.snd e)
theorem p_shows_round : ∀ ds h Q E, c_shows_round ds h Q E → m_shows_round { nx := fun _ h' => Q .non h', rt := Q } (mstart N_shows_round ds) h := by
  rintro ds h Q E ⟨ring, some', number, d, rfl, gd, th, q⟩
  have rk := gd.rk
  have sk := gd.sk
  have ek : papV .round ring some' = rwD (some'.map fun x => (x, (stV ring some' x 1 : Int))) := by
    show D.tup (some'.map _) = D.tup ((some'.map _).map prD)
    rw [List.map_map]; rfl
  have et : toldV .round ring some' = ((some'.map fun x => (x, (stV ring some' x 1 : Int))).map (·.2)).sum + ring.length := by
    show rlV ring some' = _
    unfold rlV
    rw [List.map_map]; rfl
  rw [ek, et] at q
  walk_at "n"
  refine ⟨d, 2, rfl, th.down, fun h2 f2 => ?_⟩
  cases c : arD 2 d with
  | false =>
    have qq := q false h2 f2 (by simp only [Bool.false_eq_true, false_iff]; rintro ⟨rfl, _⟩; rw [arD_rw] at c; cases c)
    walk_at "m"
    walk_at "n"
  | true =>
    obtain ⟨ps, rfl⟩ := arD2 c
    have lps : ps.length ≤ 100000 := by have := (th.2 _ rfl).1; rw [List.length_map] at this; exact this
    clear c th
    unfold rwD at *
    walk_at "m"
    refine lcL ps prD (fun p => some (.int p.1)) (fun _ _ => trivial) lps (fun x h3 hx f3 => ⟨_, rfl, fun R r => ?_⟩) (fun p2 h3 f3 np2 e2 => ?_)
    · walk_at "m"
      exact r h3 .refl
    refine tup_fin e2 ?_
    have eh : (ps.map fun p => D.int p.1) = (ps.map (·.1)).map .int := by rw [List.map_map]; rfl
    rw [eh]
    walk_at "m"
    refine neD_pu pu_tI pu_tI fun b eb => ?_
    replace eb : b = true ↔ ps.map (·.1) ≠ some' := eb.trans (not_congr ⟨fun z => ints_inj (D.tup.inj z), fun z => by rw [z]⟩)
    refine ⟨b, rfl, ?_⟩
    cases b with
    | true =>
      have hne := eb.mp rfl
      have qq := q false h3 (f2.trans f3) (by
        simp only [Bool.false_eq_true, false_iff]
        rintro ⟨z, _⟩
        refine hne ?_
        rw [prD_inj (D.tup.inj z), List.map_map]
        exact List.map_id _)
      walk_at "g"
    | false =>
      have hps : ps.map (·.1) = some' := Decidable.byContradiction fun z => by have := eb.mpr z; cases this
      clear eb eh e2
      walk_at "g"
      refine lcL ps prD (fun p => some (.bl (decide (p.2 = (stV ring some' p.1 1 : Int))))) (fun _ _ => trivial) lps (fun x h4 hx f4 => ⟨_, rfl, fun R r => ?_⟩) (fun p3 h4 f4 np3 e3 => ?_)
      · have hs := sk.2 x.1 (hps ▸ List.mem_map_of_mem hx)
        walk_at "m"
        refine ⟨ring, some', x.1, 1, x.2, rfl, rk, hs.1, hs.2, .inl rfl, fun h5 f5 => ?_⟩
        exact r h5 f5
      refine all_fin e3 ?_
      have hi := hd_iff (f := fun x => (stV ring some' x 1 : Int)) hps
      generalize (ps.all fun p => decide (p.2 = (stV ring some' p.1 1 : Int))) = b at hi ⊢
      cases b with
      | false =>
        have hne : ¬ ps = some'.map fun x => (x, (stV ring some' x 1 : Int)) := fun z => by have := hi.mpr z; cases this
        have qq := q false h4 ((f2.trans f3).trans f4) (by
          simp only [Bool.false_eq_true, false_iff]
          rintro ⟨z, _⟩
          exact hne (prD_inj (D.tup.inj z)))
        walk_at "g"
      | true =>
        have hps2 := hi.mp rfl
        clear hi e3
        have qq : ∀ h5, Fr [] h h5 → Q (.bl (decide (number = ring.length + (ps.map (·.2)).sum))) h5 := fun h5 f5 => q _ h5 f5 (by
          rw [decide_eq_true_eq, ← hps2, Int.add_comm]
          exact ⟨fun z => ⟨rfl, z⟩, fun z => z.2⟩)
        clear hps2 hps q
        walk_at "g"
        refine lcL ps prD (fun p => some (.int p.2)) (fun _ _ => trivial) lps (fun x h5 hx f5 => ⟨_, rfl, fun R r => ?_⟩) (fun p4 h5 f5 np4 e4 => ?_)
        · walk_at "m"
          exact r h5 .refl
        refine sum_fin e4 ?_
        have qq := qq h5 (((f2.trans f3).trans f4).trans f5)
        walk_at "m"
theorem hd_iff3 {f g : Int → Int} : ∀ {ps : List (Int × Int × Int)} {xs : List Int}, ps.map (·.1) = xs → ((ps.all fun p => decide (p.2.1 = f p.1) && decide (p.2.2 = g p.1)) = true ↔ ps = xs.map fun x => (x, f x, g x))
  | [], _, rfl => by simp
  | p :: ps, _, rfl => by
    rw [List.all_cons, Bool.and_eq_true, Bool.and_eq_true, decide_eq_true_eq, decide_eq_true_eq, hd_iff3 (ps := ps) rfl, List.map_cons, List.map_cons, List.cons.injEq]
    refine and_congr ⟨fun e => Prod.ext rfl (Prod.ext e.1 e.2), fun e => ?_⟩ Iff.rfl
    exact ⟨congrArg (fun x => x.2.1) e, congrArg (fun x => x.2.2) e⟩
theorem p_shows_reach : ∀ ds h Q E, c_shows_reach ds h Q E → m_shows_reach { nx := fun _ h' => Q .non h', rt := Q } (mstart N_shows_reach ds) h := by
  rintro ds h Q E ⟨ring, some', number, d, rfl, gd, th, q⟩
  have rk := gd.rk
  have sk := gd.sk
  have hb := stb (some' := some') rk gd.l64
  have ek : papV .reach ring some' = .tup ((some'.map fun x => (x, (stV ring some' x (-1) : Int), (stV ring some' x 1 : Int))).map p3D) := by
    show D.tup (some'.map _) = _
    rw [List.map_map]; rfl
  have et : toldV .reach ring some' = ring.length + ((some'.map fun x => (x, (stV ring some' x (-1) : Int), (stV ring some' x 1 : Int))).map (fun p => reV p.2.1 p.2.2 7 0)).sum := by
    show trV ring some' = _
    unfold trV
    rw [List.map_map]; rfl
  rw [ek, et] at q
  walk_at "n"
  refine ⟨d, 3, rfl, th.down, fun h2 f2 => ?_⟩
  cases c : arD 3 d with
  | false =>
    have qq := q false h2 f2 (by simp only [Bool.false_eq_true, false_iff]; rintro ⟨rfl, _⟩; rw [arD_p3] at c; cases c)
    walk_at "m"
    walk_at "n"
  | true =>
    obtain ⟨ps, rfl⟩ := arD3 c
    have lps : ps.length ≤ 100000 := by have := (th.2 _ rfl).1; rw [List.length_map] at this; exact this
    clear c th
    walk_at "m"
    refine lcL ps p3D (fun p => some (.int p.1)) (fun _ _ => trivial) lps (fun x h3 hx f3 => ⟨_, rfl, fun R r => ?_⟩) (fun p2 h3 f3 np2 e2 => ?_)
    · walk_at "m"
      exact r h3 .refl
    refine tup_fin e2 ?_
    have eh : (ps.map fun p => D.int p.1) = (ps.map (·.1)).map .int := by rw [List.map_map]; rfl
    rw [eh]
    walk_at "m"
    refine neD_pu pu_tI pu_tI fun b eb => ?_
    replace eb : b = true ↔ ps.map (·.1) ≠ some' := eb.trans (not_congr ⟨fun z => ints_inj (D.tup.inj z), fun z => by rw [z]⟩)
    refine ⟨b, rfl, ?_⟩
    cases b with
    | true =>
      have hne := eb.mp rfl
      have qq := q false h3 (f2.trans f3) (by
        simp only [Bool.false_eq_true, false_iff]
        rintro ⟨z, _⟩
        refine hne ?_
        rw [p3D_inj (D.tup.inj z), List.map_map]
        exact List.map_id _)
      walk_at "g"
    | false =>
      have hps : ps.map (·.1) = some' := Decidable.byContradiction fun z => by have := eb.mpr z; cases this
      have hi := hd_iff3 (f := fun x => (stV ring some' x (-1) : Int)) (g := fun x => (stV ring some' x 1 : Int)) hps
      clear eb eh e2
      walk_at "g"
      have hi2 : ∀ z : Int × Int × Int, z ∈ ps → (decide (z.2.1 = (stV ring some' z.1 (-1) : Int)) && decide (z.2.2 = (stV ring some' z.1 1 : Int))) = false → ∀ h5, Fr [] h h5 → Q (.bl false) h5 := fun z hz e h5 f5 => by
        refine q false h5 f5 ?_
        simp only [Bool.false_eq_true, false_iff]
        rintro ⟨y, _⟩
        have := List.all_eq_true.mp (hi.mpr (p3D_inj (D.tup.inj y))) z hz
        rw [e] at this; cases this
      refine forW (fun j env h' => Fr [] h h' ∧ ∃ x5 x6 x7 x8, env = [some (tI ring), some (tI some'), some (.int number), some (.tup (ps.map p3D)), some (.int (ring.length + ((ps.take j).map (fun p => reV p.2.1 p.2.2 7 0)).sum)), x5, x6, x7, x8] ∧ (ps.take j).all (fun p => decide (p.2.1 = (stV ring some' p.1 (-1) : Int)) && decide (p.2.2 = (stV ring some' p.1 1 : Int))) = true) ⟨f2.trans f3, none, none, none, none, by simp, by simp⟩ (fun _ _ _ _ => trivial) ?_ ?_
      · rintro j env h' hj ⟨fr, x5, x6, x7, x8, rfl, ea⟩
        have hj : j < ps.length := by rw [srcD_n, List.length_map] at hj; exact hj
        rw [srcD_item, getD_map hj, List.take_succ_eq_append_getElem hj]
        have hs := sk.2 ps[j].1 (hps ▸ List.mem_map_of_mem (List.getElem_mem hj))
        have hi3 := hi2 ps[j] (List.getElem_mem hj)
        refine ⟨_, rfl, ?_⟩
        rw [List.map_append, List.sum_append, List.all_append, ea]
        generalize ((ps.take j).map (fun p => reV p.2.1 p.2.2 7 0)).sum = acc
        generalize ps[j] = z at hs hi3
        obtain ⟨z1, z2, z3⟩ := z
        clear hi hi2 hps ea
        walk_at "n"
        refine ⟨ring, some', z1, -1, z2, rfl, rk, hs.1, hs.2, .inr rfl, fun h5 f5 => ?_⟩
        refine ⟨_, rfl, ?_⟩
        by_cases c1 : z2 = (stV ring some' z1 (-1) : Int)
        · rw [decide_eq_true c1] at hi3 ⊢
          walk_at "m"
          refine ⟨ring, some', z1, 1, z3, rfl, rk, hs.1, hs.2, .inl rfl, fun h6 f6 => ?_⟩
          refine ⟨_, rfl, ?_⟩
          by_cases c2 : z3 = (stV ring some' z1 1 : Int)
          · rw [decide_eq_true c2] at hi3 ⊢
            have b1 := hb z1 (-1)
            have b2 := hb z1 1
            walk_at "m"
            refine aug_ ?_
            walk_at "m"
            refine ⟨_, _, rfl, by omega, by omega, ?_⟩
            walk_at "m"
            refine ⟨(fr.trans f5).trans f6, ?_, ?_⟩
            · simp [Int.add_assoc]
            · simp [c1, c2]
          · rw [decide_eq_false c2] at hi3 ⊢
            have qq := hi3 (by simp) h6 ((fr.trans f5).trans f6)
            walk_at "m"
            walk_at "n"
        · rw [decide_eq_false c1] at hi3 ⊢
          have qq := hi3 (by simp) h5 (fr.trans f5)
          walk_at "m"
          walk_at "n"
      · rintro env h' ⟨fr, x5, x6, x7, x8, rfl, ea⟩
        rw [srcD_n, List.length_map, List.take_length] at *
        have hps2 := hi.mp ea
        have qq := q (decide (number = ring.length + (ps.map (fun p => reV p.2.1 p.2.2 7 0)).sum)) h' fr (by
          rw [decide_eq_true_eq, ← hps2]
          exact ⟨fun z => ⟨rfl, z⟩, fun z => z.2⟩)
        rw [hps2] at qq
        clear hi2 hi
        walk_at "g"
theorem um_row0 {ring some' : List Int} (nr : ring.Nodup) (ns : some'.Nodup) (sk : Sds ring.length some') {M : Int} (hm : M ∈ some'.map fun x => ring.getD x.toNat 0) (hM : ∀ y, y ∈ some'.map (fun x => ring.getD x.toNat 0) → y ≤ M) : UM (row0 ring some') M := by
  obtain ⟨x, hx, rfl⟩ := List.mem_map.mp hm
  obtain ⟨p, hp, rfl⟩ := List.mem_iff_getElem.mp hx
  have hl0 : (row0 ring some').length = some'.length := List.length_map ..
  have hh : ∀ j (hj : j < some'.length), hv (row0 ring some') j = ring.getD (some'[j]).toNat 0 := fun j hj => by
    unfold hv row0
    rw [List.getD_eq_getElem?_getD, List.getElem?_map, List.getElem?_eq_getElem hj]; rfl
  refine ⟨p, by omega, hh p hp, fun j hj nj => ?_⟩
  have hj' : j < some'.length := by omega
  rw [hh j hj']
  have le := hM _ (List.mem_map.mpr ⟨some'[j], List.getElem_mem hj', rfl⟩)
  rcases Int.lt_or_eq_of_le le with h | h
  · exact h
  · exfalso
    have a := sk.2 _ (List.getElem_mem hj')
    have b := sk.2 _ (List.getElem_mem hp)
    have e1 : ring.getD (some'[j]).toNat 0 = ring[(some'[j]).toNat]'(by omega) := by rw [List.getD_eq_getElem?_getD, List.getElem?_eq_getElem (by omega)]; rfl
    have e2 : ring.getD (some'[p]).toNat 0 = ring[(some'[p]).toNat]'(by omega) := by rw [List.getD_eq_getElem?_getD, List.getElem?_eq_getElem (by omega)]; rfl
    rw [e1, e2] at h
    have h2 := (List.getElem_inj nr).mp h
    exact nj ((List.getElem_inj ns).mp (by omega))
theorem mxI : ∀ xs : List Int, xs ≠ [] → ∃ M, M ∈ xs ∧ ∀ y, y ∈ xs → y ≤ M
  | [], h => absurd rfl h
  | [x], _ => ⟨x, List.mem_cons_self .., fun y hy => by rw [List.mem_singleton.mp hy]; exact Int.le_refl _⟩
  | x :: z :: xs, _ => by
    obtain ⟨M, a, b⟩ := mxI (z :: xs) (by simp)
    by_cases c : x ≤ M
    · exact ⟨M, List.mem_cons_of_mem _ a, fun y hy => (List.mem_cons.mp hy).elim (fun e => e ▸ c) (b y)⟩
    · exact ⟨x, List.mem_cons_self .., fun y hy => (List.mem_cons.mp hy).elim (fun e => e ▸ Int.le_refl _) fun e => by have := b y e; omega⟩
theorem phV_last {ring some' : List Int} (nr : ring.Nodup) (ns : some'.Nodup) (sk : Sds ring.length some') (s1 : 1 ≤ some'.length) : ∃ rs x, phV ring some' = rs ++ [[x]] := by
  obtain ⟨M, a, b⟩ := mxI (some'.map fun x => ring.getD x.toNat 0) (by intro z; have := congrArg List.length z; rw [List.length_map, List.length_nil] at this; omega)
  obtain ⟨rs, x, e⟩ := phs_last some'.length (row0 ring some') M (by show (some'.map _).length ≤ _; rw [List.length_map]; omega) (um_row0 nr ns sk a b)
  exact ⟨rs, _, e⟩
def chn (ps qs : List (Int × Int)) : Bool := decide (1 < ps.length) && decide (nxr ps = qs)
theorem rwDs_inj : ∀ {ps qs : List (List (Int × Int))}, ps.map rwD = qs.map rwD → ps = qs
  | [], [], _ => rfl
  | [], _ :: _, h => by cases h
  | _ :: _, [], h => by cases h
  | p :: ps, r :: qs, h => by
    rw [List.map_cons, List.map_cons] at h
    injection h with h1 h2
    rw [rwDs_inj h2, rwD_inj h1]
theorem cut_to {xs : List D} {k : Nat} : cutD xs none (some (k : Int)) = xs.take k := by
  unfold cutD
  have e1 : HT.sIx xs.length 0 none = 0 := rfl
  have e2 : HT.sIx xs.length xs.length (some (k : Int)) = min k xs.length := by
    show (if (k : Int) < 0 then ((k : Int) + (xs.length : Int)).toNat else min (k : Int).toNat xs.length) = _
    rw [if_neg (by omega), Int.toNat_natCast]
  rw [e1, e2, List.drop_zero, Nat.sub_zero]
  by_cases h : k ≤ xs.length
  · rw [Nat.min_eq_left h]
  · rw [Nat.min_eq_right (by omega), List.take_of_length_le (Nat.le_refl _), List.take_of_length_le (by omega)]
theorem cut_from {xs : List D} {k : Nat} : cutD xs (some (k : Int)) none = xs.drop k := by
  unfold cutD
  have e1 : HT.sIx xs.length 0 (some (k : Int)) = min k xs.length := by
    show (if (k : Int) < 0 then ((k : Int) + (xs.length : Int)).toNat else min (k : Int).toNat xs.length) = _
    rw [if_neg (by omega), Int.toNat_natCast]
  have e2 : HT.sIx xs.length xs.length none = xs.length := rfl
  rw [e1, e2]
  by_cases h : k ≤ xs.length
  · rw [Nat.min_eq_left h, List.take_of_length_le (by rw [List.length_drop]; omega)]
  · rw [Nat.min_eq_right (by omega), List.drop_eq_nil_of_le (Nat.le_refl _), List.drop_eq_nil_of_le (by omega), List.take_nil]
theorem cut_tail {xs : List D} : cutD xs (some 1) none = xs.tail := by
  rw [show (some (1 : Int)) = some ((1 : Nat) : Int) from rfl, cut_from, List.drop_one]
theorem phs_head : ∀ (f : Nat) (row : List (Int × Int)), ∃ t, phs f row = row :: t
  | 0, row => ⟨[], rfl⟩
  | f + 1, row => by
    by_cases c : row.length ≤ 1
    · exact ⟨[], phs_one c⟩
    · exact ⟨_, phs_more (by omega)⟩
theorem ph_chain : ∀ (f : Nat) (row : List (Int × Int)), row.length ≤ f + 1 → ((phs f row).zip (phs f row).tail).all (fun p => chn p.1 p.2) = true := by
  intro f
  induction f with
  | zero => intro row h; rw [phs_one (by omega)]; rfl
  | succ f ih =>
    intro row h
    by_cases c : row.length ≤ 1
    · rw [phs_one c]; rfl
    · have hl := nxr_lt (row := row) (by omega)
      have := ih (nxr row) (by omega)
      rw [phs_more (by omega)]
      have hd : ∃ t, phs f (nxr row) = nxr row :: t := by
        cases f with
        | zero => exact ⟨[], phs_one (by omega)⟩
        | succ f =>
          by_cases c2 : (nxr row).length ≤ 1
          · exact ⟨[], phs_one c2⟩
          · exact ⟨_, phs_more (by omega)⟩
      obtain ⟨t, et⟩ := hd
      rw [et] at this ⊢
      rw [List.tail_cons] at this ⊢
      rw [List.zip_cons_cons, List.all_cons, this, Bool.and_true]
      show chn row (nxr row) = true
      unfold chn
      rw [decide_eq_true (by omega), decide_eq_true rfl]; rfl
theorem ph_of : ∀ (f : Nat) (row : List (Int × Int)) (rest : List (List (Int × Int))), row.length ≤ f + 1 → ((row :: rest).zip rest).all (fun p => chn p.1 p.2) = true → ((row :: rest).getLast (by simp)).length = 1 → row :: rest = phs f row := by
  intro f
  induction f with
  | zero =>
    intro row rest hl hc hs
    cases rest with
    | nil => rw [phs_one (by omega)]
    | cons b rest =>
      rw [List.zip_cons_cons, List.all_cons, Bool.and_eq_true] at hc
      have := hc.1
      unfold chn at this
      rw [Bool.and_eq_true, decide_eq_true_eq] at this
      have h1 : 1 < row.length := this.1
      omega
  | succ f ih =>
    intro row rest hl hc hs
    cases rest with
    | nil =>
      have hs : row.length = 1 := hs
      rw [phs_one (by omega)]
    | cons b rest =>
      rw [List.zip_cons_cons, List.all_cons, Bool.and_eq_true] at hc
      have := hc.1
      unfold chn at this
      rw [Bool.and_eq_true, decide_eq_true_eq, decide_eq_true_eq] at this
      have h1 : 1 < row.length := this.1
      have h2 : nxr row = b := this.2
      have := nxr_lt h1
      rw [phs_more h1, h2, ih b rest (by rw [← h2]; omega) hc.2 (by simpa using hs)]
theorem ph_iff {ring some' : List Int} (gd : Gd .halves ring some') {row : List (Int × Int)} {rest : List (List (Int × Int))} (h0 : row = row0 ring some') (h1 : ((row :: rest).getLast (by simp)).length = 1) :
    ((row :: rest).zip rest).all (fun p => chn p.1 p.2) = true ↔ row :: rest = phV ring some' := by
  have hl : row.length ≤ some'.length + 1 := by rw [h0]; show (some'.map _).length ≤ _; rw [List.length_map]; omega
  constructor
  · intro h
    rw [ph_of _ _ _ hl h h1, h0]; rfl
  · intro h
    have := ph_chain some'.length (row0 ring some') (by rw [← h0]; exact hl)
    rw [show phs some'.length (row0 ring some') = row :: rest from h.symm, List.tail_cons] at this
    exact this
theorem p_shows_halves : ∀ ds h Q E, c_shows_halves ds h Q E → m_shows_halves { nx := fun _ h' => Q .non h', rt := Q } (mstart N_shows_halves ds) h := by
  rintro ds h Q E ⟨ring, some', number, d, rfl, gd, th, q⟩
  have rk := gd.rk
  have sk := gd.sk
  obtain ⟨prs, px, ephv⟩ := phV_last (gd.rn rfl) gd.nd sk gd.s1
  have ek : papV .halves ring some' = .tup ((phV ring some').map rwD) := rfl
  have et : toldV .halves ring some' = 2 * ring.length * (phV ring some').length := rfl
  obtain ⟨pb1, pb2⟩ := rows_of_phV (ring := ring) (some' := some')
  have l0 := sk.1
  have r2 := rk.2
  rw [ek, et] at q
  cases d with
  | tup rows =>
    obtain ⟨hl, hx⟩ := th.2 rows rfl
    cases rows with
    | nil =>
      have qq := q false h .refl (by simp only [Bool.false_eq_true, false_iff]; rintro ⟨z, _⟩; rw [ephv] at z; simp at z)
      walk_at "n"
      walk_at "n"
    | cons r0 rest =>
      walk_at "n"
      have hlen : decide (((r0 :: rest).length : Int) = 0) = false := decide_eq_false (by rw [List.length_cons]; omega)
      have hlen : decide (((rest.length + 1 : Nat) : Int) = 0) = false := decide_eq_false (by omega)
      walk_at "g"
      refine lcD (r0 :: rest) (fun x => some (.bl (arD 2 x))) (fun _ _ => trivial) hl (fun x h2 hx2 f2 => ⟨_, rfl, fun R r => ?_⟩) (fun p2 h2 f2 np2 e2 => ?_)
      · walk_at "m"
        refine ⟨x, 2, rfl, Th.fr f2 (hx x hx2), fun h3 f3 => ?_⟩
        exact r h3 f3
      refine all_fin e2 ?_
      cases ca : (r0 :: rest).all (arD 2) with
      | false =>
        have qq := q false h2 f2 (by
          simp only [Bool.false_eq_true, false_iff]
          rintro ⟨z, _⟩
          injection z with z
          rw [z, List.all_map] at ca
          have : (phV ring some').all (arD 2 ∘ rwD) = true := List.all_eq_true.mpr fun _ _ => arD_rw
          rw [this] at ca; cases ca)
        walk_at "g"
      | true =>
        obtain ⟨pss, epss⟩ := all_of (fun d hd => arD2 hd) ca
        cases pss with
        | nil => cases epss
        | cons row rest' =>
        injection epss with e3 e4
        subst e3 e4
        clear ca e2 hlen
        have hl' : rest'.length ≤ 100000 := by rw [List.length_cons, List.length_map] at hl; omega
        walk_at "g"
        refine lcL some' .int (fun x => some (prD (x, ring.getD x.toNat 0))) (fun _ _ => trivial) (by omega) (fun x h3 hx f3 => ⟨_, rfl, fun R r => ?_⟩) (fun p3 h3 f3 np3 e3 => ?_)
        · have hx' := sk.2 x hx
          have a1 := row_atI (row := ring) hx'.1 hx'.2
          walk_at "m"
          exact r h3 .refl
        refine tup_fin e3 ?_
        rw [show (some'.map fun x => prD (x, ring.getD x.toNat 0)) = (row0 ring some').map prD from by unfold row0; rw [List.map_map]; rfl]
        refine neD_pu pu_rw9 pu_rw9 fun b eb => ?_
        refine ⟨b, rfl, ?_⟩
        cases b with
        | true =>
          have hne : row ≠ row0 ring some' := fun z => (eb.mp rfl) (by rw [z])
          have qq := q false h3 (f2.trans f3) (by
            simp only [Bool.false_eq_true, false_iff]
            rintro ⟨z, _⟩
            injection z with z
            obtain ⟨t, et⟩ := phs_head some'.length (row0 ring some')
            rw [show phV ring some' = _ from et, List.map_cons] at z
            injection z with z1 z2
            exact hne (rwD_inj z1))
          walk_at "g"
        | false =>
          have hrow : row = row0 ring some' := Decidable.byContradiction fun z => by have := eb.mpr fun y => z (rwD_inj y); cases this
          have hlast : (row :: rest') = (row :: rest').dropLast ++ [(row :: rest').getLast (by simp)] := (List.dropLast_concat_getLast (by simp)).symm
          have hat : atI (rwD row :: rest'.map rwD) (-1) = some (rwD ((row :: rest').getLast (by simp))) := by
            have := atI_last (xs := ((row :: rest').dropLast).map rwD) (x := rwD ((row :: rest').getLast (by simp)))
            rw [show ((row :: rest').dropLast).map rwD ++ [rwD ((row :: rest').getLast (by simp))] = (row :: rest').map rwD from by rw [← List.map_singleton, ← List.map_append, ← hlast]] at this
            exact this
          have hin : ∀ (c : ¬ ((row :: rest').getLast (by simp)).length = 1), ¬ (row :: rest' = phV ring some') := fun c z => by
            refine c ?_
            have : (row :: rest').getLast (by simp) = [px] := by simp only [z, ephv, List.getLast_append, List.getLast_singleton]; simp
            rw [this]; rfl
          clear eb e3 hlast
          have hiff := fun c => ph_iff (rest := rest') gd hrow c
          generalize (row :: rest').getLast (by simp) = lr at hat hin hiff
          by_cases c : lr.length = 1
          · have d1 : decide ((lr.length : Int) = 1) = true := decide_eq_true (by omega)
            replace hiff := hiff c
            clear hin
            have ect : cutD (rwD row :: rest'.map rwD) (some 1) none = rest'.map rwD := by
              rw [cut_tail]; rfl
            clear hrow
            walk_at "g"
            refine lcZ (row :: rest') rest' rwD rwD (fun p => some (.bl (chn p.1 p.2))) (fun _ _ => trivial) (by rw [List.length_zip]; omega) (fun x h4 hx4 f4 => ⟨_, rfl, fun R r => ?_⟩) (fun p4 h4 f4 np4 e4 => ?_)
            · obtain ⟨a, b⟩ := x
              have ha : a.length ≤ 100000 := by
                have := (hx (rwD a) (List.mem_map_of_mem (f := rwD) (List.of_mem_zip hx4).1)).2 _ rfl
                rw [List.length_map] at this
                exact this.1
              clear hiff hx th
              by_cases c1 : 1 < a.length
              · have d2 : decide ((a.length : Int) > 1) = true := decide_eq_true (by omega)
                walk_at "g"
                refine ⟨a, rfl, c1, ha, fun h5 f5 => ?_⟩
                have ec : chn a b = decide (nxr a = b) := by unfold chn; rw [decide_eq_true c1, Bool.true_and]
                rw [ec] at r
                walk_at "m"
                refine eqD_pu pu_rw9 pu_rw9 fun b' eb => ?_
                have : b' = decide (nxr a = b) := by
                  rw [Bool.eq_iff_iff, decide_eq_true_eq]
                  exact eb.trans ⟨fun z => rwD_inj z, fun z => by rw [z]⟩
                rw [this]
                exact r h5 f5
              · have d2 : decide ((a.length : Int) > 1) = false := decide_eq_false (by omega)
                have ec : chn a b = false := by unfold chn; rw [decide_eq_false c1, Bool.false_and]
                rw [ec] at r
                have := r h4 .refl
                walk_at "g"
            · refine all_fin e4 ?_
              generalize (((row :: rest').zip rest').all fun p => chn p.1 p.2) = b at hiff ⊢
              cases b with
              | false =>
                have hne : ¬ row :: rest' = phV ring some' := fun z => by have := hiff.mpr z; cases this
                have qq := q false h4 ((f2.trans f3).trans f4) (by
                  simp only [Bool.false_eq_true, false_iff]
                  rintro ⟨z, _⟩
                  injection z with z
                  exact hne (rwDs_inj z))
                clear hiff
                walk_at "g"
              | true =>
                have heq := hiff.mp rfl
                clear hiff e4
                have ll : (phV ring some').length = rest'.length + 1 := by rw [← heq]; rfl
                have qq := q (decide (number = 2 * ring.length * ((rest'.length + 1 : Nat) : Int))) h4 ((f2.trans f3).trans f4) (by
                  rw [decide_eq_true_eq, ← heq]
                  exact ⟨fun z => ⟨rfl, z⟩, fun z => z.2⟩)
                clear heq
                walk_at "g"
                exact ⟨mulOkL (by omega) (by omega), mulOkL (by omega) (by omega)⟩
          · have d1 : decide ((lr.length : Int) = 1) = false := decide_eq_false (by omega)
            have qq := q false h3 (f2.trans f3) (by
              simp only [Bool.false_eq_true, false_iff]
              rintro ⟨z, _⟩
              injection z with z
              exact hin c (rwDs_inj z))
            clear hiff hin hrow
            walk_at "g"
  | rl _ => exact th.1.elim
  | ref a =>
    have qq := q false h .refl (by simp only [Bool.false_eq_true, false_iff]; rintro ⟨z, _⟩; cases z)
    rcases th.1 with ⟨ds, e⟩ | ⟨kv, e⟩
    · walk_at "n"
      walk_at "n"
    · walk_at "n"
      walk_at "n"
  | _ =>
    have qq := q false h .refl (by simp only [Bool.false_eq_true, false_iff]; rintro ⟨z, _⟩; cases z)
    walk_at "n"
    walk_at "n"
theorem p_shows_sum : ∀ ds h Q E, c_shows_sum ds h Q E → m_shows_sum { nx := fun _ h' => Q .non h', rt := Q } (mstart N_shows_sum ds) h := by
  rintro ds h Q E ⟨w, ring, some', x, d, rfl, gd, kx, th, q⟩
  walk_at "n"
  refine ⟨x, rfl, kx, ?_⟩
  have r2 := gd.rk.2
  cases x with
  | int number =>
    have ki : isI (.int number) = true := rfl
    have h1 := w_rh
    have h2 := w_rr
    have h3 := w_rw
    have h4 := w_hr
    have h5 := w_hw
    have h7 : decide (("whole" : Str) = "reach") = false := by decide +kernel
    have h8 : decide (("reach" : Str) = "reach") = true := by decide +kernel
    have q : ∀ b h', Fr [] h h' → (b = true ↔ d = papV w ring some' ∧ number = toldV w ring some') → Q (.bl b) h' := fun b h' f e => q b h' f (e.trans ⟨fun z => ⟨z.1, by rw [z.2]⟩, fun z => ⟨z.1, by injection z.2⟩⟩)
    walk_at "m"
    cases w with
    | round =>
      unfold Way.s
      walk_at "g"
      exact ⟨ring, some', number, d, rfl, gd, th, q⟩
    | halves =>
      unfold Way.s
      walk_at "g"
      exact ⟨ring, some', number, d, rfl, gd, th, q⟩
    | reach =>
      unfold Way.s
      walk_at "g"
      exact ⟨ring, some', number, d, rfl, gd, th, q⟩
    | whole =>
      unfold Way.s
      walk_at "g"
      cases d with
      | tup ds =>
        obtain ⟨hl, _⟩ := th.2 ds rfl
        walk_at "g"
        refine ite_ (fun c => ?_) (fun c => ?_)
        · have c : ds = [] := List.eq_nil_of_length_eq_zero (by omega)
          subst c
          refine ⟨mulOkL (by omega) (by omega), ?_⟩
          refine q _ h .refl ?_
          rw [decide_eq_true_eq]
          exact ⟨fun z => ⟨rfl, z⟩, fun z => z.2⟩
        · refine q _ h .refl ?_
          simp only [Bool.false_eq_true, false_iff]
          rintro ⟨z, _⟩
          injection z with z
          rw [z] at c
          exact c rfl
      | rl _ => exact th.1.elim
      | ref a =>
        have qq := q false h .refl (by simp only [Bool.false_eq_true, false_iff]; rintro ⟨z, _⟩; cases z)
        rcases th.1 with ⟨ds, e⟩ | ⟨kv, e⟩
        · walk_at "g"
        · walk_at "g"
      | _ =>
        have qq := q false h .refl (by simp only [Bool.false_eq_true, false_iff]; rintro ⟨z, _⟩; cases z)
        walk_at "g"
  | _ =>
    have qq := q false h .refl (by simp only [Bool.false_eq_true, false_iff]; rintro ⟨_, z⟩; cases z)
    walk_at "m"
    simp only [isI]
    walk_at "g"
theorem len_law_put : ∀ ds h Q E, c_law_put ds h Q E → ds.length = 3 := by rintro ds h Q E ⟨a, b, c, rfl, _⟩; rfl
theorem len_law_nested : ∀ ds h Q E, c_law_nested ds h Q E → ds.length = 2 := by rintro ds h Q E ⟨a, b, rfl, _⟩; rfl
theorem len_law_odd : ∀ ds h Q E, c_law_odd ds h Q E → ds.length = 1 := by rintro ds h Q E ⟨a, b, rfl, _⟩; rfl
theorem len_law_kinds : ∀ ds h Q E, c_law_kinds ds h Q E → ds.length = 1 := by rintro ds h Q E ⟨a, b, rfl, _⟩; rfl
theorem len_law_inside : ∀ ds h Q E, c_law_inside ds h Q E → ds.length = 2 := by rintro ds h Q E ⟨a, b, c, d, rfl, _⟩; rfl
theorem len_law_right_here : ∀ ds h Q E, c_law_right_here ds h Q E → ds.length = 4 := by rintro ds h Q E ⟨a, b, c, d, e, rfl, _⟩; rfl
theorem len_law : ∀ ds h Q E, c_law ds h Q E → ds.length = 1 := by rintro ds h Q E ⟨a, rfl, _⟩; rfl
theorem mem_cut {x : D} {xs : List D} {lo hi : Option Int} (h : x ∈ cutD xs lo hi) : x ∈ xs := List.mem_of_mem_drop (List.mem_of_mem_take h)
theorem cut_len {xs : List D} {lo hi : Option Int} : (cutD xs lo hi).length ≤ xs.length := by
  unfold cutD
  rw [List.length_take, List.length_drop]; omega
theorem p_law_put : ∀ ds h Q E, c_law_put ds h Q E → m_law_put { nx := fun _ h' => Q .non h', rt := Q } (mstart N_law_put ds) h := by
  rintro ds h Q E ⟨xs, k, x, rfl, hk, hl, q⟩
  have e1 : cutD xs none (some (k : Int)) = xs.take k := cut_to
  have e2 : cutD xs (some ((k : Int) + 1)) none = xs.drop (k + 1) := by
    rw [show (some ((k : Int) + 1)) = some ((k + 1 : Nat) : Int) from rfl, cut_from]
  have e3 : xs.set k x = xs.take k ++ [x] ++ xs.drop (k + 1) := by
    rw [List.set_eq_take_append_cons_drop, if_pos hk, List.append_assoc]; rfl
  rw [e3] at q
  have l1 : (xs.take k).length + 1 ≤ 16777216 := by rw [List.length_take]; omega
  have l2 : (xs.take k ++ [x]).length + (xs.drop (k + 1)).length ≤ 16777216 := by rw [List.length_append, List.length_take, List.length_drop, List.length_singleton]; omega
  walk_at "n"
theorem phs_ne : ∀ (f : Nat) (row : List (Int × Int)) (M : Int), UM row M → ∀ r ∈ phs f row, 1 ≤ r.length := by
  intro f
  induction f with
  | zero => intro row M ⟨p, hp, _⟩ r hr; rw [show phs 0 row = [row] from rfl, List.mem_singleton] at hr; rw [hr]; omega
  | succ f ih =>
    intro row M u r hr
    by_cases c : row.length ≤ 1
    · rw [phs_one c, List.mem_singleton] at hr
      obtain ⟨p, hp, _⟩ := u
      rw [hr]; omega
    · rw [phs_more (by omega)] at hr
      rcases List.mem_cons.mp hr with e | e
      · rw [e]; omega
      · exact ih _ _ (um_next (by omega) u) r e
theorem rows_pap {w : Way} {ring some' : List Int} (gd : Gd w ring some') (nw : w ≠ .whole) : ∃ rs, papV w ring some' = .tup rs ∧ (∀ r ∈ rs, Rw w r) ∧ 1 ≤ rs.length ∧ rs.length ≤ 1001 := by
  have l0 := gd.sk.1
  have l1 := gd.s1
  cases w with
  | whole => exact absurd rfl nw
  | round =>
    refine ⟨_, rfl, fun r hr => ?_, by rw [List.length_map]; exact l1, by rw [List.length_map]; omega⟩
    obtain ⟨x, _, rfl⟩ := List.mem_map.mp hr
    exact ⟨(_, _), rfl⟩
  | reach =>
    refine ⟨_, rfl, fun r hr => ?_, by rw [List.length_map]; exact l1, by rw [List.length_map]; omega⟩
    obtain ⟨x, _, rfl⟩ := List.mem_map.mp hr
    exact ⟨(_, _, _), rfl⟩
  | halves =>
    obtain ⟨pb1, pb2⟩ := rows_of_phV (ring := ring) (some' := some')
    obtain ⟨M, a, b⟩ := mxI (some'.map fun x => ring.getD x.toNat 0) (by intro z; have := congrArg List.length z; rw [List.length_map, List.length_nil] at this; omega)
    have ne := phs_ne some'.length (row0 ring some') M (um_row0 (gd.rn rfl) gd.nd gd.sk a b)
    obtain ⟨rs, x, e⟩ := phV_last (gd.rn rfl) gd.nd gd.sk gd.s1
    refine ⟨_, rfl, fun r hr => ?_, by rw [List.length_map, e, List.length_append]; simp, by rw [List.length_map]; omega⟩
    obtain ⟨ps, hp, rfl⟩ := List.mem_map.mp hr
    exact ⟨ps, rfl, ne ps hp, by have := pb2 ps hp; omega⟩
theorem rw_nn {w : Way} {r : D} (h : Rw w r) : ∃ xs : List D, r = .tup xs ∧ 1 ≤ xs.length ∧ xs.length ≤ 1000 := by
  cases w with
  | round => obtain ⟨p, rfl⟩ := h; exact ⟨_, rfl, by simp, by simp⟩
  | reach => obtain ⟨p, rfl⟩ := h; exact ⟨_, rfl, by simp, by simp⟩
  | halves => obtain ⟨p, rfl, a, b⟩ := h; exact ⟨_, rfl, by rw [List.length_map]; exact a, by rw [List.length_map]; exact b⟩
  | whole => exact h.elim
theorem pu_rwD {w : Way} {r : D} (h : Rw w r) : Pu 8 r := by
  cases w with
  | round =>
    obtain ⟨p, rfl⟩ := h
    show ∀ y ∈ [D.int p.1, .int p.2], Pu 7 y
    intro y hy
    simp only [List.mem_cons, List.not_mem_nil, or_false] at hy
    rcases hy with rfl | rfl <;> exact trivial
  | reach =>
    obtain ⟨p, rfl⟩ := h
    show ∀ y ∈ [D.int p.1, .int p.2.1, .int p.2.2], Pu 7 y
    intro y hy
    simp only [List.mem_cons, List.not_mem_nil, or_false] at hy
    rcases hy with rfl | rfl | rfl <;> exact trivial
  | halves => obtain ⟨p, rfl, a, b⟩ := h; exact Pu.up (Pu.up (Pu.up (Pu.up (Pu.up (pu_rw (ps := p))))))
  | whole => exact h.elim
theorem dt_rwD {w : Way} {r : D} (h : Rw w r) : Dt 4 r := by
  cases w with
  | round =>
    obtain ⟨p, rfl⟩ := h
    refine ⟨by show 2 ≤ _; omega, fun y hy => ?_⟩
    simp only [List.mem_cons, List.not_mem_nil, or_false] at hy
    rcases hy with rfl | rfl <;> exact trivial
  | reach =>
    obtain ⟨p, rfl⟩ := h
    refine ⟨by show 3 ≤ _; omega, fun y hy => ?_⟩
    simp only [List.mem_cons, List.not_mem_nil, or_false] at hy
    rcases hy with rfl | rfl | rfl <;> exact trivial
  | halves =>
    obtain ⟨p, rfl, a, b⟩ := h
    refine ⟨by rw [List.length_map]; omega, fun y hy => ?_⟩
    obtain ⟨z, _, rfl⟩ := List.mem_map.mp hy
    refine ⟨by show 2 ≤ _; omega, fun y hy => ?_⟩
    simp only [List.mem_cons, List.not_mem_nil, or_false] at hy
    rcases hy with rfl | rfl <;> exact trivial
  | whole => exact h.elim
theorem p_law_nested : ∀ ds h Q E, c_law_nested ds h Q E → m_law_nested { nx := fun _ h' => Q .non h', rt := Q } (mstart N_law_nested ds) h := by
  rintro ds h Q E ⟨deep, b, rfl, l1, l2, q⟩
  walk_at "g"
  refine ⟨by omega, by omega, ?_⟩
  refine forW (fun k env h' => Fr [] h h' ∧ ∃ x z, env = [some (.int deep), some (.bl b), some x, z] ∧ (b = true → 1 ≤ k → ∃ p ds, x = .ref p ∧ h' p = some (.lst ds)) ∧ (b = false → x = nest k)) ⟨.refl, _, _, rfl, fun _ z => absurd z (by decide), fun _ => rfl⟩ (fun _ _ _ _ => trivial) ?_ ?_
  · rintro k env h' hk ⟨fr, x, z, rfl, e1, e2⟩
    refine ⟨_, rfl, ?_⟩
    cases b with
    | true =>
      clear e1 e2
      refine set_ ?_
      walk_at "m"
      intro p np
      generalize eX : up _ p _ = h2
      obtain ⟨ep, f2⟩ := new_facts eX np
      clear eX
      exact ⟨fr.trans f2, fun _ _ => trivial, fun z => by cases z⟩
    | false =>
      have e2 := e2 rfl
      subst e2
      clear e1
      walk_at "g"
      exact ⟨fun z => z.elim, fun _ => rfl⟩
  · rintro env h' ⟨fr, x, z, rfl, e1, e2⟩
    rw [srcR_n, Int.toNat_natCast] at e1 e2
    have := q h' x fr (fun z => e1 z l2) e2
    walk_at "g"
theorem hand_isl {h : MH} {a : Addr} {t : Nat} (x : Hand h a t) : ∃ ds, h a = some (MO.lst ds) := by
  obtain ⟨_, _, _, e, _⟩ := x
  exact ⟨_, e⟩
theorem kn0.fra {h h' : MH} {a : Addr} (f : Fr [a] h h') (l : ∃ ds, h' a = some (.lst ds)) : ∀ {d : D}, kn0 h d → kn0 h' d
  | .ref b, x => by
    by_cases c : b = a
    · subst c; exact .inl l
    · rcases x with ⟨ds, e⟩ | ⟨kv, e⟩
      · exact .inl ⟨ds, f b _ (by simpa using c) e⟩
      · exact .inr ⟨kv, f b _ (by simpa using c) e⟩
  | .rl _, x => x
  | .non, _ => trivial
  | .int _, _ => trivial
  | .bl _, _ => trivial
  | .str _, _ => trivial
  | .tup _, _ => trivial
theorem Th.fra {h h' : MH} {a : Addr} (f : Fr [a] h h') (l : ∃ ds, h' a = some (.lst ds)) : ∀ {n : Nat} {d : D}, Th h n d → Th h' n d
  | 0, _, x => kn0.fra f l x
  | n + 1, _, x => ⟨kn0.fra f l x.1, fun ds e => ⟨(x.2 ds e).1, fun y hy => Th.fra f l ((x.2 ds e).2 y hy)⟩⟩
theorem Th.nn {h : MH} {d : D} (k : kn0 h d) (n : NN d) : ∀ m, Th h m d
  | 0 => k
  | m + 1 => ⟨k, fun ds e => by rw [e] at n; exact n.elim⟩
theorem p_law_odd : ∀ ds h Q E, c_law_odd ds h Q E → m_law_odd { nx := fun _ h' => Q .non h', rt := Q } (mstart N_law_odd ds) h := by
  rintro ds h Q E ⟨a, t, rfl, hd, q⟩
  walk_at "g"
  refine ⟨a, 55, t + 1, rfl, hd, by omega, by omega, fun r h2 r0 r1 hd2 f2 => ?_⟩
  obtain ⟨k, ek⟩ : ∃ k : Nat, 1 + r = k := ⟨(1 + r).toNat, by omega⟩
  walk_at "g"
  intro p1 n1
  generalize eX : up _ p1 _ = h3
  obtain ⟨e1, f3⟩ := new_facts eX n1
  clear eX
  intro p2 n2
  generalize eX : up _ p2 _ = h4
  obtain ⟨e2, f4⟩ := new_facts eX n2
  clear eX
  intro p3 n3
  generalize eX : up _ p3 _ = h5
  obtain ⟨e3, f5⟩ := new_facts eX n3
  clear eX
  refine ⟨k, true, rfl, by omega, by omega, fun h6 x f6 ex _ => ?_⟩
  obtain ⟨p4, ds4, rfl, e4⟩ := ex rfl
  clear ex
  walk_at "g"
  intro p5 n5
  generalize eX : up _ p5 _ = h7
  obtain ⟨e5, f7⟩ := new_facts eX n5
  clear eX
  intro p6 n6
  walk_at "g"
  generalize e8 : up h7 p6 _ = h8
  obtain ⟨e6, f8⟩ := new_facts e8 n6
  clear e8
  intro p7 n7
  generalize eX : up _ p7 _ = h9
  obtain ⟨e7, f9⟩ := new_facts eX n7
  clear eX
  have fr9 : Fr [] h2 h9 := f3.trans (f4.trans (f5.trans (f6.trans (f7.trans (f8.trans f9)))))
  have e1 := (f4.trans (f5.trans (f6.trans (f7.trans (f8.trans f9))))).at0 e1
  have e2 := (f5.trans (f6.trans (f7.trans (f8.trans f9)))).at0 e2
  have e3 := (f6.trans (f7.trans (f8.trans f9))).at0 e3
  have e4 := (f7.trans (f8.trans f9)).at0 e4
  have e5 := (f8.trans f9).at0 e5
  have e6 := f9.at0 e6
  obtain ⟨L, e8, eL, B⟩ : ∃ L, h9 p7 = some (.lst L) ∧ L.length = 11 ∧ ∀ d ∈ L, kn0 h9 d ∧ NN d := by
    refine ⟨_, e7, rfl, fun d hd => ?_⟩
    simp only [List.mem_cons, List.not_mem_nil, or_false] at hd
    rcases hd with rfl | rfl | rfl | rfl | rfl | rfl | rfl | rfl | rfl | rfl | rfl
    · exact ⟨trivial, trivial⟩
    · exact ⟨trivial, trivial⟩
    · exact ⟨trivial, trivial⟩
    · exact ⟨.inl ⟨_, e1⟩, trivial⟩
    · exact ⟨.inr ⟨_, e2⟩, trivial⟩
    · exact ⟨.inr ⟨_, e3⟩, trivial⟩
    · exact ⟨trivial, trivial⟩
    · exact ⟨trivial, trivial⟩
    · exact ⟨.inl ⟨_, e4⟩, trivial⟩
    · exact ⟨.inl ⟨_, e5⟩, trivial⟩
    · exact ⟨.inr ⟨_, e6⟩, trivial⟩
  have ne7 : p7 ≠ a := fun z => (hd2.fr (f3.trans (f4.trans (f5.trans (f6.trans (f7.trans f8)))))).ne n7 z.symm
  clear e1 e2 e3 e4 e5 e6 e7
  refine ret_ ?_
  walk_at "m"
  refine ⟨a, 11, t, rfl, hd2.fr fr9, by omega, by omega, fun r2 h10 s0 s1 hd10 f10 => ?_⟩
  obtain ⟨d, d1, d2⟩ := atI_lt (ds := L) (r := r2) s0 (by rw [eL]; exact s1)
  obtain ⟨b1, b2⟩ := B d d2
  have e9 := f10 p7 _ (by simpa using ne7) e8
  have hdl := hand_isl hd10
  clear e8
  refine ⟨L, e9, d, d1, ?_⟩
  exact q h10 d (b1.fra f10 hdl) b2 hd10 (f2.trans (fun b o nb e => f10 b o nb (fr9 b o (by simp) e)))
theorem set_ne {xs : List D} {k : Nat} {y : D} (hk : k < xs.length) (n : y ≠ xs[k]) : D.tup (xs.set k y) ≠ .tup xs := by
  intro e
  injection e with e
  refine n ?_
  have : (xs.set k y)[k]'(by rw [List.length_set]; exact hk) = y := List.getElem_set_self ..
  rw [← this]
  congr 1
theorem tup_ne {xs : List D} : D.tup [.tup xs] ≠ .tup xs := by
  intro e
  injection e with e
  have := congrArg sizeOf e
  simp only [List.cons.sizeOf_spec, D.tup.sizeOf_spec, List.nil.sizeOf_spec] at this
  omega
theorem th_tup {h : MH} {n : Nat} {xs : List D} (l : xs.length ≤ 100000) (k : ∀ x ∈ xs, Th h n x) : Th h (n + 1) (.tup xs) := ⟨trivial, fun ds e => by injection e with e; subst e; exact ⟨l, k⟩⟩
theorem th_set {h : MH} {n k : Nat} {xs : List D} {y : D} (l : xs.length ≤ 100000) (kk : ∀ x ∈ xs, Th h n x) (ky : Th h n y) : Th h (n + 1) (.tup (xs.set k y)) :=
  th_tup (by rw [List.length_set]; exact l) fun x hx => (List.mem_or_eq_of_mem_set hx).elim (kk x) fun e => e ▸ ky
theorem p_law_kinds : ∀ ds h Q E, c_law_kinds ds h Q E → m_law_kinds { nx := fun _ h' => Q .non h', rt := Q } (mstart N_law_kinds ds) h := by
  rintro ds h Q E ⟨w, rs, rfl, hr, lr, q⟩
  have hth : ∀ {h' : MH} {m : Nat}, ∀ r ∈ rs, Th h' m r := fun r m => Th.ofDt (dt_rwD (hr r m))
  have hpu : Pu 9 (.tup rs) := fun x hx => pu_rwD (hr x hx)
  have tne := tup_ne (xs := rs)
  walk_at "g"
  intro p1 n1
  generalize eX : up _ p1 _ = h2
  obtain ⟨e1, f2⟩ := new_facts eX n1
  clear eX
  have hn : (srcD rs fun _ => True).n = rs.length := rfl
  refine lcS [] (fun _ _ _ => True) (by simp) (fun _ _ _ _ _ _ i => i) trivial (fun _ _ => trivial) (by rw [hn]; omega) ?_ ?_
  · rintro k acc h3 hk f3 _ _
    rw [hn] at hk
    obtain ⟨xs, exs, _, _⟩ := rw_nn (hr _ (List.getElem_mem hk))
    refine ⟨_, rfl, fun R _ r1 => ?_⟩
    rw [srcD_item, getD_el hk, exs]
    clear exs
    walk_at "g"
    intro p2 n2
    generalize eX : up _ p2 _ = h4
    obtain ⟨e2, f4⟩ := new_facts eX n2
    clear eX
    exact r1 _ h4 f4 trivial
  rintro p2 h3 acc f3 n2 e2 _
  have e1 := f3.at0 e1
  walk_at "g"
  intro p3 n3
  generalize eX : up _ p3 _ = h4
  obtain ⟨e3, f4⟩ := new_facts eX n3
  clear eX
  intro p4 n4
  generalize eX : up _ p4 _ = h5
  obtain ⟨e4, f5⟩ := new_facts eX n4
  clear eX
  have e1 := (f4.trans f5).at0 e1
  have e2 := (f4.trans f5).at0 e2
  have e3 := f5.at0 e3
  obtain ⟨L, e5, lL, B⟩ : ∃ L, h5 p4 = some (.lst L) ∧ L.length = 4 ∧ ∀ x ∈ L, Th h5 3 x ∧ x ≠ .tup rs := by
    refine ⟨_, e4, rfl, fun x hx => ?_⟩
    simp only [List.mem_cons, List.not_mem_nil, or_false] at hx
    rcases hx with rfl | rfl | rfl | rfl
    · exact ⟨Th.nn (h := h5) (d := .ref p1) (Or.inl ⟨_, e1⟩) trivial 3, fun z => by cases z⟩
    · exact ⟨Th.nn (h := h5) (d := .ref p2) (Or.inl ⟨_, e2⟩) trivial 3, fun z => by cases z⟩
    · exact ⟨th_tup (by simp) fun x hx => by rw [List.mem_singleton.mp hx]; exact th_tup (by omega) fun x hx => hth x hx, tne⟩
    · exact ⟨Th.nn (h := h5) (d := .ref p3) (Or.inl ⟨_, e3⟩) trivial 3, fun z => by cases z⟩
  have n4' : h p4 = none := f2.free (f3.free (f4.free n4))
  have fr5 : Fr [] h h5 := f2.trans (f3.trans (f4.trans f5))
  clear e1 e2 e3 e4
  have pn : Pu 9 (.tup []) := fun y hy => nomatch hy
  walk_at "n"
  refine neD_pu hpu pn fun b eb => ?_
  refine ⟨b, rfl, ?_⟩
  cases b with
  | false =>
    clear eb
    have := q p4 h5 L fr5 n4' e5 (by omega) B
    walk_at "g"
  | true =>
    have hne : rs ≠ [] := fun z => eb.mp rfl (by rw [z])
    clear eb
    cases rs with
    | nil => exact absurd rfl hne
    | cons row rest =>
    have hrow := hr row (List.mem_cons_self ..)
    obtain ⟨xs, rfl, x1, x2⟩ := rw_nn hrow
    have rne := tup_ne (xs := xs)
    walk_at "g"
    intro p5 n5
    generalize eX : up _ p5 _ = h6
    obtain ⟨e6, f6⟩ := new_facts eX n5
    clear eX
    refine ⟨_, 0, _, rfl, by simp, by omega, ?_⟩
    refine ⟨_, 0, _, rfl, by simp, by omega, ?_⟩
    rw [List.set_cons_zero, List.set_cons_zero]
    intro p6 n6
    generalize eX : up _ p6 _ = h7
    obtain ⟨e7, f7⟩ := new_facts eX n6
    clear eX
    have e5 := (f6.trans f7).at0 e5
    have e6 := f7.at0 e6
    have lr' : rest.length ≤ 1000 := by rw [List.length_cons] at lr; omega
    have hx : ∀ {h' : MH} {m : Nat}, ∀ x ∈ xs, Th h' m x := fun {h' m} x hx => (hth (h' := h') (m := m + 1) _ (List.mem_cons_self ..)).2 _ rfl |>.2 x hx
    have hrest : ∀ {h' : MH} {m : Nat}, ∀ x ∈ rest, Th h' m x := fun x m => hth x (List.mem_cons_of_mem _ m)
    have tc : ∀ {h' : MH} {y : D}, Th h' 2 y → Th h' 3 (.tup (y :: rest)) := fun {h' y} ty => th_tup (by rw [List.length_cons]; omega) fun x hx => (List.mem_cons.mp hx).elim (fun e => e ▸ ty) (hrest x)
    have nc : ∀ {y : D}, y ≠ .tup xs → D.tup (y :: rest) ≠ .tup (.tup xs :: rest) := fun n z => by injection z with z; injection z with z _; exact n z
    refine ⟨L, e5, by omega, ?_⟩
    intro p8 n8
    generalize eX : up _ p8 _ = h8
    obtain ⟨e8, f8⟩ := new_facts eX n8
    clear eX
    have n8' : h p8 = none := fr5.free (f6.free (f7.free n8))
    have G8 : Fr [] h h8 ∧ ∀ x ∈ L ++ [D.tup (.ref p5 :: rest), D.tup (.tup [.tup xs] :: rest)], Th h8 3 x ∧ x ≠ .tup (.tup xs :: rest) := by
      refine ⟨fr5.trans (f6.trans (f7.trans f8)), fun x hx => ?_⟩
      rcases List.mem_append.mp hx with e | e
      · exact ⟨(B x e).1.fr (f6.trans (f7.trans f8)), (B x e).2⟩
      · simp only [List.mem_cons, List.not_mem_nil, or_false] at e
        rcases e with rfl | rfl
        · exact ⟨tc (Th.nn (h := h8) (d := .ref p5) (Or.inl ⟨_, f8.at0 e6⟩) trivial 2), nc fun z => by cases z⟩
        · refine ⟨tc (th_tup (n := 1) (by simp) fun x hx => ?_), nc rne⟩
          rw [List.mem_singleton.mp hx]
          exact (hth (h' := h8) (m := 1) _ (List.mem_cons_self ..))
    have app : ∀ h8 L8 z, (Fr [] h h8 ∧ ∀ x ∈ L8, Th h8 3 x ∧ x ≠ .tup (.tup xs :: rest)) → (∀ h', Th h' 2 z) → z ≠ .tup xs → (Fr [] h (up h8 p8 (.lst (L8 ++ [.tup (z :: rest)]))) ∧ ∀ x ∈ L8 ++ [D.tup (z :: rest)], Th (up h8 p8 (.lst (L8 ++ [.tup (z :: rest)]))) 3 x ∧ x ≠ .tup (.tup xs :: rest)) := fun h8 L8 z g tz nz => by
      refine ⟨Fr.over n8' g.1, fun x hx => ?_⟩
      rcases List.mem_append.mp hx with e | e
      · exact ⟨Th.fra (Fr.put (List.mem_singleton.mpr rfl)) ⟨_, up_same⟩ (g.2 x e).1, (g.2 x e).2⟩
      · rw [List.mem_singleton.mp e]
        exact ⟨tc (tz _), nc nz⟩
    have q8 : ∀ h8 L8, (Fr [] h h8 ∧ ∀ x ∈ L8, Th h8 3 x ∧ x ≠ .tup (.tup xs :: rest)) → h8 p8 = some (.lst L8) → L8.length ≤ 20 → Q (.ref p8) h8 := fun h8 L8 g e l => q p8 h8 L8 g.1 n8' e l g.2
    clear q B tc nc e5 e6 e7
    have l8 : (L ++ [D.tup (.ref p5 :: rest), D.tup (.tup [.tup xs] :: rest)]).length = 6 := by rw [List.length_append, lL]; rfl
    generalize L ++ [D.tup (.ref p5 :: rest), D.tup (.tup [.tup xs] :: rest)] = L8 at e8 G8 l8
    cases w with
    | whole => exact hrow.elim
    | halves =>
      obtain ⟨ps, ep, p1, p2⟩ := hrow
      injection ep with ep
      subst ep
      have e0 : atI (ps.map prD) 0 = some (prD (ps.getD 0 (0, 0))) := by
        match ps, p1 with
        | p :: ps, _ => exact at0
      have := q8 _ _ G8 e8 (by omega)
      clear app q8 G8 hx hrest
      walk_at "g"
    | round =>
      obtain ⟨⟨a, b⟩, ep⟩ := hrow
      injection ep with ep
      subst ep
      have ea : atI [D.int a, D.int b] (-1) = some (.int b) := rfl
      have ec1 : cutD [D.int a, D.int b] (some 1) none = [.int b] := rfl
      have ec2 : cutD [D.int a, D.int b] none (some (-1)) = [.int a] := rfl
      have t1 : ∀ h', Th h' 2 (.tup [.bl (decide (a = 1)), .int b]) := fun h' => th_tup (by simp) fun x hx => by
        simp only [List.mem_cons, List.not_mem_nil, or_false] at hx
        rcases hx with rfl | rfl
        · exact ⟨trivial, fun ds e => nomatch e⟩
        · exact ⟨trivial, fun ds e => nomatch e⟩
      have t2 : ∀ h', Th h' 2 (.tup [.int a, .bl true]) := fun h' => th_tup (by simp) fun x hx => by
        simp only [List.mem_cons, List.not_mem_nil, or_false] at hx
        rcases hx with rfl | rfl
        · exact ⟨trivial, fun ds e => nomatch e⟩
        · exact ⟨trivial, fun ds e => nomatch e⟩
      have g1 := app _ _ _ G8 t1 (fun z => by simp at z)
      have g2 := app _ _ _ G8 t2 (fun z => by simp at z)
      have g3 := app _ _ _ g1 t2 (fun z => by simp at z)
      have q1 := q8 _ _ G8 e8 (by omega)
      have q2 := q8 _ _ g1 up_same (by rw [List.length_append, l8]; simp)
      have q3 := q8 _ _ g2 up_same (by rw [List.length_append, l8]; simp)
      have q4 := q8 _ _ g3 up_same (by rw [List.length_append, List.length_append, l8]; simp)
      rw [up_up] at q4
      clear app q8 G8 g1 g2 g3 hx hrest t1 t2
      walk_at "g"
      refine ⟨rfl, ?_⟩
      cases ci : inF (D.int a) [.int 0, .int 1] with
      | false =>
        cases cb : decide (b = 1) with
        | false => walk_at "g"
        | true =>
          walk_at "g"
          refine ⟨_, 0, _, rfl, by simp, by rw [List.length_cons]; omega, ?_⟩
          rw [List.set_cons_zero]
          walk_at "g"
      | true =>
        walk_at "g"
        refine ⟨_, 0, _, rfl, by simp, by rw [List.length_cons]; omega, ?_⟩
        rw [List.set_cons_zero]
        cases cb : decide (b = 1) with
        | false =>
          walk_at "g"
        | true =>
          walk_at "g"
          refine ⟨_, 0, _, rfl, by simp, by rw [List.length_cons]; omega, ?_⟩
          rw [List.set_cons_zero]
          walk_at "g"
          refine ⟨by rw [List.length_append, l8]; simp, ?_⟩
          walk_at "g"
    | reach =>
      obtain ⟨⟨a, c, b⟩, ep⟩ := hrow
      injection ep with ep
      subst ep
      have ea : atI [D.int a, D.int c, D.int b] (-1) = some (.int b) := rfl
      have ec1 : cutD [D.int a, D.int c, D.int b] (some 1) none = [.int c, .int b] := rfl
      have ec2 : cutD [D.int a, D.int c, D.int b] none (some (-1)) = [.int a, .int c] := rfl
      have t1 : ∀ h', Th h' 2 (.tup [.bl (decide (a = 1)), .int c, .int b]) := fun h' => th_tup (by simp) fun x hx => by
        simp only [List.mem_cons, List.not_mem_nil, or_false] at hx
        rcases hx with rfl | rfl | rfl
        · exact ⟨trivial, fun ds e => nomatch e⟩
        · exact ⟨trivial, fun ds e => nomatch e⟩
        · exact ⟨trivial, fun ds e => nomatch e⟩
      have t2 : ∀ h', Th h' 2 (.tup [.int a, .int c, .bl true]) := fun h' => th_tup (by simp) fun x hx => by
        simp only [List.mem_cons, List.not_mem_nil, or_false] at hx
        rcases hx with rfl | rfl | rfl
        · exact ⟨trivial, fun ds e => nomatch e⟩
        · exact ⟨trivial, fun ds e => nomatch e⟩
        · exact ⟨trivial, fun ds e => nomatch e⟩
      have g1 := app _ _ _ G8 t1 (fun z => by simp at z)
      have g2 := app _ _ _ G8 t2 (fun z => by simp at z)
      have g3 := app _ _ _ g1 t2 (fun z => by simp at z)
      have q1 := q8 _ _ G8 e8 (by omega)
      have q2 := q8 _ _ g1 up_same (by rw [List.length_append, l8]; simp)
      have q3 := q8 _ _ g2 up_same (by rw [List.length_append, l8]; simp)
      have q4 := q8 _ _ g3 up_same (by rw [List.length_append, List.length_append, l8]; simp)
      rw [up_up] at q4
      clear app q8 G8 g1 g2 g3 hx hrest t1 t2
      walk_at "g"
      refine ⟨rfl, ?_⟩
      cases ci : inF (D.int a) [.int 0, .int 1] with
      | false =>
        cases cb : decide (b = 1) with
        | false => walk_at "g"
        | true =>
          walk_at "g"
          refine ⟨_, 0, _, rfl, by simp, by rw [List.length_cons]; omega, ?_⟩
          rw [List.set_cons_zero]
          walk_at "g"
      | true =>
        walk_at "g"
        refine ⟨_, 0, _, rfl, by simp, by rw [List.length_cons]; omega, ?_⟩
        rw [List.set_cons_zero]
        cases cb : decide (b = 1) with
        | false =>
          walk_at "g"
        | true =>
          walk_at "g"
          refine ⟨_, 0, _, rfl, by simp, by rw [List.length_cons]; omega, ?_⟩
          rw [List.set_cons_zero]
          walk_at "g"
          refine ⟨by rw [List.length_append, l8]; simp, ?_⟩
          walk_at "g"
theorem p_law_inside : ∀ ds h Q E, c_law_inside ds h Q E → m_law_inside { nx := fun _ h' => Q .non h', rt := Q } (mstart N_law_inside ds) h := by
  rintro ds h Q E ⟨a, t, w, rs, rfl, hr, l1, l2, hd, q⟩
  have hth : ∀ {h' : MH} {m : Nat}, ∀ r ∈ rs, Th h' m r := fun r m => Th.ofDt (dt_rwD (hr r m))
  walk_at "g"
  refine ⟨a, _, t + 9, rfl, hd, by omega, by omega, fun r h2 r0 r1 hd2 f2 => ?_⟩
  obtain ⟨k, rfl⟩ : ∃ k : Nat, r = k := ⟨r.toNat, by omega⟩
  have hk : k < rs.length := by omega
  have ea : atI rs (k : Int) = some rs[k] := atI_nat (List.getElem?_eq_getElem hk)
  have hrk := hr _ (List.getElem_mem hk)
  have tset : ∀ {h' : MH} {y : D}, Th h' 2 y → Th h' 3 (.tup (rs.set k y)) := fun {h' y} ty => th_set (by omega) hth ty
  have nset : ∀ {y : D}, y ≠ rs[k] → D.tup (rs.set k y) ≠ .tup rs := fun n => set_ne hk n
  generalize rs[k] = row at ea hrk nset
  obtain ⟨xs, rfl, x1, x2⟩ := rw_nn hrk
  walk_at "g"
  refine ⟨a, 3, t + 8, rfl, hd2, by omega, by omega, fun r3 h3 s0 s1 hd3 f3 => ?_⟩
  walk_at "m"
  refine ite_ (fun c => ?_) (fun c => ?_)
  · walk_at "g"
    refine ⟨a, t, rfl, hd3.less (by omega), fun h4 y k4 n4 hd4 f4 => ?_⟩
    refine ⟨rs, k, y, rfl, hk, by omega, ?_⟩
    exact q h4 _ (tset (Th.nn k4 n4 2)) (nset fun z => by rw [z] at n4; exact n4.elim) hd4 (f2.trans (f3.trans f4))
  · walk_at "g"
    refine ⟨a, _, t + 7, rfl, hd3, by omega, by omega, fun r4 h4 u0 u1 hd4 f4 => ?_⟩
    obtain ⟨j, rfl⟩ : ∃ j : Nat, r4 = j := ⟨r4.toNat, by omega⟩
    have hj : j < xs.length := by omega
    have ej : atI xs (j : Int) = some xs[j] := atI_nat (List.getElem?_eq_getElem hj)
    have hx : ∀ {h' : MH} {m : Nat}, ∀ x ∈ xs, Th h' m x := fun {h' m} x hx => (Th.ofDt (m := m + 1) (h := h') (dt_rwD hrk)).2 _ rfl |>.2 x hx
    have xset : ∀ {h' : MH} {y : D}, Th h' 1 y → Th h' 2 (.tup (xs.set j y)) := fun {h' y} ty => th_set (by omega) hx ty
    have mset : ∀ {y : D}, y ≠ xs[j] → D.tup (xs.set j y) ≠ .tup xs := fun n => set_ne hj n
    have one : ∀ h5 D', Hand h5 a (t + 6) → Fr [a] h h5 → (∀ y, y ≠ xs[j] → kn0 h5 y) → True := fun _ _ _ _ _ => trivial
    have fr4 := f2.trans (f3.trans f4)
    have done1 : ∀ h5 (hd5 : Hand h5 a (t + 2)) (f5 : Fr [a] h h5) (nn : ¬ NN xs[j]), (mRet (mCall c_law_put noE (mCons (mVar 1) (mCons (mVar 2) (mCons (mCall c_law_put noE (mCons (mVar 3) (mCons (mVar 4) (mCons (mCall c_law_odd noE (mCons (mVar 0) mNil)) mNil)))) mNil))))) { nx := fun x h' => Q D.non h', rt := Q } [some (.ref a), some (.tup rs), some (.int k), some (.tup xs), some (.int j), none] h5 := fun h5 hd5 f5 nn => by
      clear one
      walk_at "n"
      refine ⟨a, t, rfl, hd5, fun h6 y k6 n6 hd6 f6 => ?_⟩
      refine ⟨xs, j, y, rfl, hj, by omega, ?_⟩
      refine ⟨rs, k, _, rfl, hk, by omega, ?_⟩
      exact q h6 _ (tset (xset (Th.nn k6 n6 1))) (nset (mset fun z => nn (z ▸ n6))) hd6 (f5.trans f6)
    clear one
    cases w with
    | whole => exact hrk.elim
    | round =>
      obtain ⟨⟨p, p'⟩, ep⟩ := hrk
      injection ep with ep
      have hall : ∀ x ∈ xs, ∃ v : Int, x = .int v := by
        rw [ep]
        intro x this
        simp only [List.mem_cons, List.not_mem_nil, or_false] at this
        rcases this with e | e <;> exact ⟨_, e⟩
      obtain ⟨v, ev⟩ := hall _ (List.getElem_mem hj)
      rw [ev] at ej done1
      clear ep
      refine seq_ (if_ ?_)
      walk_at "m"
      exact done1 h4 (hd4.less (by omega)) fr4 id
    | reach =>
      obtain ⟨⟨p, p', p''⟩, ep⟩ := hrk
      injection ep with ep
      have hall : ∀ x ∈ xs, ∃ v : Int, x = .int v := by
        rw [ep]
        intro x this
        simp only [List.mem_cons, List.not_mem_nil, or_false] at this
        rcases this with e | e | e <;> exact ⟨_, e⟩
      obtain ⟨v, ev⟩ := hall _ (List.getElem_mem hj)
      rw [ev] at ej done1
      clear ep
      refine seq_ (if_ ?_)
      walk_at "m"
      exact done1 h4 (hd4.less (by omega)) fr4 id
    | halves =>
      obtain ⟨ps, ep, p1, p2⟩ := hrk
      injection ep with ep
      obtain ⟨pj, ev⟩ : ∃ p : Int × Int, xs[j] = prD p := by
        have := List.getElem_mem hj
        simp only [ep] at this ⊢
        obtain ⟨z, _, e⟩ := List.mem_map.mp this
        exact ⟨z, e.symm⟩
      rw [ev] at ej done1 mset
      clear ep
      refine seq_ (if_ ?_)
      walk_at "m"
      refine ⟨a, 2, t + 6, rfl, hd4, by omega, by omega, fun r5 h5 v0 v1 hd5 f5 => ?_⟩
      walk_at "m"
      refine ite_ (fun c5 => ?_) (fun c5 => ?_)
      · exact done1 h5 (hd5.less (by omega)) (fr4.trans f5) id
      · clear done1
        walk_at "g"
        refine ⟨a, 2, t + 5, rfl, hd5, by omega, by omega, fun r6 h6 v2 v3 hd6 f6 => ?_⟩
        obtain ⟨i, rfl⟩ : ∃ i : Nat, r6 = i := ⟨r6.toNat, by omega⟩
        have hi : i < 2 := by omega
        refine ⟨a, t, rfl, hd6.less (by omega), fun h7 y k7 n7 hd7 f7 => ?_⟩
        refine ⟨[D.int pj.1, .int pj.2], i, y, rfl, hi, by simp, ?_⟩
        walk_at "g"
        refine ⟨xs, j, _, rfl, hj, by omega, ?_⟩
        refine ⟨rs, k, _, rfl, hk, by omega, ?_⟩
        have ny : y ≠ [D.int pj.1, .int pj.2][i]'hi := fun z => by
          rw [z] at n7
          match i, hi with
          | 0, _ => exact n7.elim
          | 1, _ => exact n7.elim
        exact q h7 _ (tset (xset (th_set (n := 0) (by simp) (fun x hx => by
          simp only [List.mem_cons, List.not_mem_nil, or_false] at hx
          rcases hx with rfl | rfl <;> exact trivial) k7))) (nset (mset (set_ne hi ny))) hd7 (fr4.trans (f5.trans (f6.trans f7)))
theorem sum_bd {f : Int → Int} {B : Int} (hB : 0 ≤ B) : ∀ {xs : List Int}, (∀ x ∈ xs, 0 ≤ f x ∧ f x ≤ B) → 0 ≤ (xs.map f).sum ∧ (xs.map f).sum ≤ B * xs.length
  | [], _ => by simp
  | x :: xs, h => by
    have a := h x (List.mem_cons_self ..)
    have b := sum_bd hB fun y hy => h y (List.mem_cons_of_mem _ hy)
    rw [List.map_cons, List.sum_cons, List.length_cons]
    have : B * ((xs.length + 1 : Nat) : Int) = B * xs.length + B := by rw [Int.natCast_add, Int.mul_add]; simp
    omega
theorem reS_bd {r s : Int} (h0 : 0 ≤ r) (h1 : 0 ≤ s) : 0 ≤ reS r s ∧ reS r s ≤ 2 * r := by
  unfold reS
  split <;> omega
theorem reV_bd {l r : Int} (hl : 0 ≤ l) (hr : 0 ≤ r) : ∀ f k, 0 ≤ reV l r f k ∧ reV l r f k ≤ 4 * 2 ^ (k + f) - 4 * 2 ^ k
  | 0, k => by
    rw [show reV l r 0 k = 0 from rfl, Nat.add_zero]; omega
  | f + 1, k => by
    have ih := reV_bd hl hr f (k + 1)
    have p0 : (0 : Int) ≤ 2 ^ k := Int.pow_nonneg (by decide)
    have a := reS_bd (r := 2 ^ k) (s := l) p0 hl
    have b := reS_bd (r := 2 ^ k) (s := r) p0 hr
    have e1 : (2 : Int) ^ (k + 1) = 2 * 2 ^ k := by rw [Int.pow_succ, Int.mul_comm]
    have e2 : k + 1 + f = k + (f + 1) := by omega
    rw [e1, e2] at ih
    unfold reV
    split <;> omega
theorem told_bd {w : Way} {ring some' : List Int} (gd : Gd w ring some') : 0 ≤ toldV w ring some' ∧ toldV w ring some' ≤ 1000000000 := by
  have l0 := gd.sk.1
  have l64 := gd.l64
  have r1 := gd.rk.1
  have sb := stb (some' := some') gd.rk gd.l64
  cases w with
  | round =>
    have := sum_bd (f := fun x => (stV ring some' x 1 : Int)) (B := 64) (by decide) (xs := some') fun x _ => ⟨by omega, sb x 1⟩
    show 0 ≤ rlV ring some' ∧ rlV ring some' ≤ _
    unfold rlV
    omega
  | halves =>
    obtain ⟨pb1, _⟩ := rows_of_phV (ring := ring) (some' := some')
    show 0 ≤ 2 * (ring.length : Int) * (phV ring some').length ∧ 2 * (ring.length : Int) * (phV ring some').length ≤ _
    have a : 0 ≤ 2 * (ring.length : Int) * (phV ring some').length := Int.mul_nonneg (by omega) (by omega)
    have b : 2 * (ring.length : Int) * (phV ring some').length ≤ 128 * 1001 := Int.mul_le_mul (by omega) (by omega) (by omega) (by omega)
    omega
  | reach =>
    have := sum_bd (f := reT ring some') (B := 508) (by decide) (xs := some') fun x _ => by
      have := reV_bd (l := stV ring some' x (-1)) (r := stV ring some' x 1) (by omega) (by omega) 7 0
      unfold reT
      omega
    show 0 ≤ trV ring some' ∧ trV ring some' ≤ _
    unfold trV
    omega
  | whole =>
    show 0 ≤ (ring.length : Int) * (ring.length - 1) ∧ (ring.length : Int) * (ring.length - 1) ≤ _
    have a : 0 ≤ (ring.length : Int) * ((ring.length : Int) - 1) := Int.mul_nonneg (by omega) (by omega)
    have b : (ring.length : Int) * ((ring.length : Int) - 1) ≤ 64 * 64 := Int.mul_le_mul (by omega) (by omega) (by omega) (by omega)
    omega
theorem th_nest {h : MH} : ∀ (k m : Nat), Th h m (nest k)
  | 0, 0 => trivial
  | 0, m + 1 => ⟨trivial, fun ds e => nomatch e⟩
  | k + 1, 0 => trivial
  | k + 1, m + 1 => th_tup (by simp) fun x hx => by rw [List.mem_singleton.mp hx]; exact th_nest k m
theorem nest_pr {k : Nat} {p : Int × Int} : nest k ≠ prD p := by
  intro e
  cases k with
  | zero => cases e
  | succ k => injection e with e; simp at e
theorem nest_ne {w : Way} {rs : List D} (hr : ∀ r ∈ rs, Rw w r) (k : Nat) : nest (k + 1) ≠ .tup rs := by
  intro e
  injection e with e
  have h1 := hr (nest k) (by rw [← e]; exact List.mem_singleton.mpr rfl)
  cases w with
  | whole => exact h1.elim
  | round => obtain ⟨p, ep⟩ := h1; exact nest_pr ep
  | reach =>
    obtain ⟨p, ep⟩ := h1
    cases k with
    | zero => cases ep
    | succ k => injection ep with ep; simp at ep
  | halves =>
    obtain ⟨ps, ep, p1, p2⟩ := h1
    cases k with
    | zero => cases ep
    | succ k =>
      injection ep with ep
      match ps, p1, ep with
      | p :: ps, _, ep =>
        rw [List.map_cons] at ep
        injection ep with ep _
        exact nest_pr ep
theorem pap_rows {w : Way} {ring some' : List Int} (gd : Gd w ring some') : ∃ rs, papV w ring some' = .tup rs ∧ (∀ r ∈ rs, Rw w r) ∧ rs.length ≤ 1001 := by
  by_cases c : w = .whole
  · subst c
    refine ⟨[], rfl, ?_, Nat.zero_le _⟩
    intro r hr
    cases hr
  · obtain ⟨rs, a, b, _, d⟩ := rows_pap gd c
    exact ⟨rs, a, b, d⟩
theorem p_law_right_here : ∀ ds h Q E, c_law_right_here ds h Q E → m_law_right_here { nx := fun _ h' => Q .non h', rt := Q } (mstart N_law_right_here ds) h := by
  rintro ds h Q E ⟨a, t, w, ring, some', rfl, gd, hd, q⟩
  have l0 := gd.sk.1
  obtain ⟨nb, enb⟩ : ∃ nb : Int, toldV w ring some' = nb := ⟨_, rfl⟩
  have nbd := told_bd gd
  rw [enb] at nbd
  obtain ⟨rs, ers, hrs, lrs⟩ := pap_rows gd
  have ks : ∀ {h : MH}, Th h 3 (.tup rs) := fun {h} => by rw [← ers]; exact Th.ofDt (dt_pap gd.sk.1)
  have hpu : Pu 9 (.tup rs) := fun x hx => pu_rwD (hrs x hx)
  walk_at "n"
  refine ⟨w, ring, some', rfl, gd.rk, gd.l64, gd.sk, fun h2 f2 => ?_⟩
  walk_at "g"
  refine ⟨w, ring, some', rfl, gd.rk, gd.sk, fun h3 f3 => ?_⟩
  walk_at "g"
  refine ⟨w, rs, rfl, hrs, lrs, fun p1 h4 L f4 n1 e1 lL B => ?_⟩
  have hd4 := hd.fr (f2.trans (f3.trans f4))
  have np1 : p1 ≠ a := fun z => (hd.fr (f2.trans f3)).ne n1 z.symm
  refine ⟨a, t + 78, rfl, hd4.less (by omega), fun h5 y k5 n5 hd5 f5 => ?_⟩
  walk_at "g"
  refine ⟨a, 55, t + 77, rfl, hd5.less (by omega), by omega, by omega, fun r h6 r0 r1 hd6 f6 => ?_⟩
  obtain ⟨k, ek⟩ : ∃ k : Nat, 1 + r = ((k + 1 : Nat) : Int) := ⟨r.toNat, by omega⟩
  walk_at "m"
  refine ⟨k + 1, false, rfl, by omega, by omega, fun h7 x f7 _ ex => ?_⟩
  have ex := ex rfl
  subst ex
  clear ek
  have e1 := f7.at0 (f6 p1 _ (by simpa using np1) (f5 p1 _ (by simpa using np1) e1))
  have fr7 : Fr [a] h4 h7 := f5.trans (f6.trans (f7.mono (by simp)))
  have fra7 : Fr [a] h h7 := ((f2.trans (f3.trans f4)).mono (by simp)).trans fr7
  have hd7 := hd6.fr f7
  walk_at "g"
  intro p2 n2
  generalize eX : up _ p2 _ = h8
  obtain ⟨e2, f8⟩ := new_facts eX n2
  clear eX
  have e1 := f8.at0 e1
  refine ⟨L, e1, by omega, ?_⟩
  intro p3 n3
  generalize eX : up _ p3 _ = h9
  obtain ⟨e3, f9⟩ := new_facts eX n3
  clear eX
  have np3 : p3 ≠ a := fun z => (hd7.fr f8).ne n3 z.symm
  have n3' : h p3 = none := fr_free fra7 (f8.free n3) np3
  have f89 := f8.trans f9
  have hd9 := hd7.fr f89
  have B9 : ∀ x ∈ L ++ [y, nest (k + 1)], Th h9 3 x ∧ x ≠ .tup rs := fun x hx => by
    rcases List.mem_append.mp hx with e | e
    · exact ⟨((B x e).1.fra fr7 (hand_isl hd7)).fr f89, (B x e).2⟩
    · simp only [List.mem_cons, List.not_mem_nil, or_false] at e
      rcases e with rfl | rfl
      · exact ⟨(((Th.nn k5 n5 3).fra f6 (hand_isl hd6)).fr f7).fr f89, fun z => by rw [z] at n5; exact n5.elim⟩
      · exact ⟨th_nest _ _, nest_ne hrs k⟩
  have l9 : (L ++ [y, nest (k + 1)]).length ≤ 22 := by rw [List.length_append]; show L.length + 2 ≤ 22; omega
  generalize L ++ [y, nest (k + 1)] = L9 at e3 B9 l9
  have fr9 : Fr [a] h h9 := fra7.trans (f89.mono (by simp))
  have hd9 := hd9.less (show t + 50 ≤ t + 77 by omega)
  clear e1 e2 B n5 k5 hd4 hd5 hd6 hd7 n1 n2 n3
  have pn : Pu 9 (.tup []) := fun y hy => nomatch hy
  have rest : ∀ h10 L10 x7, Hand h10 a (t + 2) → Fr [a] h h10 → h10 p3 = some (.lst L10) → (∀ x ∈ L10, Th h10 3 x ∧ x ≠ .tup rs) → L10.length ≤ 50 → mSeq (mFor (mIter (mVar 6)) (.nm 8) (mIf (mTest (mOp (rIs true) (mCall c_shows_sum noE (mCons (mVar 1) (mCons (mVar 2) (mCons (mVar 3) (mCons (mVar 4) (mCons (mVar 8) mNil)))))) (mC (.bl false)))) (mRet (mC (.bl false))) mNext)) (mSeq (mFor (mIter (mTup (mCons (mC .non) (mCons (mCa rStrI (mCons (mVar 4) mNil)) (mCons (mTup (mCons (mVar 4) mNil)) (mCons (mLst (mCons (mVar 4) mNil)) (mCons (mCall c_law_odd noE (mCons (mVar 0) mNil)) (mCons (mOp rEq (mVar 4) (mC (.int 0))) mNil)))))))) (.nm 8) (mIf (mTest (mOp (rIs true) (mCall c_shows_sum noE (mCons (mVar 1) (mCons (mVar 2) (mCons (mVar 3) (mCons (mVar 8) (mCons (mVar 5) mNil)))))) (mC (.bl false)))) (mRet (mC (.bl false))) mNext)) (mRet (mOp (rIs false) (mCall c_shows_sum noE (mCons (mVar 1) (mCons (mVar 2) (mCons (mVar 3) (mCons (mVar 4) (mCons (mVar 5) mNil)))))) (mC (.bl true))))) { nx := fun _ h' => Q .non h', rt := Q } [some (.ref a), some (.str w.s), some (tI ring), some (tI some'), some (.int nb), some (.tup rs), some (.ref p3), x7, none] h10 := by
    intro h10 L10 x7 hd10 fr10 e10 B10 l10
    refine seq_ ?_
    walk_at "n"
    refine forW (fun j env h' => Fr [] h10 h' ∧ ∃ x8, env = [some (.ref a), some (.str w.s), some (tI ring), some (tI some'), some (.int nb), some (.tup rs), some (.ref p3), x7, x8]) ⟨.refl, _, rfl⟩ (fun j env h' k => k.1.at0 e10) ?_ ?_
    · rintro j env h11 hj ⟨f11, x8, rfl⟩
      have hj : j < L10.length := by rw [srcD_n] at hj; exact hj
      obtain ⟨b1, b2⟩ := B10 _ (List.getElem_mem hj)
      rw [srcD_item, getD_el hj]
      generalize L10[j] = bad at b1 b2
      refine ⟨_, rfl, ?_⟩
      walk_at "g"
      refine ⟨w, ring, some', _, _, rfl, gd, trivial, b1.fr f11, fun b h12 f12 eb => ?_⟩
      have : b = false := Bool.eq_false_iff.mpr fun z => b2 (by rw [← ers]; exact (eb.mp z).1)
      rw [this]
      clear eb this
      have := f11.trans f12
      walk_at "g"
    rintro env h11 ⟨f11, x8, rfl⟩
    have hd11 := hd10.fr f11
    have fr11 := fr10.trans (f11.mono (S' := [a]) (by simp))
    have lg : nb.natAbs.log2 < 1920 := Nat.lt_of_lt_of_le (PySem.Flt.log2_lt_of (by decide) (show nb.natAbs < 2 ^ 31 by omega)) (by decide)
    clear B10 e10
    refine seq_ ?_
    walk_at "n"
    intro p4 n4
    generalize eX : up _ p4 _ = h12
    obtain ⟨e4, f12⟩ := new_facts eX n4
    clear eX
    refine ⟨a, t, rfl, hd11.fr f12, fun h13 y k13 n13 hd13 f13 => ?_⟩
    have np4 : p4 ≠ a := fun z => hd11.ne n4 z.symm
    have e4 := f13 p4 _ (by simpa using np4) e4
    walk_at "m"
    have B13 : ∀ v ∈ [D.non, D.str (Str.ofString (toString nb)), D.tup [D.int nb], D.ref p4, y, D.bl (decide (nb = 0))], kn0 h13 v ∧ v ≠ .int nb := fun v hv => by
      simp only [List.mem_cons, List.not_mem_nil, or_false] at hv
      rcases hv with rfl | rfl | rfl | rfl | rfl | rfl
      · exact ⟨trivial, fun z => by cases z⟩
      · exact ⟨trivial, fun z => by cases z⟩
      · exact ⟨trivial, fun z => by cases z⟩
      · exact ⟨Or.inl ⟨_, e4⟩, fun z => by cases z⟩
      · exact ⟨k13, fun z => by rw [z] at n13; exact n13.elim⟩
      · exact ⟨trivial, fun z => by cases z⟩
    have fr13 : Fr [a] h h13 := fr11.trans ((f12.mono (by simp)).trans f13)
    clear e4 k13 n13
    generalize [D.non, D.str (Str.ofString (toString nb)), D.tup [D.int nb], D.ref p4, y, D.bl (decide (nb = 0))] = L13 at B13
    refine forW (fun j env h' => Fr [] h13 h' ∧ ∃ x8, env = [some (.ref a), some (.str w.s), some (tI ring), some (tI some'), some (.int nb), some (.tup rs), some (.ref p3), x7, x8]) ⟨.refl, _, rfl⟩ (fun _ _ _ _ => trivial) ?_ ?_
    · rintro j env h14 hj ⟨f14, x8, rfl⟩
      have hj : j < L13.length := by rw [srcD_n] at hj; exact hj
      obtain ⟨b1, b2⟩ := B13 _ (List.getElem_mem hj)
      rw [srcD_item, getD_el hj]
      generalize L13[j] = bad at b1 b2
      refine ⟨_, rfl, ?_⟩
      walk_at "g"
      refine ⟨w, ring, some', _, _, rfl, gd, b1.fr f14, ks, fun b h15 f15 eb => ?_⟩
      have : b = false := Bool.eq_false_iff.mpr fun z => b2 (by have := (eb.mp z).2; rw [enb] at this; exact this)
      rw [this]
      clear eb this
      have := f14.trans f15
      walk_at "g"
    · rintro env h14 ⟨f14, x8, rfl⟩
      walk_at "n"
      refine ⟨w, ring, some', _, _, rfl, gd, trivial, ks, fun b h15 f15 eb => ?_⟩
      rw [eb.mpr ⟨ers.symm, by rw [enb]⟩]
      have := q h15 (hd13.fr (f14.trans f15)) (fr13.trans ((f14.trans f15).mono (by simp)))
      clear eb
      walk_at "g"
  walk_at "g"
  refine neD_pu hpu pn fun b eb => ?_
  cases b with
  | false =>
    clear eb
    walk_at "g"
    refine ⟨mulOkL (by omega) (by omega), by omega, by omega, ?_⟩
    refine forW (fun j env h' => h' = h9 ∧ env = [some (.ref a), some (.str w.s), some (tI ring), some (tI some'), some (.int nb), some (.tup rs), some (.ref p3), none, none]) ⟨rfl, rfl⟩ (fun _ _ _ _ => trivial) (fun j env h' hj _ => absurd hj (by rw [srcR_n]; omega)) ?_
    rintro env h' ⟨rfl, rfl⟩
    exact rest _ L9 _ (hd9.less (by omega)) fr9 e3 B9 (by omega)
  | true =>
    have hne : rs ≠ [] := fun z => eb.mp rfl (by rw [z])
    have lne : 1 ≤ rs.length := by
      cases rs with
      | nil => exact absurd rfl hne
      | cons _ _ => rw [List.length_cons]; omega
    clear eb
    walk_at "g"
    refine ⟨mulOkL (by omega) (by omega), by omega, by omega, ?_⟩
    refine forW (fun j env h' => Hand h' a (t + 2 + 10 * (4 - j)) ∧ Fr [a] h h' ∧ ∃ x7 Lj, env = [some (.ref a), some (.str w.s), some (tI ring), some (tI some'), some (.int nb), some (.tup rs), some (.ref p3), x7, none] ∧ h' p3 = some (.lst Lj) ∧ (∀ x ∈ Lj, Th h' 3 x ∧ x ≠ .tup rs) ∧ Lj.length ≤ 22 + j) ⟨hd9.less (by omega), fr9, _, _, rfl, e3, B9, by omega⟩ (fun _ _ _ _ => trivial) ?_ ?_
    · rintro j env h10 hj ⟨hd10, fr10, x7, Lj, rfl, e10, B10, l10⟩
      have hj : j < 4 := hj
      refine ⟨_, rfl, ?_⟩
      rw [show t + 2 + 10 * (4 - j) = t + 2 + 10 * (4 - (j + 1)) + 10 by omega] at hd10
      generalize t + 2 + 10 * (4 - (j + 1)) = u at hd10 ⊢
      walk_at "n"
      refine ⟨a, u, w, rs, rfl, hrs, lne, by omega, hd10, fun h11 x tx nx hd11 f11 => ?_⟩
      have e11 := f11 p3 _ (by simpa using np3) e10
      clear e10
      have key : Hand (up h11 p3 (.lst (Lj ++ [x]))) a u ∧ Fr [a] h (up h11 p3 (.lst (Lj ++ [x]))) ∧ (up h11 p3 (.lst (Lj ++ [x]))) p3 = some (.lst (Lj ++ [x])) ∧ (∀ y ∈ Lj ++ [x], Th (up h11 p3 (.lst (Lj ++ [x]))) 3 y ∧ y ≠ .tup rs) ∧ (Lj ++ [x]).length ≤ 22 + (j + 1) := by
        refine ⟨hd11.put (Ne.symm np3), Fr.over n3' (fr10.trans f11), up_same, fun y hy => ?_, by rw [List.length_append, List.length_singleton]; omega⟩
        have mv : ∀ {m : Nat} {d : D}, Th h11 m d → Th (up h11 p3 (.lst (Lj ++ [x]))) m d := fun z => Th.fra (a := p3) (Fr.put (List.mem_singleton.mpr rfl)) ⟨_, up_same⟩ z
        rcases List.mem_append.mp hy with e | e
        · exact ⟨mv ((B10 y e).1.fra f11 (hand_isl hd11)), (B10 y e).2⟩
        · rw [List.mem_singleton.mp e]; exact ⟨mv tx, nx⟩
      refine ⟨Lj, e11, by omega, ?_⟩
      exact ⟨key.1, key.2.1, key.2.2.2.1, key.2.2.2.2⟩
    · rintro env h10 ⟨hd10, fr10, x7, Lj, rfl, e10, B10, l10⟩
      exact rest _ Lj _ (hd10.less (by omega)) fr10 e10 B10 (by rw [srcR_n] at l10; omega)
theorem p_law : ∀ ds h Q E, c_law ds h Q E → m_law { nx := fun _ h' => Q .non h', rt := Q } (mstart N_law ds) h := by
  rintro ds h Q E ⟨ns, rfl, hl, q⟩
  walk_at "n"
  have nn : ∃ n : Nat, ((if (if (ns.length : Int) < 8 then (ns.length : Int) else 8) > 2 then (if (ns.length : Int) < 8 then (ns.length : Int) else 8) else 2)) = (n : Int) ∧ n ≤ 8 := by
    refine ⟨max 2 (min 8 ns.length), ?_, by omega⟩
    split <;> split <;> omega
  obtain ⟨n, en, hn⟩ := nn
  rw [en]
  refine ⟨by omega, by omega, ?_⟩
  refine forW (fun k env h' => ∃ x1 x2 x3 x4 x5 x6, env = [some (.rl (ns.map .int)), x1, x2, x3, x4, x5, x6]) ⟨_, _, _, _, _, _, rfl⟩ (fun _ _ _ _ => trivial) ?_ ?_
  rotate_left
  · rintro env h' ⟨x1, x2, x3, x4, x5, x6, rfl⟩
    walk_at "n"
    have g5 : Gd .whole [5] [0] := ⟨⟨by decide, by decide⟩, by decide, ⟨by decide, fun x hx => by rw [List.mem_singleton.mp hx]; decide⟩, by decide, by decide, fun z => by cases z⟩
    refine ⟨.whole, [5], [0], _, _, rfl, g5, trivial, th_tup (by simp) (fun x hx => by cases hx), fun b h15 f15 eb => ?_⟩
    have : b = false := Bool.eq_false_iff.mpr fun z => by have := (eb.mp z).2; cases this
    rw [this]
    clear eb
    walk_at "g"
  rintro k env h0 hk ⟨x1, x2, x3, x4, x5, x6, rfl⟩
  rw [srcR_n, Int.toNat_natCast] at hk
  refine ⟨_, rfl, ?_⟩
  walk_at "n"
  refine ⟨ns, k, rfl, by omega, fun a h1 f1 na hd => ?_⟩
  walk_at "g"
  refine ⟨a, 2000, rfl, hd.less (by omega), fun m h2 m1 m2 hd2 f2 => ?_⟩
  walk_at "g"
  refine ⟨a, m, 1500, rfl, m1, by omega, hd2.less (by omega), fun h3 ring lr br nr hd3 f3 => ?_⟩
  walk_at "g"
  refine ⟨a, m, 1200, rfl, m1, by omega, hd3.less (by omega), fun h4 some' sk nd s1 s2 hd4 f4 => ?_⟩
  have gd : ∀ w, Gd w ring some' := fun w => ⟨⟨by omega, by omega⟩, by omega, by rw [lr]; exact sk, nd, s1, fun _ => nr⟩
  clear en hk lr
  walk_at "g"
  have ww : ∀ j, j < 3 → ∃ w : Way, [D.str "round", .str "halves", .str "reach"].getD j .non = .str w.s := fun j hj => by
    match j, hj with
    | 0, _ => exact ⟨.round, rfl⟩
    | 1, _ => exact ⟨.halves, rfl⟩
    | 2, _ => exact ⟨.reach, rfl⟩
  have lw : [D.str "round", .str "halves", .str "reach"].length = 3 := rfl
  refine forW (fun j env h' => Hand h' a (700 + 80 * (3 - j)) ∧ ∃ x6, env = [some (.rl (ns.map .int)), some (.int (k : Int)), some (.ref a), some (.int (m : Int)), some (tI ring), some (tI some'), x6]) ⟨hd4.less (by omega), _, rfl⟩ (fun _ _ _ _ => trivial) ?_ ?_
  · rintro j env h8 hj ⟨hd8, x7, rfl⟩
    rw [srcD_n, lw] at hj
    obtain ⟨w, ew⟩ := ww j hj
    rw [srcD_item, ew]
    refine ⟨_, rfl, ?_⟩
    clear ew ww
    walk_at "n"
    refine ⟨a, 700 + 80 * (3 - (j + 1)), w, ring, some', rfl, gd w, hd8.less (by omega), fun h9 hd9 f9 => ?_⟩
    clear gd
    walk_at "g"
  · rintro env h8 ⟨hd8, x6, rfl⟩
    walk_at "g"
    refine ⟨a, m, 200, rfl, m1, by omega, hd8.less (by omega), fun h9 lab ll hd9 f9 => ?_⟩
    have gl : Gd .whole lab some' := ⟨⟨by omega, by omega⟩, by omega, by rw [ll]; exact sk, nd, s1, fun z => by cases z⟩
    clear ww
    refine ⟨a, 100, .whole, lab, some', rfl, gl, hd9.less (by omega), fun h10 hd10 f10 => ?_⟩
    clear gd
    walk_at "g"
theorem law_start (ns : List Int) (hl : ns.length ≤ 63) (hb : ∀ z ∈ ns, Builtin.Int.intBits z ≤ 1048576) : c_law [.rl (ns.map .int)] (fun _ => none) (fun d _ => d = .bl true) noE := ⟨ns, rfl, hl, fun _ => rfl⟩
def top (i : Nat) : Stmt := PySem.Challenge.pw_ringchief_k43_sums_of_anything.main.body.getD i (.Pass ⟨0, 0, 0, 0⟩)
abbrev s_next_row : Stmt := top 3
theorem sc_next_row : FnScope ["row", "found", "place", "house", "held", "near"] ["row"] (defScope s_next_row) := ⟨rfl, rfl, rfl, by decide +kernel, rfl, by decide +kernel, by decide +kernel⟩
abbrev s_side_letters : Stmt := top 4
theorem sc_side_letters : FnScope ["reach", "stop"] ["reach", "stop"] (defScope s_side_letters) := ⟨rfl, rfl, rfl, by decide +kernel, rfl, by decide +kernel, by decide +kernel⟩
abbrev s_reach_letters : Stmt := top 5
theorem sc_reach_letters : FnScope ["left", "right", "total", "reach", "is_on"] ["left", "right"] (defScope s_reach_letters) := ⟨rfl, rfl, rfl, by decide +kernel, rfl, by decide +kernel, by decide +kernel⟩
abbrev s_is_whole : Stmt := top 7
theorem sc_is_whole : FnScope ["thing"] ["thing"] (defScope s_is_whole) := ⟨rfl, rfl, rfl, by decide +kernel, rfl, by decide +kernel, by decide +kernel⟩
abbrev s_are_rows : Stmt := top 8
theorem sc_are_rows : FnScope ["thing", "size", "row", "one"] ["thing", "size"] (defScope s_are_rows) := ⟨rfl, rfl, rfl, by decide +kernel, rfl, by decide +kernel, by decide +kernel⟩
abbrev s_is_greater : Stmt := top 9
theorem sc_is_greater : FnScope ["ring", "some", "house", "steps", "other"] ["ring", "some", "house", "steps"] (defScope s_is_greater) := ⟨rfl, rfl, rfl, by decide +kernel, rfl, by decide +kernel, by decide +kernel⟩
abbrev s_is_stop : Stmt := top 10
theorem sc_is_stop : FnScope ["ring", "some", "house", "side", "stop", "steps"] ["ring", "some", "house", "side", "stop"] (defScope s_is_stop) := ⟨rfl, rfl, rfl, by decide +kernel, rfl, by decide +kernel, by decide +kernel⟩
abbrev s_shows_round : Stmt := top 11
theorem sc_shows_round : FnScope ["ring", "some", "number", "paper", "house", "stop", "row"] ["ring", "some", "number", "paper"] (defScope s_shows_round) := ⟨rfl, rfl, rfl, by decide +kernel, rfl, by decide +kernel, by decide +kernel⟩
abbrev s_shows_reach : Stmt := top 12
theorem sc_shows_reach : FnScope ["ring", "some", "number", "paper", "total", "house", "left", "right", "row"] ["ring", "some", "number", "paper"] (defScope s_shows_reach) := ⟨rfl, rfl, rfl, by decide +kernel, rfl, by decide +kernel, by decide +kernel⟩
abbrev s_shows_halves : Stmt := top 13
theorem sc_shows_halves : FnScope ["ring", "some", "number", "paper", "one", "other", "row", "house"] ["ring", "some", "number", "paper"] (defScope s_shows_halves) := ⟨rfl, rfl, rfl, by decide +kernel, rfl, by decide +kernel, by decide +kernel⟩
abbrev s_shows_sum : Stmt := top 14
theorem sc_shows_sum : FnScope ["way", "ring", "some", "number", "paper"] ["way", "ring", "some", "number", "paper"] (defScope s_shows_sum) := ⟨rfl, rfl, rfl, by decide +kernel, rfl, by decide +kernel, by decide +kernel⟩
abbrev s_law_hand : Stmt := top 16
theorem sc_law_hand : FnScope ["_law_script", "_law_k", "_law_cell"] ["_law_script", "_law_k"] (defScope s_law_hand) := ⟨rfl, rfl, rfl, by decide +kernel, rfl, by decide +kernel, by decide +kernel⟩
abbrev s_law_take : Stmt := top 17
theorem sc_law_take : FnScope ["_law_from", "_law_many", "_law_turn", "_law_mixed", "_law_digit"] ["_law_from", "_law_many"] (defScope s_law_take) := ⟨rfl, rfl, rfl, by decide +kernel, rfl, by decide +kernel, by decide +kernel⟩
abbrev s_law_order : Stmt := top 18
theorem sc_law_order : FnScope ["_law_from", "_law_many", "_law_way", "_law_turn", "_law_left", "_law_k"] ["_law_from", "_law_many"] (defScope s_law_order) := ⟨rfl, rfl, rfl, by decide +kernel, rfl, by decide +kernel, by decide +kernel⟩
abbrev s_law_ring : Stmt := top 19
theorem sc_law_ring : FnScope ["_law_from", "_law_many", "_law_order_here", "_law_k"] ["_law_from", "_law_many"] (defScope s_law_ring) := ⟨rfl, rfl, rfl, by decide +kernel, rfl, by decide +kernel, by decide +kernel⟩
abbrev s_law_some : Stmt := top 20
theorem sc_law_some : FnScope ["_law_from", "_law_many", "_law_way", "_law_one", "_law_k"] ["_law_from", "_law_many"] (defScope s_law_some) := ⟨rfl, rfl, rfl, by decide +kernel, rfl, by decide +kernel, by decide +kernel⟩
abbrev s_law_size : Stmt := top 21
theorem sc_law_size : FnScope ["_law_from"] ["_law_from"] (defScope s_law_size) := ⟨rfl, rfl, rfl, by decide +kernel, rfl, by decide +kernel, by decide +kernel⟩
abbrev s_law_stop : Stmt := top 22
theorem sc_law_stop : FnScope ["_law_ring_here", "_law_some_here", "_law_house", "_law_side", "_law_many", "_law_at", "_law_steps"] ["_law_ring_here", "_law_some_here", "_law_house", "_law_side"] (defScope s_law_stop) := ⟨rfl, rfl, rfl, by decide +kernel, rfl, by decide +kernel, by decide +kernel⟩
abbrev s_law_reach : Stmt := top 23
theorem sc_law_reach : FnScope ["_law_left", "_law_right_here", "_law_total", "_law_k", "_law_far", "_law_stop_here"] ["_law_left", "_law_right_here"] (defScope s_law_reach) := ⟨rfl, rfl, rfl, by decide +kernel, rfl, by decide +kernel, by decide +kernel⟩
abbrev s_law_phases : Stmt := top 24
theorem sc_law_phases : FnScope ["_law_ring_here", "_law_some_here", "_law_houses", "_law_held", "_law_rows", "_law_size_here", "_law_stay", "_law_k", "_law_near", "_law_house", "_law_name"] ["_law_ring_here", "_law_some_here"] (defScope s_law_phases) := ⟨rfl, rfl, rfl, by decide +kernel, rfl, by decide +kernel, by decide +kernel⟩
abbrev s_law_told : Stmt := top 25
theorem sc_law_told : FnScope ["_law_way", "_law_ring_here", "_law_some_here", "_law_many", "_law_total", "_law_house", "_law_right_here", "_law_left"] ["_law_way", "_law_ring_here", "_law_some_here"] (defScope s_law_told) := ⟨rfl, rfl, rfl, by decide +kernel, rfl, by decide +kernel, by decide +kernel⟩
abbrev s_law_paper : Stmt := top 26
theorem sc_law_paper : FnScope ["_law_way", "_law_ring_here", "_law_some_here", "_law_rows", "_law_house", "_law_row"] ["_law_way", "_law_ring_here", "_law_some_here"] (defScope s_law_paper) := ⟨rfl, rfl, rfl, by decide +kernel, rfl, by decide +kernel, by decide +kernel⟩
abbrev s_law_word : Stmt := top 27
theorem sc_law_word : FnScope ["_law_from", "_law_many", "_law_most", "_law_k"] ["_law_from", "_law_many"] (defScope s_law_word) := ⟨rfl, rfl, rfl, by decide +kernel, rfl, by decide +kernel, by decide +kernel⟩
abbrev s_law_nested : Stmt := top 28
theorem sc_law_nested : FnScope ["_law_deep", "_law_listed", "_law_thing", "_law_k"] ["_law_deep", "_law_listed"] (defScope s_law_nested) := ⟨rfl, rfl, rfl, by decide +kernel, rfl, by decide +kernel, by decide +kernel⟩
abbrev s_law_odd : Stmt := top 29
theorem sc_law_odd : FnScope ["_law_from", "_law_deep", "_law_some_odd"] ["_law_from"] (defScope s_law_odd) := ⟨rfl, rfl, rfl, by decide +kernel, rfl, by decide +kernel, by decide +kernel⟩
abbrev s_law_put : Stmt := top 30
theorem sc_law_put : FnScope ["_law_things", "_law_at", "_law_thing"] ["_law_things", "_law_at", "_law_thing"] (defScope s_law_put) := ⟨rfl, rfl, rfl, by decide +kernel, rfl, by decide +kernel, by decide +kernel⟩
abbrev s_law_kinds : Stmt := top 31
theorem sc_law_kinds : FnScope ["_law_rows", "_law_found", "_law_row"] ["_law_rows"] (defScope s_law_kinds) := ⟨rfl, rfl, rfl, by decide +kernel, rfl, by decide +kernel, by decide +kernel⟩
abbrev s_law_inside : Stmt := top 32
theorem sc_law_inside : FnScope ["_law_from", "_law_rows", "_law_at", "_law_row", "_law_place", "_law_pair"] ["_law_from", "_law_rows"] (defScope s_law_inside) := ⟨rfl, rfl, rfl, by decide +kernel, rfl, by decide +kernel, by decide +kernel⟩
abbrev s_law_right_here : Stmt := top 33
theorem sc_law_right_here : FnScope ["_law_from", "_law_way", "_law_asked", "_law_begun", "_law_number", "_law_rows", "_law_papers", "_law_turn", "_law_bad"] ["_law_from", "_law_way", "_law_asked", "_law_begun"] (defScope s_law_right_here) := ⟨rfl, rfl, rfl, by decide +kernel, rfl, by decide +kernel, by decide +kernel⟩
abbrev s_law : Stmt := top 34
theorem sc_law : FnScope ["_law_script", "_law_k", "_law_from", "_law_many", "_law_here", "_law_begun", "_law_way"] ["_law_script"] (defScope s_law) := ⟨rfl, rfl, rfl, by decide +kernel, rfl, by decide +kernel, by decide +kernel⟩
structure Txt (K : PySem.W.Frag) (mg : Str → Option Value) where
  f_next_row : Fd K mg "next_row" "next_row" s_next_row ["row"]
  f_side_letters : Fd K mg "side_letters" "side_letters" s_side_letters ["reach", "stop"]
  f_reach_letters : Fd K mg "reach_letters" "reach_letters" s_reach_letters ["left", "right"]
  f_is_whole : Fd K mg "is_whole" "is_whole" s_is_whole ["thing"]
  f_are_rows : Fd K mg "are_rows" "are_rows" s_are_rows ["thing", "size"]
  f_is_greater : Fd K mg "is_greater" "is_greater" s_is_greater ["ring", "some", "house", "steps"]
  f_is_stop : Fd K mg "is_stop" "is_stop" s_is_stop ["ring", "some", "house", "side", "stop"]
  f_shows_round : Fd K mg "shows_round" "shows_round" s_shows_round ["ring", "some", "number", "paper"]
  f_shows_reach : Fd K mg "shows_reach" "shows_reach" s_shows_reach ["ring", "some", "number", "paper"]
  f_shows_halves : Fd K mg "shows_halves" "shows_halves" s_shows_halves ["ring", "some", "number", "paper"]
  f_shows_sum : Fd K mg "shows_sum" "shows_sum" s_shows_sum ["way", "ring", "some", "number", "paper"]
  f_law_hand : Fd K mg "_law_hand" "_law_hand" s_law_hand ["_law_script", "_law_k"]
  f_law_take : Fd K mg "_law_take" "_law_take" s_law_take ["_law_from", "_law_many"]
  f_law_order : Fd K mg "_law_order" "_law_order" s_law_order ["_law_from", "_law_many"]
  f_law_ring : Fd K mg "_law_ring" "_law_ring" s_law_ring ["_law_from", "_law_many"]
  f_law_some : Fd K mg "_law_some" "_law_some" s_law_some ["_law_from", "_law_many"]
  f_law_size : Fd K mg "_law_size" "_law_size" s_law_size ["_law_from"]
  f_law_stop : Fd K mg "_law_stop" "_law_stop" s_law_stop ["_law_ring_here", "_law_some_here", "_law_house", "_law_side"]
  f_law_reach : Fd K mg "_law_reach" "_law_reach" s_law_reach ["_law_left", "_law_right_here"]
  f_law_phases : Fd K mg "_law_phases" "_law_phases" s_law_phases ["_law_ring_here", "_law_some_here"]
  f_law_told : Fd K mg "_law_told" "_law_told" s_law_told ["_law_way", "_law_ring_here", "_law_some_here"]
  f_law_paper : Fd K mg "_law_paper" "_law_paper" s_law_paper ["_law_way", "_law_ring_here", "_law_some_here"]
  f_law_word : Fd K mg "_law_word" "_law_word" s_law_word ["_law_from", "_law_many"]
  f_law_nested : Fd K mg "_law_nested" "_law_nested" s_law_nested ["_law_deep", "_law_listed"]
  f_law_odd : Fd K mg "_law_odd" "_law_odd" s_law_odd ["_law_from"]
  f_law_put : Fd K mg "_law_put" "_law_put" s_law_put ["_law_things", "_law_at", "_law_thing"]
  f_law_kinds : Fd K mg "_law_kinds" "_law_kinds" s_law_kinds ["_law_rows"]
  f_law_inside : Fd K mg "_law_inside" "_law_inside" s_law_inside ["_law_from", "_law_rows"]
  f_law_right_here : Fd K mg "_law_right_here" "_law_right_here" s_law_right_here ["_law_from", "_law_way", "_law_asked", "_law_begun"]
  f_law : Fd K mg "law" "law" s_law ["_law_script"]
  b_all : mg "all" = none
  b_any : mg "any" = none
  b_bool : mg "bool" = none
  b_enumerate : mg "enumerate" = none
  b_int : mg "int" = none
  b_isinstance : mg "isinstance" = none
  b_len : mg "len" = none
  b_list : mg "list" = none
  b_max : mg "max" = none
  b_min : mg "min" = none
  b_range : mg "range" = none
  b_str : mg "str" = none
  b_sum : mg "sum" = none
  b_tuple : mg "tuple" = none
  b_zip : mg "zip" = none
  g_LEFT : Gc K mg "LEFT" k_LEFT
  g_RIGHT : Gc K mg "RIGHT" k_RIGHT
section
variable {P : Program} {w : World} {K : PySem.W.Frag} {mg : Str → Option Value} {base : Heap}
theorem ok_next_row (T : Txt K mg) : FnOk P w K mg base CX0 1 T.f_next_row.a T.f_next_row.fd ["row"] (liftSp K c_next_row) :=
  fnM (k := 0) (N := ["row", "found", "place", "house", "held", "near"]) (m := m_next_row) T.f_next_row.F sc_next_row len_next_row (fun cdv A outer s H E hr =>
 (iss_cons (is_set 1 sc_next_row.nd (ie_lst ia_nil))
 (iss_cons (is_for PassesOwn.never rfl (ii_enum T.b_enumerate (ie_var 0)) (ig_tup rfl (ig_cons (ig_name 2 sc_next_row.nd) (ig_cons (ig_tup rfl (ig_cons (ig_name 3 sc_next_row.nd) (ig_cons (ig_name 4 sc_next_row.nd) ig_nil))) ig_nil)))
 (iss_cons (is_set 5 sc_next_row.nd (ie_ix ix_m (ie_ix ix_m (ie_var 0) (ie_op om_sub (ie_var 2) ie_int) (fun _ _ => rfl)) ie_int (fun _ _ => rfl)))
 (iss_one (is_if (IW.it (iw_and (it_cmp om_gtI (ie_var 5) (ie_var 4) (nomark _)) (iw_and1 (it_cmp om_gtI (ie_var 5) (ie_ix ix_m (ie_ix ix_m (ie_var 0) (ie_op om_sub (ie_var 2) ie_int) (fun _ _ => rfl)) ie_int (fun _ _ => rfl)) (nomark _)))))
 (iss_one (is_expr (ie_bm PySem.F.plainAttrs_list PySem.F.slot_list_append PySem.F.type_list_append mi_append (ie_var 1) (ia_cons (ie_tup (ia_cons (ie_var 3) (ia_cons (ie_var 5) ia_nil))) ia_nil))))
 iss_nil))))
 (iss_one (is_ret (ie_callTy cm_tuple (by rfl) T.b_tuple PyProof.Rows.boot_tuple (ia_cons (ie_var 1) ia_nil)))))))
  p_next_row
theorem ok_side_letters (T : Txt K mg) : FnOk P w K mg base CX0 1 T.f_side_letters.a T.f_side_letters.fd ["reach", "stop"] (liftSp K c_side_letters) :=
  fnM (k := 0) (N := ["reach", "stop"]) (m := m_side_letters) T.f_side_letters.F sc_side_letters len_side_letters (fun cdv A outer s H E hr =>
 (iss_cons (is_if (it_cmp om_gtI (ie_var 1) (ie_var 0) (nomark _))
 (iss_one (is_ret (ie_op om_mul ie_int (ie_var 0))))
 iss_nil)
 (iss_one (is_ret (ie_var 1)))))
  p_side_letters
theorem ok_reach_letters (T : Txt K mg) : FnOk P w K mg base CX0 2 T.f_reach_letters.a T.f_reach_letters.fd ["left", "right"] (liftSp K c_reach_letters) :=
  fnM (k := 1) (N := ["left", "right", "total", "reach", "is_on"]) (m := m_reach_letters) T.f_reach_letters.F sc_reach_letters len_reach_letters (fun cdv A outer s H E hr =>
 (iss_cons (is_set 2 sc_reach_letters.nd ie_int)
 (iss_cons (is_set 3 sc_reach_letters.nd ie_int)
 (iss_cons (is_set 4 sc_reach_letters.nd ie_bl)
 (iss_cons (is_while PassesOwn.never (it_val (ie_var 4))
 (iss_cons (is_aug 2 sc_reach_letters.nd im_add (ie_op om_add (ie_call (ok_side_letters T) (hr.mono (by omega)) T.f_side_letters.m T.f_side_letters.F.kp T.f_side_letters.b (ia_cons (ie_var 3) (ia_cons (ie_var 0) ia_nil))) (ie_call (ok_side_letters T) (hr.mono (by omega)) T.f_side_letters.m T.f_side_letters.F.kp T.f_side_letters.b (ia_cons (ie_var 3) (ia_cons (ie_var 1) ia_nil)))))
 (iss_cons (is_set 4 sc_reach_letters.nd (ie_and (ie_cmp om_gtI (ie_var 0) (ie_var 3) (nomark _)) (ie_one (ie_cmp om_gtI (ie_var 1) (ie_var 3) (nomark _)))))
 (iss_one (is_set 3 sc_reach_letters.nd (ie_op om_mul ie_int (ie_var 3)))))))
 (iss_one (is_ret (ie_var 2))))))))
  p_reach_letters
theorem ok_is_whole (T : Txt K mg) : FnOk P w K mg base CX0 1 T.f_is_whole.a T.f_is_whole.fd ["thing"] (liftSp K c_is_whole) :=
  fnM (k := 0) (N := ["thing"]) (m := m_is_whole) T.f_is_whole.F sc_is_whole len_is_whole (fun cdv A outer s H E hr =>
 (iss_one (is_ret (ie_and (ie_isi T.b_isinstance T.b_int (ie_var 0) bt_int kt_int) (ie_one (ie_not (ie_isi T.b_isinstance T.b_bool (ie_var 0) bt_bool kt_bool)))))))
  p_is_whole
theorem ok_are_rows (T : Txt K mg) : FnOk P w K mg base CX0 2 T.f_are_rows.a T.f_are_rows.fd ["thing", "size"] (liftSp K c_are_rows) :=
  fnM (k := 1) (N := ["thing", "size", "row", "one"]) (m := m_are_rows) T.f_are_rows.F sc_are_rows len_are_rows (fun cdv A outer s H E hr =>
 (iss_cons (is_if (it_not (it_val (ie_isi T.b_isinstance T.b_tuple (ie_var 0) bt_tuple kt_tuple)))
 (iss_one (is_ret ie_bl))
 iss_nil)
 (iss_cons (is_for PassesOwn.never rfl (ii_iter (ie_var 0)) (ig_name 2 sc_are_rows.nd)
 (iss_one (is_if (IW.it (iw_or (it_not (it_val (ie_isi T.b_isinstance T.b_tuple (ie_var 2) bt_tuple kt_tuple))) (iw_or (it_cmp (om_ne hr.units) (ie_callB cm_len (by rfl) T.b_len PySem.boot_len (ia_cons (ie_var 2) ia_nil)) (ie_var 1) (nomark _)) (iw_or1 (it_not (it_val (ie_callB (cm_all rfl) (by rfl) T.b_all PyProof.Rows.boot_all (ia_cons (ie_lc (own := [("one", 3)]) rfl sc_are_rows.nd rfl (ii_iter (ie_var 2)) (blkOk_by (show blkC ["thing", "size", "row", "one"] (defScope s_are_rows) _ _ = true from by decide +kernel)) (fun _ _ _ _ _ => (ig_name 3 sc_are_rows.nd)) (fun _ _ _ _ _ => its_nil) (fun _ _ _ _ _ => (ie_call (ok_is_whole T) (hr.mono (by omega)) T.f_is_whole.m T.f_is_whole.F.kp T.f_is_whole.b (ia_cons (ie_var 3) ia_nil)))) ia_nil))))))))
 (iss_one (is_ret ie_bl))
 iss_nil)))
 (iss_one (is_ret ie_bl)))))
  p_are_rows
theorem ok_is_greater (T : Txt K mg) : FnOk P w K mg base CX0 1 T.f_is_greater.a T.f_is_greater.fd ["ring", "some", "house", "steps"] (liftSp K c_is_greater) :=
  fnM (k := 0) (N := ["ring", "some", "house", "steps", "other"]) (m := m_is_greater) T.f_is_greater.F sc_is_greater len_is_greater (fun cdv A outer s H E hr =>
 (iss_cons (is_set 4 sc_is_greater.nd (ie_op om_mod (ie_op om_add (ie_var 2) (ie_var 3)) (ie_callB cm_len (by rfl) T.b_len PySem.boot_len (ia_cons (ie_var 0) ia_nil))))
 (iss_one (is_ret (ie_and (ie_cmp om_in (ie_var 4) (ie_var 1) (by rfl)) (ie_one (ie_cmp om_gtI (ie_ix ix_m (ie_var 0) (ie_var 4) (fun _ _ => rfl)) (ie_ix ix_m (ie_var 0) (ie_var 2) (fun _ _ => rfl)) (nomark _))))))))
  p_is_greater
theorem ok_is_stop (T : Txt K mg) : FnOk P w K mg base CX0 2 T.f_is_stop.a T.f_is_stop.fd ["ring", "some", "house", "side", "stop"] (liftSp K c_is_stop) :=
  fnM (k := 1) (N := ["ring", "some", "house", "side", "stop", "steps"]) (m := m_is_stop) T.f_is_stop.F sc_is_stop len_is_stop (fun cdv A outer s H E hr =>
 (iss_cons (is_if (it_not (it_chain om_leI om_leI ie_int (ie_var 4) (ie_callB cm_len (by rfl) T.b_len PySem.boot_len (ia_cons (ie_var 0) ia_nil))))
 (iss_one (is_ret ie_bl))
 iss_nil)
 (iss_cons (is_if (it_val (ie_callB (cm_any rfl) (by rfl) T.b_any PyProof.Rows.boot_any (ia_cons (ie_lc (own := [("steps", 5)]) rfl sc_is_stop.nd rfl (ii_range2 T.b_range ie_int (ie_var 4)) (blkOk_by (show blkC ["ring", "some", "house", "side", "stop", "steps"] (defScope s_is_stop) _ _ = true from by decide +kernel)) (fun _ _ _ _ _ => (ig_name 5 sc_is_stop.nd)) (fun _ _ _ _ _ => its_nil) (fun _ _ _ _ _ => (ie_call (ok_is_greater T) (hr.mono (by omega)) T.f_is_greater.m T.f_is_greater.F.kp T.f_is_greater.b (ia_cons (ie_var 0) (ia_cons (ie_var 1) (ia_cons (ie_var 2) (ia_cons (ie_op om_mul (ie_var 3) (ie_var 5)) ia_nil))))))) ia_nil)))
 (iss_one (is_ret ie_bl))
 iss_nil)
 (iss_one (is_ret (ie_or (ie_cmp (om_eq hr.units) (ie_var 4) (ie_callB cm_len (by rfl) T.b_len PySem.boot_len (ia_cons (ie_var 0) ia_nil)) (nomark _)) (ie_one (ie_call (ok_is_greater T) (hr.mono (by omega)) T.f_is_greater.m T.f_is_greater.F.kp T.f_is_greater.b (ia_cons (ie_var 0) (ia_cons (ie_var 1) (ia_cons (ie_var 2) (ia_cons (ie_op om_mul (ie_var 3) (ie_var 4)) ia_nil))))))))))))
  p_is_stop
theorem ok_shows_round (T : Txt K mg) : FnOk P w K mg base CX0 3 T.f_shows_round.a T.f_shows_round.fd ["ring", "some", "number", "paper"] (liftSp K c_shows_round) :=
  fnM (k := 2) (N := ["ring", "some", "number", "paper", "house", "stop", "row"]) (m := m_shows_round) T.f_shows_round.F sc_shows_round len_shows_round (fun cdv A outer s H E hr =>
 (iss_cons (is_if (IW.it (iw_or (it_not (it_val (ie_call (ok_are_rows T) (hr.mono (by omega)) T.f_are_rows.m T.f_are_rows.F.kp T.f_are_rows.b (ia_cons (ie_var 3) (ia_cons ie_int ia_nil))))) (iw_or1 (it_cmp (om_ne hr.units) (ie_callTy cm_tuple (by rfl) T.b_tuple PyProof.Rows.boot_tuple (ia_cons (ie_lc (own := [("row", 6)]) rfl sc_shows_round.nd rfl (ii_iter (ie_var 3)) (blkOk_by (show blkC ["ring", "some", "number", "paper", "house", "stop", "row"] (defScope s_shows_round) _ _ = true from by decide +kernel)) (fun _ _ _ _ _ => (ig_name 6 sc_shows_round.nd)) (fun _ _ _ _ _ => its_nil) (fun _ _ _ _ _ => (ie_ix ix_m (ie_var 6) ie_int (fun _ _ => rfl)))) ia_nil)) (ie_var 1) (nomark _)))))
 (iss_one (is_ret ie_bl))
 iss_nil)
 (iss_cons (is_if (it_not (it_val (ie_callB (cm_all rfl) (by rfl) T.b_all PyProof.Rows.boot_all (ia_cons (ie_lc (own := [("house", 4), ("stop", 5)]) rfl sc_shows_round.nd rfl (ii_iter (ie_var 3)) (blkOk_by (show blkC ["ring", "some", "number", "paper", "house", "stop", "row"] (defScope s_shows_round) _ _ = true from by decide +kernel)) (fun _ _ _ _ _ => (ig_tup rfl (ig_cons (ig_name 4 sc_shows_round.nd) (ig_cons (ig_name 5 sc_shows_round.nd) ig_nil)))) (fun _ _ _ _ _ => its_nil) (fun _ _ _ _ _ => (ie_call (ok_is_stop T) (hr.mono (by omega)) T.f_is_stop.m T.f_is_stop.F.kp T.f_is_stop.b (ia_cons (ie_var 0) (ia_cons (ie_var 1) (ia_cons (ie_var 4) (ia_cons (T.g_RIGHT.ie) (ia_cons (ie_var 5) ia_nil)))))))) ia_nil))))
 (iss_one (is_ret ie_bl))
 iss_nil)
 (iss_one (is_ret (ie_cmp (om_eq hr.units) (ie_var 2) (ie_op om_add (ie_callB cm_len (by rfl) T.b_len PySem.boot_len (ia_cons (ie_var 0) ia_nil)) (ie_callB (cm_sum rfl) (by rfl) T.b_sum PyProof.Rows.boot_sum (ia_cons (ie_lc (own := [("house", 4), ("stop", 5)]) rfl sc_shows_round.nd rfl (ii_iter (ie_var 3)) (blkOk_by (show blkC ["ring", "some", "number", "paper", "house", "stop", "row"] (defScope s_shows_round) _ _ = true from by decide +kernel)) (fun _ _ _ _ _ => (ig_tup rfl (ig_cons (ig_name 4 sc_shows_round.nd) (ig_cons (ig_name 5 sc_shows_round.nd) ig_nil)))) (fun _ _ _ _ _ => its_nil) (fun _ _ _ _ _ => (ie_var 5))) ia_nil))) (nomark _)))))))
  p_shows_round
theorem ok_shows_reach (T : Txt K mg) : FnOk P w K mg base CX0 3 T.f_shows_reach.a T.f_shows_reach.fd ["ring", "some", "number", "paper"] (liftSp K c_shows_reach) :=
  fnM (k := 2) (N := ["ring", "some", "number", "paper", "total", "house", "left", "right", "row"]) (m := m_shows_reach) T.f_shows_reach.F sc_shows_reach len_shows_reach (fun cdv A outer s H E hr =>
 (iss_cons (is_if (IW.it (iw_or (it_not (it_val (ie_call (ok_are_rows T) (hr.mono (by omega)) T.f_are_rows.m T.f_are_rows.F.kp T.f_are_rows.b (ia_cons (ie_var 3) (ia_cons ie_int ia_nil))))) (iw_or1 (it_cmp (om_ne hr.units) (ie_callTy cm_tuple (by rfl) T.b_tuple PyProof.Rows.boot_tuple (ia_cons (ie_lc (own := [("row", 8)]) rfl sc_shows_reach.nd rfl (ii_iter (ie_var 3)) (blkOk_by (show blkC ["ring", "some", "number", "paper", "total", "house", "left", "right", "row"] (defScope s_shows_reach) _ _ = true from by decide +kernel)) (fun _ _ _ _ _ => (ig_name 8 sc_shows_reach.nd)) (fun _ _ _ _ _ => its_nil) (fun _ _ _ _ _ => (ie_ix ix_m (ie_var 8) ie_int (fun _ _ => rfl)))) ia_nil)) (ie_var 1) (nomark _)))))
 (iss_one (is_ret ie_bl))
 iss_nil)
 (iss_cons (is_set 4 sc_shows_reach.nd (ie_callB cm_len (by rfl) T.b_len PySem.boot_len (ia_cons (ie_var 0) ia_nil)))
 (iss_cons (is_for PassesOwn.never rfl (ii_iter (ie_var 3)) (ig_tup rfl (ig_cons (ig_name 5 sc_shows_reach.nd) (ig_cons (ig_name 6 sc_shows_reach.nd) (ig_cons (ig_name 7 sc_shows_reach.nd) ig_nil))))
 (iss_cons (is_if (IW.it (iw_or (it_not (it_val (ie_call (ok_is_stop T) (hr.mono (by omega)) T.f_is_stop.m T.f_is_stop.F.kp T.f_is_stop.b (ia_cons (ie_var 0) (ia_cons (ie_var 1) (ia_cons (ie_var 5) (ia_cons (T.g_LEFT.ie) (ia_cons (ie_var 6) ia_nil)))))))) (iw_or1 (it_not (it_val (ie_call (ok_is_stop T) (hr.mono (by omega)) T.f_is_stop.m T.f_is_stop.F.kp T.f_is_stop.b (ia_cons (ie_var 0) (ia_cons (ie_var 1) (ia_cons (ie_var 5) (ia_cons (T.g_RIGHT.ie) (ia_cons (ie_var 7) ia_nil)))))))))))
 (iss_one (is_ret ie_bl))
 iss_nil)
 (iss_one (is_aug 4 sc_shows_reach.nd im_add (ie_call (ok_reach_letters T) (hr.mono (by omega)) T.f_reach_letters.m T.f_reach_letters.F.kp T.f_reach_letters.b (ia_cons (ie_var 6) (ia_cons (ie_var 7) ia_nil)))))))
 (iss_one (is_ret (ie_cmp (om_eq hr.units) (ie_var 2) (ie_var 4) (nomark _))))))))
  p_shows_reach
theorem ok_shows_halves (T : Txt K mg) : FnOk P w K mg base CX0 3 T.f_shows_halves.a T.f_shows_halves.fd ["ring", "some", "number", "paper"] (liftSp K c_shows_halves) :=
  fnM (k := 2) (N := ["ring", "some", "number", "paper", "one", "other", "row", "house"]) (m := m_shows_halves) T.f_shows_halves.F sc_shows_halves len_shows_halves (fun cdv A outer s H E hr =>
 (iss_cons (is_if (IW.it (iw_or (it_not (it_val (ie_isi T.b_isinstance T.b_tuple (ie_var 3) bt_tuple kt_tuple))) (iw_or (it_cmp (om_eq hr.units) (ie_callB cm_len (by rfl) T.b_len PySem.boot_len (ia_cons (ie_var 3) ia_nil)) ie_int (nomark _)) (iw_or1 (it_not (it_val (ie_callB (cm_all rfl) (by rfl) T.b_all PyProof.Rows.boot_all (ia_cons (ie_lc (own := [("row", 6)]) rfl sc_shows_halves.nd rfl (ii_iter (ie_var 3)) (blkOk_by (show blkC ["ring", "some", "number", "paper", "one", "other", "row", "house"] (defScope s_shows_halves) _ _ = true from by decide +kernel)) (fun _ _ _ _ _ => (ig_name 6 sc_shows_halves.nd)) (fun _ _ _ _ _ => its_nil) (fun _ _ _ _ _ => (ie_call (ok_are_rows T) (hr.mono (by omega)) T.f_are_rows.m T.f_are_rows.F.kp T.f_are_rows.b (ia_cons (ie_var 6) (ia_cons ie_int ia_nil))))) ia_nil))))))))
 (iss_one (is_ret ie_bl))
 iss_nil)
 (iss_cons (is_if (IW.it (iw_or (it_cmp (om_ne hr.units) (ie_ix ix_m (ie_var 3) ie_int (fun _ _ => rfl)) (ie_callTy cm_tuple (by rfl) T.b_tuple PyProof.Rows.boot_tuple (ia_cons (ie_lc (own := [("house", 7)]) rfl sc_shows_halves.nd rfl (ii_iter (ie_var 1)) (blkOk_by (show blkC ["ring", "some", "number", "paper", "one", "other", "row", "house"] (defScope s_shows_halves) _ _ = true from by decide +kernel)) (fun _ _ _ _ _ => (ig_name 7 sc_shows_halves.nd)) (fun _ _ _ _ _ => its_nil) (fun _ _ _ _ _ => (ie_tup (ia_cons (ie_var 7) (ia_cons (ie_ix ix_m (ie_var 0) (ie_var 7) (fun _ _ => rfl)) ia_nil))))) ia_nil)) (nomark _)) (iw_or1 (it_cmp (om_ne hr.units) (ie_callB cm_len (by rfl) T.b_len PySem.boot_len (ia_cons (ie_ix ix_m (ie_var 3) (ie_un um_neg ie_int) (fun _ _ => rfl)) ia_nil)) ie_int (nomark _)))))
 (iss_one (is_ret ie_bl))
 iss_nil)
 (iss_cons (is_if (it_not (it_val (ie_callB (cm_all rfl) (by rfl) T.b_all PyProof.Rows.boot_all (ia_cons (ie_lc (own := [("one", 4), ("other", 5)]) rfl sc_shows_halves.nd rfl (ii_zip T.b_zip (ie_var 3) (ie_slice (ie_var 3) (io_some ie_int) io_none)) (blkOk_by (show blkC ["ring", "some", "number", "paper", "one", "other", "row", "house"] (defScope s_shows_halves) _ _ = true from by decide +kernel)) (fun _ _ _ _ _ => (ig_tup rfl (ig_cons (ig_name 4 sc_shows_halves.nd) (ig_cons (ig_name 5 sc_shows_halves.nd) ig_nil)))) (fun _ _ _ _ _ => its_nil) (fun _ _ _ _ _ => (ie_and (ie_cmp om_gtI (ie_callB cm_len (by rfl) T.b_len PySem.boot_len (ia_cons (ie_var 4) ia_nil)) ie_int (nomark _)) (ie_one (ie_cmp (om_eq hr.units) (ie_call (ok_next_row T) (hr.mono (by omega)) T.f_next_row.m T.f_next_row.F.kp T.f_next_row.b (ia_cons (ie_var 4) ia_nil)) (ie_var 5) (nomark _)))))) ia_nil))))
 (iss_one (is_ret ie_bl))
 iss_nil)
 (iss_one (is_ret (ie_cmp (om_eq hr.units) (ie_var 2) (ie_op om_mul (ie_op om_mul ie_int (ie_callB cm_len (by rfl) T.b_len PySem.boot_len (ia_cons (ie_var 0) ia_nil))) (ie_callB cm_len (by rfl) T.b_len PySem.boot_len (ia_cons (ie_var 3) ia_nil))) (nomark _))))))))
  p_shows_halves
theorem ok_shows_sum (T : Txt K mg) : FnOk P w K mg base CX0 4 T.f_shows_sum.a T.f_shows_sum.fd ["way", "ring", "some", "number", "paper"] (liftSp K c_shows_sum) :=
  fnM (k := 3) (N := ["way", "ring", "some", "number", "paper"]) (m := m_shows_sum) T.f_shows_sum.F sc_shows_sum len_shows_sum (fun cdv A outer s H E hr =>
 (iss_cons (is_if (it_not (it_val (ie_call (ok_is_whole T) (hr.mono (by omega)) T.f_is_whole.m T.f_is_whole.F.kp T.f_is_whole.b (ia_cons (ie_var 3) ia_nil))))
 (iss_one (is_ret ie_bl))
 iss_nil)
 (iss_cons (is_if (it_cmp (om_eq hr.units) (ie_var 0) ie_str (nomark _))
 (iss_one (is_ret (ie_call (ok_shows_round T) (hr.mono (by omega)) T.f_shows_round.m T.f_shows_round.F.kp T.f_shows_round.b (ia_cons (ie_var 1) (ia_cons (ie_var 2) (ia_cons (ie_var 3) (ia_cons (ie_var 4) ia_nil)))))))
 iss_nil)
 (iss_cons (is_if (it_cmp (om_eq hr.units) (ie_var 0) ie_str (nomark _))
 (iss_one (is_ret (ie_call (ok_shows_halves T) (hr.mono (by omega)) T.f_shows_halves.m T.f_shows_halves.F.kp T.f_shows_halves.b (ia_cons (ie_var 1) (ia_cons (ie_var 2) (ia_cons (ie_var 3) (ia_cons (ie_var 4) ia_nil)))))))
 iss_nil)
 (iss_cons (is_if (it_cmp (om_eq hr.units) (ie_var 0) ie_str (nomark _))
 (iss_one (is_ret (ie_call (ok_shows_reach T) (hr.mono (by omega)) T.f_shows_reach.m T.f_shows_reach.F.kp T.f_shows_reach.b (ia_cons (ie_var 1) (ia_cons (ie_var 2) (ia_cons (ie_var 3) (ia_cons (ie_var 4) ia_nil)))))))
 iss_nil)
 (iss_one (is_ret (ie_and (ie_isi T.b_isinstance T.b_tuple (ie_var 4) bt_tuple kt_tuple) (ie_and (ie_cmp (om_eq hr.units) (ie_callB cm_len (by rfl) T.b_len PySem.boot_len (ia_cons (ie_var 4) ia_nil)) ie_int (nomark _)) (ie_one (ie_cmp (om_eq hr.units) (ie_var 3) (ie_op om_mul (ie_callB cm_len (by rfl) T.b_len PySem.boot_len (ia_cons (ie_var 1) ia_nil)) (ie_op om_sub (ie_callB cm_len (by rfl) T.b_len PySem.boot_len (ia_cons (ie_var 1) ia_nil)) ie_int)) (nomark _))))))))))))
  p_shows_sum
theorem ok_law_hand (T : Txt K mg) : FnOk P w K mg base CX0 1 T.f_law_hand.a T.f_law_hand.fd ["_law_script", "_law_k"] (liftSp K c_law_hand) :=
  fnM (k := 0) (N := ["_law_script", "_law_k", "_law_cell"]) (m := m_law_hand) T.f_law_hand.F sc_law_hand len_law_hand (fun cdv A outer s H E hr =>
 (iss_cons (is_set 2 sc_law_hand.nd ie_int)
 (iss_cons (is_if (it_cmp om_ltI (ie_var 1) (ie_callB cm_len (by rfl) T.b_len PySem.boot_len (ia_cons (ie_var 0) ia_nil)) (nomark _))
 (iss_one (is_set 2 sc_law_hand.nd (ie_ix ix_m (ie_var 0) (ie_var 1) (fun _ _ => rfl))))
 iss_nil)
 (iss_one (is_ret (ie_lst (ia_cons (ie_op om_mul (ie_var 2) (ie_callTy cm_int (by rfl) T.b_int PyProof.Rows.boot_int (ia_cons (ie_cmp om_geI (ie_var 2) (ie_op om_pow ie_int ie_int) (nomark _)) ia_nil))) (ia_cons (ie_op om_add (ie_op om_add (ie_op om_mod (ie_var 2) ie_int) (ie_op om_mul ie_int (ie_var 1))) ie_int) (ia_cons ie_int ia_nil)))))))))
  p_law_hand
theorem ok_law_take (T : Txt K mg) : FnOk P w K mg base CX0 1 T.f_law_take.a T.f_law_take.fd ["_law_from", "_law_many"] (liftSp K c_law_take) :=
  fnM (k := 0) (N := ["_law_from", "_law_many", "_law_turn", "_law_mixed", "_law_digit"]) (m := m_law_take) T.f_law_take.F sc_law_take len_law_take (fun cdv A outer s H E hr =>
 (iss_cons (is_if (it_cmp om_gtI (ie_ix ix_m (ie_var 0) ie_int (fun _ _ => rfl)) ie_int (nomark _))
 (iss_cons (is_set 4 sc_law_take.nd (ie_op om_mod (ie_ix ix_m (ie_var 0) ie_int (fun _ _ => rfl)) (ie_var 1)))
 (iss_cons (is_put se_list (ie_op om_fdiv (ie_ix ix_m (ie_var 0) ie_int (fun _ _ => rfl)) (ie_var 1)) (ie_var 0) ie_int)
 (iss_one (is_ret (ie_var 4)))))
 iss_nil)
 (iss_cons (is_put se_list (ie_op om_add (ie_ix ix_m (ie_var 0) ie_int (fun _ _ => rfl)) ie_int) (ie_var 0) ie_int)
 (iss_cons (is_set 2 sc_law_take.nd (ie_ix ix_m (ie_var 0) ie_int (fun _ _ => rfl)))
 (iss_cons (is_set 3 sc_law_take.nd (ie_op om_mod (ie_op om_add (ie_op om_mul (ie_ix ix_m (ie_var 0) ie_int (fun _ _ => rfl)) (ie_op om_add ie_int (ie_op om_mul (ie_op om_mul ie_int (ie_var 2)) (ie_var 2)))) (ie_op om_mul ie_int (ie_var 2))) ie_int))
 (iss_cons (is_set 3 sc_law_take.nd (ie_op om_mod (ie_op om_mul (ie_var 3) (ie_op om_add (ie_op om_add (ie_op om_mod (ie_var 3) ie_int) (ie_op om_mul ie_int (ie_var 2))) ie_int)) ie_int))
 (iss_one (is_ret (ie_op om_mod (ie_op om_add (ie_op om_fdiv (ie_var 3) ie_int) (ie_op om_fdiv (ie_var 3) ie_int)) (ie_var 1))))))))))
  p_law_take
theorem ok_law_order (T : Txt K mg) : FnOk P w K mg base CX0 2 T.f_law_order.a T.f_law_order.fd ["_law_from", "_law_many"] (liftSp K c_law_order) :=
  fnM (k := 1) (N := ["_law_from", "_law_many", "_law_way", "_law_turn", "_law_left", "_law_k"]) (m := m_law_order) T.f_law_order.F sc_law_order len_law_order (fun cdv A outer s H E hr =>
 (iss_cons (is_set 2 sc_law_order.nd (ie_call (ok_law_take T) (hr.mono (by omega)) T.f_law_take.m T.f_law_take.F.kp T.f_law_take.b (ia_cons (ie_var 0) (ia_cons ie_int ia_nil))))
 (iss_cons (is_set 3 sc_law_order.nd (ie_call (ok_law_take T) (hr.mono (by omega)) T.f_law_take.m T.f_law_take.F.kp T.f_law_take.b (ia_cons (ie_var 0) (ia_cons (ie_var 1) ia_nil))))
 (iss_cons (is_set 4 sc_law_order.nd (ie_lc (own := [("_law_k", 5)]) rfl sc_law_order.nd rfl (ii_range1 T.b_range (ie_var 1)) (blkOk_by (show blkC ["_law_from", "_law_many", "_law_way", "_law_turn", "_law_left", "_law_k"] (defScope s_law_order) _ _ = true from by decide +kernel)) (fun _ _ _ _ _ => (ig_name 5 sc_law_order.nd)) (fun _ _ _ _ _ => its_nil) (fun _ _ _ _ _ => (ie_op om_mod (ie_op om_add (ie_var 3) (ie_var 5)) (ie_var 1)))))
 (iss_cons (is_if (it_cmp (om_eq hr.units) (ie_var 2) ie_int (nomark _))
 (iss_one (is_ret (ie_var 4)))
 iss_nil)
 (iss_cons (is_if (it_cmp (om_eq hr.units) (ie_var 2) ie_int (nomark _))
 (iss_one (is_ret (ie_step (ie_var 4) (ie_un um_neg ie_int))))
 iss_nil)
 (iss_one (is_ret (ie_lc (own := [("_law_k", 5)]) rfl sc_law_order.nd rfl (ii_range1 T.b_range (ie_var 1)) (blkOk_by (show blkC ["_law_from", "_law_many", "_law_way", "_law_turn", "_law_left", "_law_k"] (defScope s_law_order) _ _ = true from by decide +kernel)) (fun _ _ _ _ _ => (ig_name 5 sc_law_order.nd)) (fun _ _ _ _ _ => its_nil) (fun _ _ _ _ _ => (ie_bm PySem.F.plainAttrs_list PySem.F.slot_list_pop PySem.F.type_list_pop mi_popAt (ie_var 4) (ia_cons (ie_call (ok_law_take T) (hr.mono (by omega)) T.f_law_take.m T.f_law_take.F.kp T.f_law_take.b (ia_cons (ie_var 0) (ia_cons (ie_callB cm_len (by rfl) T.b_len PySem.boot_len (ia_cons (ie_var 4) ia_nil)) ia_nil))) ia_nil))))))))))))
  p_law_order
theorem ok_law_ring (T : Txt K mg) : FnOk P w K mg base CX0 3 T.f_law_ring.a T.f_law_ring.fd ["_law_from", "_law_many"] (liftSp K c_law_ring) :=
  fnM (k := 2) (N := ["_law_from", "_law_many", "_law_order_here", "_law_k"]) (m := m_law_ring) T.f_law_ring.F sc_law_ring len_law_ring (fun cdv A outer s H E hr =>
 (iss_cons (is_set 2 sc_law_ring.nd (ie_call (ok_law_order T) (hr.mono (by omega)) T.f_law_order.m T.f_law_order.F.kp T.f_law_order.b (ia_cons (ie_var 0) (ia_cons (ie_var 1) ia_nil))))
 (iss_cons (is_if (it_cmp (om_eq hr.units) (ie_call (ok_law_take T) (hr.mono (by omega)) T.f_law_take.m T.f_law_take.F.kp T.f_law_take.b (ia_cons (ie_var 0) (ia_cons ie_int ia_nil))) ie_int (nomark _))
 (iss_one (is_ret (ie_callTy cm_tuple (by rfl) T.b_tuple PyProof.Rows.boot_tuple (ia_cons (ie_lc (own := [("_law_k", 3)]) rfl sc_law_ring.nd rfl (ii_iter (ie_var 2)) (blkOk_by (show blkC ["_law_from", "_law_many", "_law_order_here", "_law_k"] (defScope s_law_ring) _ _ = true from by decide +kernel)) (fun _ _ _ _ _ => (ig_name 3 sc_law_ring.nd)) (fun _ _ _ _ _ => its_nil) (fun _ _ _ _ _ => (ie_op om_add (ie_op om_mul (ie_var 3) ie_int) (ie_call (ok_law_take T) (hr.mono (by omega)) T.f_law_take.m T.f_law_take.F.kp T.f_law_take.b (ia_cons (ie_var 0) (ia_cons (ie_op om_pow ie_int ie_int) ia_nil)))))) ia_nil))))
 iss_nil)
 (iss_one (is_ret (ie_callTy cm_tuple (by rfl) T.b_tuple PyProof.Rows.boot_tuple (ia_cons (ie_var 2) ia_nil)))))))
  p_law_ring
theorem ok_law_some (T : Txt K mg) : FnOk P w K mg base CX0 2 T.f_law_some.a T.f_law_some.fd ["_law_from", "_law_many"] (liftSp K c_law_some) :=
  fnM (k := 1) (N := ["_law_from", "_law_many", "_law_way", "_law_one", "_law_k"]) (m := m_law_some) T.f_law_some.F sc_law_some len_law_some (fun cdv A outer s H E hr =>
 (iss_cons (is_set 2 sc_law_some.nd (ie_call (ok_law_take T) (hr.mono (by omega)) T.f_law_take.m T.f_law_take.F.kp T.f_law_take.b (ia_cons (ie_var 0) (ia_cons ie_int ia_nil))))
 (iss_cons (is_if (it_cmp (om_eq hr.units) (ie_var 2) ie_int (nomark _))
 (iss_one (is_ret (ie_tupR1 T.b_tuple T.b_range (ie_var 1))))
 iss_nil)
 (iss_cons (is_set 3 sc_law_some.nd (ie_call (ok_law_take T) (hr.mono (by omega)) T.f_law_take.m T.f_law_take.F.kp T.f_law_take.b (ia_cons (ie_var 0) (ia_cons (ie_var 1) ia_nil))))
 (iss_cons (is_if (it_cmp (om_eq hr.units) (ie_var 2) ie_int (nomark _))
 (iss_one (is_ret (ie_tup (ia_cons (ie_var 3) ia_nil))))
 iss_nil)
 (iss_one (is_ret (ie_callTy cm_tuple (by rfl) T.b_tuple PyProof.Rows.boot_tuple (ia_cons (ie_lc (own := [("_law_k", 4)]) rfl sc_law_some.nd rfl (ii_range1 T.b_range (ie_var 1)) (blkOk_by (show blkC ["_law_from", "_law_many", "_law_way", "_law_one", "_law_k"] (defScope s_law_some) _ _ = true from by decide +kernel)) (fun _ _ _ _ _ => (ig_name 4 sc_law_some.nd)) (fun _ _ _ _ _ => (its_one (IW.it (iw_or (it_cmp (om_eq hr.units) (ie_var 4) (ie_var 3) (nomark _)) (iw_or1 (it_cmp (om_eq hr.units) (ie_call (ok_law_take T) (hr.mono (by omega)) T.f_law_take.m T.f_law_take.F.kp T.f_law_take.b (ia_cons (ie_var 0) (ia_cons (ie_var 2) ia_nil))) ie_int (nomark _))))))) (fun _ _ _ _ _ => (ie_var 4))) ia_nil)))))))))
  p_law_some
theorem ok_law_size (T : Txt K mg) : FnOk P w K mg base CX0 2 T.f_law_size.a T.f_law_size.fd ["_law_from"] (liftSp K c_law_size) :=
  fnM (k := 1) (N := ["_law_from"]) (m := m_law_size) T.f_law_size.F sc_law_size len_law_size (fun cdv A outer s H E hr =>
 (iss_one (is_ret (ie_op om_add ie_int (ie_call (ok_law_take T) (hr.mono (by omega)) T.f_law_take.m T.f_law_take.F.kp T.f_law_take.b (ia_cons (ie_var 0) (ia_cons (ie_ix ix_m (ie_lst (ia_cons ie_int (ia_cons ie_int (ia_cons ie_int (ia_cons ie_int (ia_cons ie_int ia_nil)))))) (ie_call (ok_law_take T) (hr.mono (by omega)) T.f_law_take.m T.f_law_take.F.kp T.f_law_take.b (ia_cons (ie_var 0) (ia_cons ie_int ia_nil))) (fun _ _ => rfl)) ia_nil)))))))
  p_law_size
theorem ok_law_stop (T : Txt K mg) : FnOk P w K mg base CX0 1 T.f_law_stop.a T.f_law_stop.fd ["_law_ring_here", "_law_some_here", "_law_house", "_law_side"] (liftSp K c_law_stop) :=
  fnM (k := 0) (N := ["_law_ring_here", "_law_some_here", "_law_house", "_law_side", "_law_many", "_law_at", "_law_steps"]) (m := m_law_stop) T.f_law_stop.F sc_law_stop len_law_stop (fun cdv A outer s H E hr =>
 (iss_cons (is_set 4 sc_law_stop.nd (ie_callB cm_len (by rfl) T.b_len PySem.boot_len (ia_cons (ie_var 0) ia_nil)))
 (iss_cons (is_set 5 sc_law_stop.nd (ie_var 2))
 (iss_cons (is_for PassesOwn.never rfl (ii_range2 T.b_range ie_int (ie_var 4)) (ig_name 6 sc_law_stop.nd)
 (iss_cons (is_set 5 sc_law_stop.nd (ie_op om_mod (ie_op om_add (ie_var 5) (ie_var 3)) (ie_var 4)))
 (iss_one (is_if (IW.it (iw_and (it_cmp om_in (ie_var 5) (ie_var 1) (by rfl)) (iw_and1 (it_cmp om_gtI (ie_ix ix_m (ie_var 0) (ie_var 5) (fun _ _ => rfl)) (ie_ix ix_m (ie_var 0) (ie_var 2) (fun _ _ => rfl)) (nomark _)))))
 (iss_one (is_ret (ie_var 6)))
 iss_nil))))
 (iss_one (is_ret (ie_var 4)))))))
  p_law_stop
theorem ok_law_reach (T : Txt K mg) : FnOk P w K mg base CX0 1 T.f_law_reach.a T.f_law_reach.fd ["_law_left", "_law_right_here"] (liftSp K c_law_reach) :=
  fnM (k := 0) (N := ["_law_left", "_law_right_here", "_law_total", "_law_k", "_law_far", "_law_stop_here"]) (m := m_law_reach) T.f_law_reach.F sc_law_reach len_law_reach (fun cdv A outer s H E hr =>
 (iss_cons (is_set 2 sc_law_reach.nd ie_int)
 (iss_cons (is_for PassesOwn.never rfl (ii_range1 T.b_range ie_int) (ig_name 3 sc_law_reach.nd)
 (iss_cons (is_set 4 sc_law_reach.nd (ie_op om_shl ie_int (ie_var 3)))
 (iss_cons (is_for PassesOwn.never rfl (ii_iter (ie_tup (ia_cons (ie_var 0) (ia_cons (ie_var 1) ia_nil)))) (ig_name 5 sc_law_reach.nd)
 (iss_cons (is_set 2 sc_law_reach.nd (ie_op om_add (ie_var 2) (ie_callB (cm_min2 rfl) (by rfl) T.b_min PyProof.Rows.boot_min (ia_cons (ie_var 4) (ia_cons (ie_var 5) ia_nil)))))
 (iss_one (is_if (it_cmp om_gtI (ie_var 5) (ie_var 4) (nomark _))
 (iss_one (is_set 2 sc_law_reach.nd (ie_op om_add (ie_var 2) (ie_var 4))))
 iss_nil))))
 (iss_one (is_if (it_cmp om_leI (ie_callB (cm_min2 rfl) (by rfl) T.b_min PyProof.Rows.boot_min (ia_cons (ie_var 0) (ia_cons (ie_var 1) ia_nil))) (ie_var 4) (nomark _))
 (iss_one is_break)
 iss_nil)))))
 (iss_one (is_ret (ie_var 2))))))
  p_law_reach
theorem ok_law_phases (T : Txt K mg) : FnOk P w K mg base CX0 1 T.f_law_phases.a T.f_law_phases.fd ["_law_ring_here", "_law_some_here"] (liftSp K c_law_phases) :=
  fnM (k := 0) (N := ["_law_ring_here", "_law_some_here", "_law_houses", "_law_held", "_law_rows", "_law_size_here", "_law_stay", "_law_k", "_law_near", "_law_house", "_law_name"]) (m := m_law_phases) T.f_law_phases.F sc_law_phases len_law_phases (fun cdv A outer s H E hr =>
 (iss_cons (is_set 2 sc_law_phases.nd (ie_callTy cm_list (by rfl) T.b_list PyProof.Rows.boot_list (ia_cons (ie_var 1) ia_nil)))
 (iss_cons (is_setLc 3 (own := [("_law_house", 9)]) rfl sc_law_phases.nd rfl rfl rfl (sw_true rfl rfl rfl (by decide +kernel)) (ii_iter (ie_var 2)) (blkOk_by (show blkC ["_law_ring_here", "_law_some_here", "_law_houses", "_law_held", "_law_rows", "_law_size_here", "_law_stay", "_law_k", "_law_near", "_law_house", "_law_name"] (defScope s_law_phases) _ _ = true from by decide +kernel)) (fun _ _ _ _ _ => (ig_name 9 sc_law_phases.nd)) (fun _ _ _ _ _ => its_nil) (fun _ _ _ _ _ => (ie_ix ix_m (ie_var 0) (ie_var 9) (fun _ _ => rfl))))
 (iss_cons (is_set 4 sc_law_phases.nd (ie_lst (ia_cons (ie_callTy cm_tuple (by rfl) T.b_tuple PyProof.Rows.boot_tuple (ia_cons (ie_lstZip T.b_list T.b_zip (ie_var 2) (ie_var 3)) ia_nil)) ia_nil)))
 (iss_cons (is_while PassesOwn.never (it_cmp om_gtI (ie_callB cm_len (by rfl) T.b_len PySem.boot_len (ia_cons (ie_var 2) ia_nil)) ie_int (nomark _))
 (iss_cons (is_set 5 sc_law_phases.nd (ie_callB cm_len (by rfl) T.b_len PySem.boot_len (ia_cons (ie_var 2) ia_nil)))
 (iss_cons (is_set 6 sc_law_phases.nd (ie_lst ia_nil))
 (iss_cons (is_for PassesOwn.never rfl (ii_range1 T.b_range (ie_var 5)) (ig_name 7 sc_law_phases.nd)
 (iss_cons (is_set 8 sc_law_phases.nd (ie_ix ix_m (ie_var 3) (ie_op om_mod (ie_op om_sub (ie_op om_add (ie_var 7) (ie_var 5)) ie_int) (ie_var 5)) (fun _ _ => rfl)))
 (iss_one (is_if (it_cmp om_gtI (ie_var 8) (ie_callB (cm_max2 rfl) (by rfl) T.b_max PyProof.Rows.boot_max (ia_cons (ie_ix ix_m (ie_var 3) (ie_var 7) (fun _ _ => rfl)) (ia_cons (ie_ix ix_m (ie_var 3) (ie_op om_mod (ie_op om_sub (ie_op om_add (ie_var 7) (ie_var 5)) ie_int) (ie_var 5)) (fun _ _ => rfl)) ia_nil))) (nomark _))
 (iss_one (is_expr (ie_bm PySem.F.plainAttrs_list PySem.F.slot_list_append PySem.F.type_list_append mi_append (ie_var 6) (ia_cons (ie_tup (ia_cons (ie_ix ix_m (ie_var 2) (ie_var 7) (fun _ _ => rfl)) (ia_cons (ie_var 8) ia_nil))) ia_nil))))
 iss_nil))))
 (iss_cons (is_expr (ie_bm PySem.F.plainAttrs_list PySem.F.slot_list_append PySem.F.type_list_append mi_append (ie_var 4) (ia_cons (ie_callTy cm_tuple (by rfl) T.b_tuple PyProof.Rows.boot_tuple (ia_cons (ie_var 6) ia_nil)) ia_nil)))
 (iss_cons (is_setLc 2 (own := [("_law_house", 9), ("_law_name", 10)]) rfl sc_law_phases.nd rfl rfl rfl (sw_true rfl rfl rfl (by decide +kernel)) (ii_iter (ie_var 6)) (blkOk_by (show blkC ["_law_ring_here", "_law_some_here", "_law_houses", "_law_held", "_law_rows", "_law_size_here", "_law_stay", "_law_k", "_law_near", "_law_house", "_law_name"] (defScope s_law_phases) _ _ = true from by decide +kernel)) (fun _ _ _ _ _ => (ig_tup rfl (ig_cons (ig_name 9 sc_law_phases.nd) (ig_cons (ig_name 10 sc_law_phases.nd) ig_nil)))) (fun _ _ _ _ _ => its_nil) (fun _ _ _ _ _ => (ie_var 9)))
 (iss_one (is_setLc 3 (own := [("_law_house", 9), ("_law_name", 10)]) rfl sc_law_phases.nd rfl rfl rfl (sw_true rfl rfl rfl (by decide +kernel)) (ii_iter (ie_var 6)) (blkOk_by (show blkC ["_law_ring_here", "_law_some_here", "_law_houses", "_law_held", "_law_rows", "_law_size_here", "_law_stay", "_law_k", "_law_near", "_law_house", "_law_name"] (defScope s_law_phases) _ _ = true from by decide +kernel)) (fun _ _ _ _ _ => (ig_tup rfl (ig_cons (ig_name 9 sc_law_phases.nd) (ig_cons (ig_name 10 sc_law_phases.nd) ig_nil)))) (fun _ _ _ _ _ => its_nil) (fun _ _ _ _ _ => (ie_var 10))))))))))
 (iss_one (is_ret (ie_callTy cm_tuple (by rfl) T.b_tuple PyProof.Rows.boot_tuple (ia_cons (ie_var 4) ia_nil)))))))))
  p_law_phases
theorem ok_law_told (T : Txt K mg) : FnOk P w K mg base CX0 2 T.f_law_told.a T.f_law_told.fd ["_law_way", "_law_ring_here", "_law_some_here"] (liftSp K c_law_told) :=
  fnM (k := 1) (N := ["_law_way", "_law_ring_here", "_law_some_here", "_law_many", "_law_total", "_law_house", "_law_right_here", "_law_left"]) (m := m_law_told) T.f_law_told.F sc_law_told len_law_told (fun cdv A outer s H E hr =>
 (iss_cons (is_set 3 sc_law_told.nd (ie_callB cm_len (by rfl) T.b_len PySem.boot_len (ia_cons (ie_var 1) ia_nil)))
 (iss_cons (is_if (it_cmp (om_eq hr.units) (ie_var 0) ie_str (nomark _))
 (iss_one (is_ret (ie_op om_mul (ie_var 3) (ie_op om_sub (ie_var 3) ie_int))))
 iss_nil)
 (iss_cons (is_if (it_cmp (om_eq hr.units) (ie_var 0) ie_str (nomark _))
 (iss_one (is_ret (ie_op om_mul (ie_op om_mul ie_int (ie_var 3)) (ie_callB cm_len (by rfl) T.b_len PySem.boot_len (ia_cons (ie_call (ok_law_phases T) (hr.mono (by omega)) T.f_law_phases.m T.f_law_phases.F.kp T.f_law_phases.b (ia_cons (ie_var 1) (ia_cons (ie_var 2) ia_nil))) ia_nil)))))
 iss_nil)
 (iss_cons (is_set 4 sc_law_told.nd (ie_var 3))
 (iss_cons (is_for PassesOwn.never rfl (ii_iter (ie_var 2)) (ig_name 5 sc_law_told.nd)
 (iss_cons (is_set 6 sc_law_told.nd (ie_call (ok_law_stop T) (hr.mono (by omega)) T.f_law_stop.m T.f_law_stop.F.kp T.f_law_stop.b (ia_cons (ie_var 1) (ia_cons (ie_var 2) (ia_cons (ie_var 5) (ia_cons ie_int ia_nil))))))
 (iss_one (is_if (it_cmp (om_eq hr.units) (ie_var 0) ie_str (nomark _))
 (iss_one (is_set 4 sc_law_told.nd (ie_op om_add (ie_var 4) (ie_var 6))))
 (iss_cons (is_set 7 sc_law_told.nd (ie_call (ok_law_stop T) (hr.mono (by omega)) T.f_law_stop.m T.f_law_stop.F.kp T.f_law_stop.b (ia_cons (ie_var 1) (ia_cons (ie_var 2) (ia_cons (ie_var 5) (ia_cons (ie_un um_neg ie_int) ia_nil))))))
 (iss_one (is_set 4 sc_law_told.nd (ie_op om_add (ie_var 4) (ie_call (ok_law_reach T) (hr.mono (by omega)) T.f_law_reach.m T.f_law_reach.F.kp T.f_law_reach.b (ia_cons (ie_var 7) (ia_cons (ie_var 6) ia_nil)))))))))))
 (iss_one (is_ret (ie_var 4)))))))))
  p_law_told
theorem ok_law_paper (T : Txt K mg) : FnOk P w K mg base CX0 2 T.f_law_paper.a T.f_law_paper.fd ["_law_way", "_law_ring_here", "_law_some_here"] (liftSp K c_law_paper) :=
  fnM (k := 1) (N := ["_law_way", "_law_ring_here", "_law_some_here", "_law_rows", "_law_house", "_law_row"]) (m := m_law_paper) T.f_law_paper.F sc_law_paper len_law_paper (fun cdv A outer s H E hr =>
 (iss_cons (is_if (it_cmp (om_eq hr.units) (ie_var 0) ie_str (nomark _))
 (iss_one (is_ret (ie_tup ia_nil)))
 iss_nil)
 (iss_cons (is_if (it_cmp (om_eq hr.units) (ie_var 0) ie_str (nomark _))
 (iss_one (is_ret (ie_call (ok_law_phases T) (hr.mono (by omega)) T.f_law_phases.m T.f_law_phases.F.kp T.f_law_phases.b (ia_cons (ie_var 1) (ia_cons (ie_var 2) ia_nil)))))
 iss_nil)
 (iss_cons (is_set 3 sc_law_paper.nd (ie_lst ia_nil))
 (iss_cons (is_for PassesOwn.never rfl (ii_iter (ie_var 2)) (ig_name 4 sc_law_paper.nd)
 (iss_cons (is_set 5 sc_law_paper.nd (ie_tup (ia_cons (ie_var 4) ia_nil)))
 (iss_cons (is_if (it_cmp (om_eq hr.units) (ie_var 0) ie_str (nomark _))
 (iss_one (is_set 5 sc_law_paper.nd (ie_op om_add (ie_var 5) (ie_tup (ia_cons (ie_call (ok_law_stop T) (hr.mono (by omega)) T.f_law_stop.m T.f_law_stop.F.kp T.f_law_stop.b (ia_cons (ie_var 1) (ia_cons (ie_var 2) (ia_cons (ie_var 4) (ia_cons (ie_un um_neg ie_int) ia_nil))))) ia_nil)))))
 iss_nil)
 (iss_one (is_expr (ie_bm PySem.F.plainAttrs_list PySem.F.slot_list_append PySem.F.type_list_append mi_append (ie_var 3) (ia_cons (ie_op om_add (ie_var 5) (ie_tup (ia_cons (ie_call (ok_law_stop T) (hr.mono (by omega)) T.f_law_stop.m T.f_law_stop.F.kp T.f_law_stop.b (ia_cons (ie_var 1) (ia_cons (ie_var 2) (ia_cons (ie_var 4) (ia_cons ie_int ia_nil))))) ia_nil))) ia_nil)))))))
 (iss_one (is_ret (ie_callTy cm_tuple (by rfl) T.b_tuple PyProof.Rows.boot_tuple (ia_cons (ie_var 3) ia_nil)))))))))
  p_law_paper
theorem ok_law_word (T : Txt K mg) : FnOk P w K mg base CX0 2 T.f_law_word.a T.f_law_word.fd ["_law_from", "_law_many"] (liftSp K c_law_word) :=
  fnM (k := 1) (N := ["_law_from", "_law_many", "_law_most", "_law_k"]) (m := m_law_word) T.f_law_word.F sc_law_word len_law_word (fun cdv A outer s H E hr =>
 (iss_cons (is_set 2 sc_law_word.nd (ie_ix ix_m (ie_lst (ia_cons ie_int (ia_cons ie_int (ia_cons ie_int (ia_cons ie_int ia_nil))))) (ie_call (ok_law_take T) (hr.mono (by omega)) T.f_law_take.m T.f_law_take.F.kp T.f_law_take.b (ia_cons (ie_var 0) (ia_cons ie_int ia_nil))) (fun _ _ => rfl)))
 (iss_one (is_ret (ie_callTy cm_tuple (by rfl) T.b_tuple PyProof.Rows.boot_tuple (ia_cons (ie_lc (own := [("_law_k", 3)]) rfl sc_law_word.nd rfl (ii_range1 T.b_range (ie_var 1)) (blkOk_by (show blkC ["_law_from", "_law_many", "_law_most", "_law_k"] (defScope s_law_word) _ _ = true from by decide +kernel)) (fun _ _ _ _ _ => (ig_name 3 sc_law_word.nd)) (fun _ _ _ _ _ => its_nil) (fun _ _ _ _ _ => (ie_call (ok_law_take T) (hr.mono (by omega)) T.f_law_take.m T.f_law_take.F.kp T.f_law_take.b (ia_cons (ie_var 0) (ia_cons (ie_var 2) ia_nil))))) ia_nil))))))
  p_law_word
theorem ok_law_nested (T : Txt K mg) : FnOk P w K mg base CX0 1 T.f_law_nested.a T.f_law_nested.fd ["_law_deep", "_law_listed"] (liftSp K c_law_nested) :=
  fnM (k := 0) (N := ["_law_deep", "_law_listed", "_law_thing", "_law_k"]) (m := m_law_nested) T.f_law_nested.F sc_law_nested len_law_nested (fun cdv A outer s H E hr =>
 (iss_cons (is_set 2 sc_law_nested.nd ie_int)
 (iss_cons (is_for PassesOwn.never rfl (ii_range1 T.b_range (ie_var 0)) (ig_name 3 sc_law_nested.nd)
 (iss_one (is_set 2 sc_law_nested.nd (ie_ifE (it_val (ie_var 1)) (ie_lst (ia_cons (ie_var 2) ia_nil)) (ie_tup (ia_cons (ie_var 2) ia_nil))))))
 (iss_one (is_ret (ie_var 2))))))
  p_law_nested
theorem ok_law_odd (T : Txt K mg) : FnOk P w K mg base CX0 2 T.f_law_odd.a T.f_law_odd.fd ["_law_from"] (liftSp K c_law_odd) :=
  fnM (k := 1) (N := ["_law_from", "_law_deep", "_law_some_odd"]) (m := m_law_odd) T.f_law_odd.F sc_law_odd len_law_odd (fun cdv A outer s H E hr =>
 (iss_cons (is_set 1 sc_law_odd.nd (ie_op om_add ie_int (ie_call (ok_law_take T) (hr.mono (by omega)) T.f_law_take.m T.f_law_take.F.kp T.f_law_take.b (ia_cons (ie_var 0) (ia_cons ie_int ia_nil)))))
 (iss_cons (is_set 2 sc_law_odd.nd (ie_lst (ia_cons ie_non (ia_cons ie_str (ia_cons ie_str (ia_cons (ie_lst ia_nil) (ia_cons ie_disp0 (ia_cons ie_disp1i (ia_cons ie_bl (ia_cons ie_bl (ia_cons (ie_call (ok_law_nested T) (hr.mono (by omega)) T.f_law_nested.m T.f_law_nested.F.kp T.f_law_nested.b (ia_cons (ie_var 1) (ia_cons ie_bl ia_nil))) (ia_cons (ie_lst (ia_cons ie_int ia_nil)) (ia_cons (ie_dispN (kes := [(.inr "a", (mTup mNil))]) (pps_cons pe_str (ie_tup ia_nil) pps_nil) (by decide +kernel) (by decide) rfl rfl (by simp) (by simp)) ia_nil)))))))))))))
 (iss_one (is_ret (ie_ix ix_m (ie_var 2) (ie_call (ok_law_take T) (hr.mono (by omega)) T.f_law_take.m T.f_law_take.F.kp T.f_law_take.b (ia_cons (ie_var 0) (ia_cons (ie_callB cm_len (by rfl) T.b_len PySem.boot_len (ia_cons (ie_var 2) ia_nil)) ia_nil))) (fun _ _ => rfl)))))))
  p_law_odd
theorem ok_law_put (T : Txt K mg) : FnOk P w K mg base CX0 1 T.f_law_put.a T.f_law_put.fd ["_law_things", "_law_at", "_law_thing"] (liftSp K c_law_put) :=
  fnM (k := 0) (N := ["_law_things", "_law_at", "_law_thing"]) (m := m_law_put) T.f_law_put.F sc_law_put len_law_put (fun cdv A outer s H E hr =>
 (iss_one (is_ret (ie_op om_add (ie_op om_add (ie_slice (ie_var 0) io_none (io_some (ie_var 1))) (ie_tup (ia_cons (ie_var 2) ia_nil))) (ie_slice (ie_var 0) (io_some (ie_op om_add (ie_var 1) ie_int)) io_none)))))
  p_law_put
theorem ok_law_kinds (T : Txt K mg) : FnOk P w K mg base CX0 2 T.f_law_kinds.a T.f_law_kinds.fd ["_law_rows"] (liftSp K c_law_kinds) :=
  fnM (k := 1) (N := ["_law_rows", "_law_found", "_law_row"]) (m := m_law_kinds) T.f_law_kinds.F sc_law_kinds len_law_kinds (fun cdv A outer s H E hr =>
 (iss_cons (is_set 1 sc_law_kinds.nd (ie_lst (ia_cons (ie_callTy cm_list (by rfl) T.b_list PyProof.Rows.boot_list (ia_cons (ie_var 0) ia_nil)) (ia_cons (ie_lc (own := [("_law_row", 2)]) rfl sc_law_kinds.nd rfl (ii_iter (ie_var 0)) (blkOk_by (show blkC ["_law_rows", "_law_found", "_law_row"] (defScope s_law_kinds) _ _ = true from by decide +kernel)) (fun _ _ _ _ _ => (ig_name 2 sc_law_kinds.nd)) (fun _ _ _ _ _ => its_nil) (fun _ _ _ _ _ => (ie_callTy cm_list (by rfl) T.b_list PyProof.Rows.boot_list (ia_cons (ie_var 2) ia_nil)))) (ia_cons (ie_tup (ia_cons (ie_var 0) ia_nil)) (ia_cons (ie_lst (ia_cons (ie_var 0) ia_nil)) ia_nil))))))
 (iss_cons (is_if (it_cmp (om_ne hr.units) (ie_var 0) (ie_tup ia_nil) (nomark _))
 (iss_cons (is_set 2 sc_law_kinds.nd (ie_ix ix_m (ie_var 0) ie_int (fun _ _ => rfl)))
 (iss_cons (is_set 1 sc_law_kinds.nd (ie_op om_add (ie_var 1) (ie_lst (ia_cons (ie_call (ok_law_put T) (hr.mono (by omega)) T.f_law_put.m T.f_law_put.F.kp T.f_law_put.b (ia_cons (ie_var 0) (ia_cons ie_int (ia_cons (ie_callTy cm_list (by rfl) T.b_list PyProof.Rows.boot_list (ia_cons (ie_var 2) ia_nil)) ia_nil)))) (ia_cons (ie_call (ok_law_put T) (hr.mono (by omega)) T.f_law_put.m T.f_law_put.F.kp T.f_law_put.b (ia_cons (ie_var 0) (ia_cons ie_int (ia_cons (ie_tup (ia_cons (ie_var 2) ia_nil)) ia_nil)))) ia_nil)))))
 (iss_cons (is_if (IW.it (iw_and (it_not (it_val (ie_isi T.b_isinstance T.b_tuple (ie_ix ix_m (ie_var 2) ie_int (fun _ _ => rfl)) bt_tuple kt_tuple))) (iw_and1 (it_cmp om_in (ie_ix ix_m (ie_var 2) ie_int (fun _ _ => rfl)) (ie_tup (ia_cons ie_int (ia_cons ie_int ia_nil))) (by rfl)))))
 (iss_one (is_expr (ie_bm PySem.F.plainAttrs_list PySem.F.slot_list_append PySem.F.type_list_append mi_append (ie_var 1) (ia_cons (ie_call (ok_law_put T) (hr.mono (by omega)) T.f_law_put.m T.f_law_put.F.kp T.f_law_put.b (ia_cons (ie_var 0) (ia_cons ie_int (ia_cons (ie_op om_add (ie_tup (ia_cons (ie_cmp (om_eq hr.units) (ie_ix ix_m (ie_var 2) ie_int (fun _ _ => rfl)) ie_int (nomark _)) ia_nil)) (ie_slice (ie_var 2) (io_some ie_int) io_none)) ia_nil)))) ia_nil))))
 iss_nil)
 (iss_one (is_if (IW.it (iw_and (it_not (it_val (ie_isi T.b_isinstance T.b_tuple (ie_ix ix_m (ie_var 2) ie_int (fun _ _ => rfl)) bt_tuple kt_tuple))) (iw_and1 (it_cmp (om_eq hr.units) (ie_ix ix_m (ie_var 2) (ie_un um_neg ie_int) (fun _ _ => rfl)) ie_int (nomark _)))))
 (iss_one (is_expr (ie_bm PySem.F.plainAttrs_list PySem.F.slot_list_append PySem.F.type_list_append mi_append (ie_var 1) (ia_cons (ie_call (ok_law_put T) (hr.mono (by omega)) T.f_law_put.m T.f_law_put.F.kp T.f_law_put.b (ia_cons (ie_var 0) (ia_cons ie_int (ia_cons (ie_op om_add (ie_slice (ie_var 2) io_none (io_some (ie_un um_neg ie_int))) (ie_tup (ia_cons ie_bl ia_nil))) ia_nil)))) ia_nil))))
 iss_nil)))))
 iss_nil)
 (iss_one (is_ret (ie_var 1))))))
  p_law_kinds
theorem ok_law_inside (T : Txt K mg) : FnOk P w K mg base CX0 3 T.f_law_inside.a T.f_law_inside.fd ["_law_from", "_law_rows"] (liftSp K c_law_inside) :=
  fnM (k := 2) (N := ["_law_from", "_law_rows", "_law_at", "_law_row", "_law_place", "_law_pair"]) (m := m_law_inside) T.f_law_inside.F sc_law_inside len_law_inside (fun cdv A outer s H E hr =>
 (iss_cons (is_set 2 sc_law_inside.nd (ie_call (ok_law_take T) (hr.mono (by omega)) T.f_law_take.m T.f_law_take.F.kp T.f_law_take.b (ia_cons (ie_var 0) (ia_cons (ie_callB cm_len (by rfl) T.b_len PySem.boot_len (ia_cons (ie_var 1) ia_nil)) ia_nil))))
 (iss_cons (is_set 3 sc_law_inside.nd (ie_ix ix_m (ie_var 1) (ie_var 2) (fun _ _ => rfl)))
 (iss_cons (is_if (it_cmp (om_eq hr.units) (ie_call (ok_law_take T) (hr.mono (by omega)) T.f_law_take.m T.f_law_take.F.kp T.f_law_take.b (ia_cons (ie_var 0) (ia_cons ie_int ia_nil))) ie_int (nomark _))
 (iss_one (is_ret (ie_call (ok_law_put T) (hr.mono (by omega)) T.f_law_put.m T.f_law_put.F.kp T.f_law_put.b (ia_cons (ie_var 1) (ia_cons (ie_var 2) (ia_cons (ie_call (ok_law_odd T) (hr.mono (by omega)) T.f_law_odd.m T.f_law_odd.F.kp T.f_law_odd.b (ia_cons (ie_var 0) ia_nil)) ia_nil))))))
 iss_nil)
 (iss_cons (is_set 4 sc_law_inside.nd (ie_call (ok_law_take T) (hr.mono (by omega)) T.f_law_take.m T.f_law_take.F.kp T.f_law_take.b (ia_cons (ie_var 0) (ia_cons (ie_callB cm_len (by rfl) T.b_len PySem.boot_len (ia_cons (ie_var 3) ia_nil)) ia_nil))))
 (iss_cons (is_if (IW.it (iw_or (it_not (it_val (ie_isi T.b_isinstance T.b_tuple (ie_ix ix_m (ie_var 3) (ie_var 4) (fun _ _ => rfl)) bt_tuple kt_tuple))) (iw_or1 (it_cmp (om_eq hr.units) (ie_call (ok_law_take T) (hr.mono (by omega)) T.f_law_take.m T.f_law_take.F.kp T.f_law_take.b (ia_cons (ie_var 0) (ia_cons ie_int ia_nil))) ie_int (nomark _)))))
 (iss_one (is_ret (ie_call (ok_law_put T) (hr.mono (by omega)) T.f_law_put.m T.f_law_put.F.kp T.f_law_put.b (ia_cons (ie_var 1) (ia_cons (ie_var 2) (ia_cons (ie_call (ok_law_put T) (hr.mono (by omega)) T.f_law_put.m T.f_law_put.F.kp T.f_law_put.b (ia_cons (ie_var 3) (ia_cons (ie_var 4) (ia_cons (ie_call (ok_law_odd T) (hr.mono (by omega)) T.f_law_odd.m T.f_law_odd.F.kp T.f_law_odd.b (ia_cons (ie_var 0) ia_nil)) ia_nil)))) ia_nil))))))
 iss_nil)
 (iss_cons (is_set 5 sc_law_inside.nd (ie_call (ok_law_put T) (hr.mono (by omega)) T.f_law_put.m T.f_law_put.F.kp T.f_law_put.b (ia_cons (ie_ix ix_m (ie_var 3) (ie_var 4) (fun _ _ => rfl)) (ia_cons (ie_call (ok_law_take T) (hr.mono (by omega)) T.f_law_take.m T.f_law_take.F.kp T.f_law_take.b (ia_cons (ie_var 0) (ia_cons ie_int ia_nil))) (ia_cons (ie_call (ok_law_odd T) (hr.mono (by omega)) T.f_law_odd.m T.f_law_odd.F.kp T.f_law_odd.b (ia_cons (ie_var 0) ia_nil)) ia_nil)))))
 (iss_one (is_ret (ie_call (ok_law_put T) (hr.mono (by omega)) T.f_law_put.m T.f_law_put.F.kp T.f_law_put.b (ia_cons (ie_var 1) (ia_cons (ie_var 2) (ia_cons (ie_call (ok_law_put T) (hr.mono (by omega)) T.f_law_put.m T.f_law_put.F.kp T.f_law_put.b (ia_cons (ie_var 3) (ia_cons (ie_var 4) (ia_cons (ie_var 5) ia_nil)))) ia_nil)))))))))))))
  p_law_inside
theorem ok_law_right_here (T : Txt K mg) : FnOk P w K mg base CX0 5 T.f_law_right_here.a T.f_law_right_here.fd ["_law_from", "_law_way", "_law_asked", "_law_begun"] (liftSp K c_law_right_here) :=
  fnM (k := 4) (N := ["_law_from", "_law_way", "_law_asked", "_law_begun", "_law_number", "_law_rows", "_law_papers", "_law_turn", "_law_bad"]) (m := m_law_right_here) T.f_law_right_here.F sc_law_right_here len_law_right_here (fun cdv A outer s H E hr =>
 (iss_cons (is_set 4 sc_law_right_here.nd (ie_call (ok_law_told T) (hr.mono (by omega)) T.f_law_told.m T.f_law_told.F.kp T.f_law_told.b (ia_cons (ie_var 1) (ia_cons (ie_var 2) (ia_cons (ie_var 3) ia_nil)))))
 (iss_cons (is_set 5 sc_law_right_here.nd (ie_call (ok_law_paper T) (hr.mono (by omega)) T.f_law_paper.m T.f_law_paper.F.kp T.f_law_paper.b (ia_cons (ie_var 1) (ia_cons (ie_var 2) (ia_cons (ie_var 3) ia_nil)))))
 (iss_cons (is_set 6 sc_law_right_here.nd (ie_op om_add (ie_call (ok_law_kinds T) (hr.mono (by omega)) T.f_law_kinds.m T.f_law_kinds.F.kp T.f_law_kinds.b (ia_cons (ie_var 5) ia_nil)) (ie_lst (ia_cons (ie_call (ok_law_odd T) (hr.mono (by omega)) T.f_law_odd.m T.f_law_odd.F.kp T.f_law_odd.b (ia_cons (ie_var 0) ia_nil)) (ia_cons (ie_call (ok_law_nested T) (hr.mono (by omega)) T.f_law_nested.m T.f_law_nested.F.kp T.f_law_nested.b (ia_cons (ie_op om_add ie_int (ie_call (ok_law_take T) (hr.mono (by omega)) T.f_law_take.m T.f_law_take.F.kp T.f_law_take.b (ia_cons (ie_var 0) (ia_cons ie_int ia_nil)))) (ia_cons ie_bl ia_nil))) ia_nil)))))
 (iss_cons (is_for PassesOwn.never rfl (ii_range1 T.b_range (ie_op om_mul ie_int (ie_callTy cm_int (by rfl) T.b_int PyProof.Rows.boot_int (ia_cons (ie_cmp (om_ne hr.units) (ie_var 5) (ie_tup ia_nil) (nomark _)) ia_nil)))) (ig_name 7 sc_law_right_here.nd)
 (iss_one (is_expr (ie_bm PySem.F.plainAttrs_list PySem.F.slot_list_append PySem.F.type_list_append mi_append (ie_var 6) (ia_cons (ie_call (ok_law_inside T) (hr.mono (by omega)) T.f_law_inside.m T.f_law_inside.F.kp T.f_law_inside.b (ia_cons (ie_var 0) (ia_cons (ie_var 5) ia_nil))) ia_nil)))))
 (iss_cons (is_for PassesOwn.never rfl (ii_iter (ie_var 6)) (ig_name 8 sc_law_right_here.nd)
 (iss_one (is_if (it_cmp om_isnot (ie_call (ok_shows_sum T) (hr.mono (by omega)) T.f_shows_sum.m T.f_shows_sum.F.kp T.f_shows_sum.b (ia_cons (ie_var 1) (ia_cons (ie_var 2) (ia_cons (ie_var 3) (ia_cons (ie_var 4) (ia_cons (ie_var 8) ia_nil)))))) ie_bl (nomark _))
 (iss_one (is_ret ie_bl))
 iss_nil)))
 (iss_cons (is_for PassesOwn.never rfl (ii_iter (ie_tup (ia_cons ie_non (ia_cons (ie_callTy cm_strI (by rfl) T.b_str PyProof.Rows.boot_str (ia_cons (ie_var 4) ia_nil)) (ia_cons (ie_tup (ia_cons (ie_var 4) ia_nil)) (ia_cons (ie_lst (ia_cons (ie_var 4) ia_nil)) (ia_cons (ie_call (ok_law_odd T) (hr.mono (by omega)) T.f_law_odd.m T.f_law_odd.F.kp T.f_law_odd.b (ia_cons (ie_var 0) ia_nil)) (ia_cons (ie_cmp (om_eq hr.units) (ie_var 4) ie_int (nomark _)) ia_nil)))))))) (ig_name 8 sc_law_right_here.nd)
 (iss_one (is_if (it_cmp om_isnot (ie_call (ok_shows_sum T) (hr.mono (by omega)) T.f_shows_sum.m T.f_shows_sum.F.kp T.f_shows_sum.b (ia_cons (ie_var 1) (ia_cons (ie_var 2) (ia_cons (ie_var 3) (ia_cons (ie_var 8) (ia_cons (ie_var 5) ia_nil)))))) ie_bl (nomark _))
 (iss_one (is_ret ie_bl))
 iss_nil)))
 (iss_one (is_ret (ie_cmp om_is (ie_call (ok_shows_sum T) (hr.mono (by omega)) T.f_shows_sum.m T.f_shows_sum.F.kp T.f_shows_sum.b (ia_cons (ie_var 1) (ia_cons (ie_var 2) (ia_cons (ie_var 3) (ia_cons (ie_var 4) (ia_cons (ie_var 5) ia_nil)))))) ie_bl (nomark _)))))))))))
  p_law_right_here
theorem ok_law (T : Txt K mg) : FnOk P w K mg base CX0 6 T.f_law.a T.f_law.fd ["_law_script"] (liftSp K c_law) :=
  fnM (k := 5) (N := ["_law_script", "_law_k", "_law_from", "_law_many", "_law_here", "_law_begun", "_law_way"]) (m := m_law) T.f_law.F sc_law len_law (fun cdv A outer s H E hr =>
 (iss_cons (is_for PassesOwn.never rfl (ii_range1 T.b_range (ie_callB (cm_max2 rfl) (by rfl) T.b_max PyProof.Rows.boot_max (ia_cons ie_int (ia_cons (ie_callB (cm_min2 rfl) (by rfl) T.b_min PyProof.Rows.boot_min (ia_cons ie_int (ia_cons (ie_callB cm_len (by rfl) T.b_len PySem.boot_len (ia_cons (ie_var 0) ia_nil)) ia_nil))) ia_nil)))) (ig_name 1 sc_law.nd)
 (iss_cons (is_set 2 sc_law.nd (ie_call (ok_law_hand T) (hr.mono (by omega)) T.f_law_hand.m T.f_law_hand.F.kp T.f_law_hand.b (ia_cons (ie_var 0) (ia_cons (ie_var 1) ia_nil))))
 (iss_cons (is_set 3 sc_law.nd (ie_call (ok_law_size T) (hr.mono (by omega)) T.f_law_size.m T.f_law_size.F.kp T.f_law_size.b (ia_cons (ie_var 2) ia_nil)))
 (iss_cons (is_set 4 sc_law.nd (ie_call (ok_law_ring T) (hr.mono (by omega)) T.f_law_ring.m T.f_law_ring.F.kp T.f_law_ring.b (ia_cons (ie_var 2) (ia_cons (ie_var 3) ia_nil))))
 (iss_cons (is_set 5 sc_law.nd (ie_call (ok_law_some T) (hr.mono (by omega)) T.f_law_some.m T.f_law_some.F.kp T.f_law_some.b (ia_cons (ie_var 2) (ia_cons (ie_var 3) ia_nil))))
 (iss_cons (is_for PassesOwn.never rfl (ii_iter (ie_tup (ia_cons ie_str (ia_cons ie_str (ia_cons ie_str ia_nil))))) (ig_name 6 sc_law.nd)
 (iss_one (is_if (it_not (it_val (ie_call (ok_law_right_here T) (hr.mono (by omega)) T.f_law_right_here.m T.f_law_right_here.F.kp T.f_law_right_here.b (ia_cons (ie_var 2) (ia_cons (ie_var 6) (ia_cons (ie_var 4) (ia_cons (ie_var 5) ia_nil)))))))
 (iss_one (is_ret ie_bl))
 iss_nil)))
 (iss_one (is_if (it_not (it_val (ie_call (ok_law_right_here T) (hr.mono (by omega)) T.f_law_right_here.m T.f_law_right_here.F.kp T.f_law_right_here.b (ia_cons (ie_var 2) (ia_cons ie_str (ia_cons (ie_call (ok_law_word T) (hr.mono (by omega)) T.f_law_word.m T.f_law_word.F.kp T.f_law_word.b (ia_cons (ie_var 2) (ia_cons (ie_var 3) ia_nil))) (ia_cons (ie_var 5) ia_nil)))))))
 (iss_one (is_ret ie_bl))
 iss_nil))))))))
 (iss_one (is_ret (ie_cmp om_is (ie_call (ok_shows_sum T) (hr.mono (by omega)) T.f_shows_sum.m T.f_shows_sum.F.kp T.f_shows_sum.b (ia_cons ie_str (ia_cons (ie_tup (ia_cons ie_int ia_nil)) (ia_cons (ie_tup (ia_cons ie_int ia_nil)) (ia_cons ie_bl (ia_cons (ie_tup ia_nil) ia_nil)))))) ie_bl (nomark _))))))
  p_law
end
theorem all_mk {l : PySem.W.OpenLaw} {w : World} {K : PySem.W.Frag} {h : Heap} {mg : Str → Option Value} {fa : Addr} (X : K.In h) (G : h.Ns mainGlobals mg) (hfa : mg "law" = some (.ref fa))
    {f1 : Addr} {od1 an1 : Option Addr} {sl1 : Array (Option Value)} {oc1 kV1 dc1 pm1 cd1 ct1 : Value} (a1 : PySem.W.nsIn K mainGlobals "next_row" = some (some (.ref f1))) (l1 : K.lookup f1 = some ⟨oc1, od1, .func (PySem.W.fnOf "next_row" "next_row" (defArgs s_next_row) (defBody s_next_row) (defScope s_next_row) .none kV1 dc1 pm1 an1 cd1 ct1), sl1⟩) (c1 : PySem.W.codeIn K cd1 "next_row" = true) (k1 : PySem.W.keepIn K (.ref f1) = true)
    {f2 : Addr} {od2 an2 : Option Addr} {sl2 : Array (Option Value)} {oc2 kV2 dc2 pm2 cd2 ct2 : Value} (a2 : PySem.W.nsIn K mainGlobals "side_letters" = some (some (.ref f2))) (l2 : K.lookup f2 = some ⟨oc2, od2, .func (PySem.W.fnOf "side_letters" "side_letters" (defArgs s_side_letters) (defBody s_side_letters) (defScope s_side_letters) .none kV2 dc2 pm2 an2 cd2 ct2), sl2⟩) (c2 : PySem.W.codeIn K cd2 "side_letters" = true) (k2 : PySem.W.keepIn K (.ref f2) = true)
    {f3 : Addr} {od3 an3 : Option Addr} {sl3 : Array (Option Value)} {oc3 kV3 dc3 pm3 cd3 ct3 : Value} (a3 : PySem.W.nsIn K mainGlobals "reach_letters" = some (some (.ref f3))) (l3 : K.lookup f3 = some ⟨oc3, od3, .func (PySem.W.fnOf "reach_letters" "reach_letters" (defArgs s_reach_letters) (defBody s_reach_letters) (defScope s_reach_letters) .none kV3 dc3 pm3 an3 cd3 ct3), sl3⟩) (c3 : PySem.W.codeIn K cd3 "reach_letters" = true) (k3 : PySem.W.keepIn K (.ref f3) = true)
    {f4 : Addr} {od4 an4 : Option Addr} {sl4 : Array (Option Value)} {oc4 kV4 dc4 pm4 cd4 ct4 : Value} (a4 : PySem.W.nsIn K mainGlobals "is_whole" = some (some (.ref f4))) (l4 : K.lookup f4 = some ⟨oc4, od4, .func (PySem.W.fnOf "is_whole" "is_whole" (defArgs s_is_whole) (defBody s_is_whole) (defScope s_is_whole) .none kV4 dc4 pm4 an4 cd4 ct4), sl4⟩) (c4 : PySem.W.codeIn K cd4 "is_whole" = true) (k4 : PySem.W.keepIn K (.ref f4) = true)
    {f5 : Addr} {od5 an5 : Option Addr} {sl5 : Array (Option Value)} {oc5 kV5 dc5 pm5 cd5 ct5 : Value} (a5 : PySem.W.nsIn K mainGlobals "are_rows" = some (some (.ref f5))) (l5 : K.lookup f5 = some ⟨oc5, od5, .func (PySem.W.fnOf "are_rows" "are_rows" (defArgs s_are_rows) (defBody s_are_rows) (defScope s_are_rows) .none kV5 dc5 pm5 an5 cd5 ct5), sl5⟩) (c5 : PySem.W.codeIn K cd5 "are_rows" = true) (k5 : PySem.W.keepIn K (.ref f5) = true)
    {f6 : Addr} {od6 an6 : Option Addr} {sl6 : Array (Option Value)} {oc6 kV6 dc6 pm6 cd6 ct6 : Value} (a6 : PySem.W.nsIn K mainGlobals "is_greater" = some (some (.ref f6))) (l6 : K.lookup f6 = some ⟨oc6, od6, .func (PySem.W.fnOf "is_greater" "is_greater" (defArgs s_is_greater) (defBody s_is_greater) (defScope s_is_greater) .none kV6 dc6 pm6 an6 cd6 ct6), sl6⟩) (c6 : PySem.W.codeIn K cd6 "is_greater" = true) (k6 : PySem.W.keepIn K (.ref f6) = true)
    {f7 : Addr} {od7 an7 : Option Addr} {sl7 : Array (Option Value)} {oc7 kV7 dc7 pm7 cd7 ct7 : Value} (a7 : PySem.W.nsIn K mainGlobals "is_stop" = some (some (.ref f7))) (l7 : K.lookup f7 = some ⟨oc7, od7, .func (PySem.W.fnOf "is_stop" "is_stop" (defArgs s_is_stop) (defBody s_is_stop) (defScope s_is_stop) .none kV7 dc7 pm7 an7 cd7 ct7), sl7⟩) (c7 : PySem.W.codeIn K cd7 "is_stop" = true) (k7 : PySem.W.keepIn K (.ref f7) = true)
    {f8 : Addr} {od8 an8 : Option Addr} {sl8 : Array (Option Value)} {oc8 kV8 dc8 pm8 cd8 ct8 : Value} (a8 : PySem.W.nsIn K mainGlobals "shows_round" = some (some (.ref f8))) (l8 : K.lookup f8 = some ⟨oc8, od8, .func (PySem.W.fnOf "shows_round" "shows_round" (defArgs s_shows_round) (defBody s_shows_round) (defScope s_shows_round) .none kV8 dc8 pm8 an8 cd8 ct8), sl8⟩) (c8 : PySem.W.codeIn K cd8 "shows_round" = true) (k8 : PySem.W.keepIn K (.ref f8) = true)
    {f9 : Addr} {od9 an9 : Option Addr} {sl9 : Array (Option Value)} {oc9 kV9 dc9 pm9 cd9 ct9 : Value} (a9 : PySem.W.nsIn K mainGlobals "shows_reach" = some (some (.ref f9))) (l9 : K.lookup f9 = some ⟨oc9, od9, .func (PySem.W.fnOf "shows_reach" "shows_reach" (defArgs s_shows_reach) (defBody s_shows_reach) (defScope s_shows_reach) .none kV9 dc9 pm9 an9 cd9 ct9), sl9⟩) (c9 : PySem.W.codeIn K cd9 "shows_reach" = true) (k9 : PySem.W.keepIn K (.ref f9) = true)
    {f10 : Addr} {od10 an10 : Option Addr} {sl10 : Array (Option Value)} {oc10 kV10 dc10 pm10 cd10 ct10 : Value} (a10 : PySem.W.nsIn K mainGlobals "shows_halves" = some (some (.ref f10))) (l10 : K.lookup f10 = some ⟨oc10, od10, .func (PySem.W.fnOf "shows_halves" "shows_halves" (defArgs s_shows_halves) (defBody s_shows_halves) (defScope s_shows_halves) .none kV10 dc10 pm10 an10 cd10 ct10), sl10⟩) (c10 : PySem.W.codeIn K cd10 "shows_halves" = true) (k10 : PySem.W.keepIn K (.ref f10) = true)
    {f11 : Addr} {od11 an11 : Option Addr} {sl11 : Array (Option Value)} {oc11 kV11 dc11 pm11 cd11 ct11 : Value} (a11 : PySem.W.nsIn K mainGlobals "shows_sum" = some (some (.ref f11))) (l11 : K.lookup f11 = some ⟨oc11, od11, .func (PySem.W.fnOf "shows_sum" "shows_sum" (defArgs s_shows_sum) (defBody s_shows_sum) (defScope s_shows_sum) .none kV11 dc11 pm11 an11 cd11 ct11), sl11⟩) (c11 : PySem.W.codeIn K cd11 "shows_sum" = true) (k11 : PySem.W.keepIn K (.ref f11) = true)
    {f12 : Addr} {od12 an12 : Option Addr} {sl12 : Array (Option Value)} {oc12 kV12 dc12 pm12 cd12 ct12 : Value} (a12 : PySem.W.nsIn K mainGlobals "_law_hand" = some (some (.ref f12))) (l12 : K.lookup f12 = some ⟨oc12, od12, .func (PySem.W.fnOf "_law_hand" "_law_hand" (defArgs s_law_hand) (defBody s_law_hand) (defScope s_law_hand) .none kV12 dc12 pm12 an12 cd12 ct12), sl12⟩) (c12 : PySem.W.codeIn K cd12 "_law_hand" = true) (k12 : PySem.W.keepIn K (.ref f12) = true)
    {f13 : Addr} {od13 an13 : Option Addr} {sl13 : Array (Option Value)} {oc13 kV13 dc13 pm13 cd13 ct13 : Value} (a13 : PySem.W.nsIn K mainGlobals "_law_take" = some (some (.ref f13))) (l13 : K.lookup f13 = some ⟨oc13, od13, .func (PySem.W.fnOf "_law_take" "_law_take" (defArgs s_law_take) (defBody s_law_take) (defScope s_law_take) .none kV13 dc13 pm13 an13 cd13 ct13), sl13⟩) (c13 : PySem.W.codeIn K cd13 "_law_take" = true) (k13 : PySem.W.keepIn K (.ref f13) = true)
    {f14 : Addr} {od14 an14 : Option Addr} {sl14 : Array (Option Value)} {oc14 kV14 dc14 pm14 cd14 ct14 : Value} (a14 : PySem.W.nsIn K mainGlobals "_law_order" = some (some (.ref f14))) (l14 : K.lookup f14 = some ⟨oc14, od14, .func (PySem.W.fnOf "_law_order" "_law_order" (defArgs s_law_order) (defBody s_law_order) (defScope s_law_order) .none kV14 dc14 pm14 an14 cd14 ct14), sl14⟩) (c14 : PySem.W.codeIn K cd14 "_law_order" = true) (k14 : PySem.W.keepIn K (.ref f14) = true)
    {f15 : Addr} {od15 an15 : Option Addr} {sl15 : Array (Option Value)} {oc15 kV15 dc15 pm15 cd15 ct15 : Value} (a15 : PySem.W.nsIn K mainGlobals "_law_ring" = some (some (.ref f15))) (l15 : K.lookup f15 = some ⟨oc15, od15, .func (PySem.W.fnOf "_law_ring" "_law_ring" (defArgs s_law_ring) (defBody s_law_ring) (defScope s_law_ring) .none kV15 dc15 pm15 an15 cd15 ct15), sl15⟩) (c15 : PySem.W.codeIn K cd15 "_law_ring" = true) (k15 : PySem.W.keepIn K (.ref f15) = true)
    {f16 : Addr} {od16 an16 : Option Addr} {sl16 : Array (Option Value)} {oc16 kV16 dc16 pm16 cd16 ct16 : Value} (a16 : PySem.W.nsIn K mainGlobals "_law_some" = some (some (.ref f16))) (l16 : K.lookup f16 = some ⟨oc16, od16, .func (PySem.W.fnOf "_law_some" "_law_some" (defArgs s_law_some) (defBody s_law_some) (defScope s_law_some) .none kV16 dc16 pm16 an16 cd16 ct16), sl16⟩) (c16 : PySem.W.codeIn K cd16 "_law_some" = true) (k16 : PySem.W.keepIn K (.ref f16) = true)
    {f17 : Addr} {od17 an17 : Option Addr} {sl17 : Array (Option Value)} {oc17 kV17 dc17 pm17 cd17 ct17 : Value} (a17 : PySem.W.nsIn K mainGlobals "_law_size" = some (some (.ref f17))) (l17 : K.lookup f17 = some ⟨oc17, od17, .func (PySem.W.fnOf "_law_size" "_law_size" (defArgs s_law_size) (defBody s_law_size) (defScope s_law_size) .none kV17 dc17 pm17 an17 cd17 ct17), sl17⟩) (c17 : PySem.W.codeIn K cd17 "_law_size" = true) (k17 : PySem.W.keepIn K (.ref f17) = true)
    {f18 : Addr} {od18 an18 : Option Addr} {sl18 : Array (Option Value)} {oc18 kV18 dc18 pm18 cd18 ct18 : Value} (a18 : PySem.W.nsIn K mainGlobals "_law_stop" = some (some (.ref f18))) (l18 : K.lookup f18 = some ⟨oc18, od18, .func (PySem.W.fnOf "_law_stop" "_law_stop" (defArgs s_law_stop) (defBody s_law_stop) (defScope s_law_stop) .none kV18 dc18 pm18 an18 cd18 ct18), sl18⟩) (c18 : PySem.W.codeIn K cd18 "_law_stop" = true) (k18 : PySem.W.keepIn K (.ref f18) = true)
    {f19 : Addr} {od19 an19 : Option Addr} {sl19 : Array (Option Value)} {oc19 kV19 dc19 pm19 cd19 ct19 : Value} (a19 : PySem.W.nsIn K mainGlobals "_law_reach" = some (some (.ref f19))) (l19 : K.lookup f19 = some ⟨oc19, od19, .func (PySem.W.fnOf "_law_reach" "_law_reach" (defArgs s_law_reach) (defBody s_law_reach) (defScope s_law_reach) .none kV19 dc19 pm19 an19 cd19 ct19), sl19⟩) (c19 : PySem.W.codeIn K cd19 "_law_reach" = true) (k19 : PySem.W.keepIn K (.ref f19) = true)
    {f20 : Addr} {od20 an20 : Option Addr} {sl20 : Array (Option Value)} {oc20 kV20 dc20 pm20 cd20 ct20 : Value} (a20 : PySem.W.nsIn K mainGlobals "_law_phases" = some (some (.ref f20))) (l20 : K.lookup f20 = some ⟨oc20, od20, .func (PySem.W.fnOf "_law_phases" "_law_phases" (defArgs s_law_phases) (defBody s_law_phases) (defScope s_law_phases) .none kV20 dc20 pm20 an20 cd20 ct20), sl20⟩) (c20 : PySem.W.codeIn K cd20 "_law_phases" = true) (k20 : PySem.W.keepIn K (.ref f20) = true)
    {f21 : Addr} {od21 an21 : Option Addr} {sl21 : Array (Option Value)} {oc21 kV21 dc21 pm21 cd21 ct21 : Value} (a21 : PySem.W.nsIn K mainGlobals "_law_told" = some (some (.ref f21))) (l21 : K.lookup f21 = some ⟨oc21, od21, .func (PySem.W.fnOf "_law_told" "_law_told" (defArgs s_law_told) (defBody s_law_told) (defScope s_law_told) .none kV21 dc21 pm21 an21 cd21 ct21), sl21⟩) (c21 : PySem.W.codeIn K cd21 "_law_told" = true) (k21 : PySem.W.keepIn K (.ref f21) = true)
    {f22 : Addr} {od22 an22 : Option Addr} {sl22 : Array (Option Value)} {oc22 kV22 dc22 pm22 cd22 ct22 : Value} (a22 : PySem.W.nsIn K mainGlobals "_law_paper" = some (some (.ref f22))) (l22 : K.lookup f22 = some ⟨oc22, od22, .func (PySem.W.fnOf "_law_paper" "_law_paper" (defArgs s_law_paper) (defBody s_law_paper) (defScope s_law_paper) .none kV22 dc22 pm22 an22 cd22 ct22), sl22⟩) (c22 : PySem.W.codeIn K cd22 "_law_paper" = true) (k22 : PySem.W.keepIn K (.ref f22) = true)
    {f23 : Addr} {od23 an23 : Option Addr} {sl23 : Array (Option Value)} {oc23 kV23 dc23 pm23 cd23 ct23 : Value} (a23 : PySem.W.nsIn K mainGlobals "_law_word" = some (some (.ref f23))) (l23 : K.lookup f23 = some ⟨oc23, od23, .func (PySem.W.fnOf "_law_word" "_law_word" (defArgs s_law_word) (defBody s_law_word) (defScope s_law_word) .none kV23 dc23 pm23 an23 cd23 ct23), sl23⟩) (c23 : PySem.W.codeIn K cd23 "_law_word" = true) (k23 : PySem.W.keepIn K (.ref f23) = true)
    {f24 : Addr} {od24 an24 : Option Addr} {sl24 : Array (Option Value)} {oc24 kV24 dc24 pm24 cd24 ct24 : Value} (a24 : PySem.W.nsIn K mainGlobals "_law_nested" = some (some (.ref f24))) (l24 : K.lookup f24 = some ⟨oc24, od24, .func (PySem.W.fnOf "_law_nested" "_law_nested" (defArgs s_law_nested) (defBody s_law_nested) (defScope s_law_nested) .none kV24 dc24 pm24 an24 cd24 ct24), sl24⟩) (c24 : PySem.W.codeIn K cd24 "_law_nested" = true) (k24 : PySem.W.keepIn K (.ref f24) = true)
    {f25 : Addr} {od25 an25 : Option Addr} {sl25 : Array (Option Value)} {oc25 kV25 dc25 pm25 cd25 ct25 : Value} (a25 : PySem.W.nsIn K mainGlobals "_law_odd" = some (some (.ref f25))) (l25 : K.lookup f25 = some ⟨oc25, od25, .func (PySem.W.fnOf "_law_odd" "_law_odd" (defArgs s_law_odd) (defBody s_law_odd) (defScope s_law_odd) .none kV25 dc25 pm25 an25 cd25 ct25), sl25⟩) (c25 : PySem.W.codeIn K cd25 "_law_odd" = true) (k25 : PySem.W.keepIn K (.ref f25) = true)
    {f26 : Addr} {od26 an26 : Option Addr} {sl26 : Array (Option Value)} {oc26 kV26 dc26 pm26 cd26 ct26 : Value} (a26 : PySem.W.nsIn K mainGlobals "_law_put" = some (some (.ref f26))) (l26 : K.lookup f26 = some ⟨oc26, od26, .func (PySem.W.fnOf "_law_put" "_law_put" (defArgs s_law_put) (defBody s_law_put) (defScope s_law_put) .none kV26 dc26 pm26 an26 cd26 ct26), sl26⟩) (c26 : PySem.W.codeIn K cd26 "_law_put" = true) (k26 : PySem.W.keepIn K (.ref f26) = true)
    {f27 : Addr} {od27 an27 : Option Addr} {sl27 : Array (Option Value)} {oc27 kV27 dc27 pm27 cd27 ct27 : Value} (a27 : PySem.W.nsIn K mainGlobals "_law_kinds" = some (some (.ref f27))) (l27 : K.lookup f27 = some ⟨oc27, od27, .func (PySem.W.fnOf "_law_kinds" "_law_kinds" (defArgs s_law_kinds) (defBody s_law_kinds) (defScope s_law_kinds) .none kV27 dc27 pm27 an27 cd27 ct27), sl27⟩) (c27 : PySem.W.codeIn K cd27 "_law_kinds" = true) (k27 : PySem.W.keepIn K (.ref f27) = true)
    {f28 : Addr} {od28 an28 : Option Addr} {sl28 : Array (Option Value)} {oc28 kV28 dc28 pm28 cd28 ct28 : Value} (a28 : PySem.W.nsIn K mainGlobals "_law_inside" = some (some (.ref f28))) (l28 : K.lookup f28 = some ⟨oc28, od28, .func (PySem.W.fnOf "_law_inside" "_law_inside" (defArgs s_law_inside) (defBody s_law_inside) (defScope s_law_inside) .none kV28 dc28 pm28 an28 cd28 ct28), sl28⟩) (c28 : PySem.W.codeIn K cd28 "_law_inside" = true) (k28 : PySem.W.keepIn K (.ref f28) = true)
    {f29 : Addr} {od29 an29 : Option Addr} {sl29 : Array (Option Value)} {oc29 kV29 dc29 pm29 cd29 ct29 : Value} (a29 : PySem.W.nsIn K mainGlobals "_law_right_here" = some (some (.ref f29))) (l29 : K.lookup f29 = some ⟨oc29, od29, .func (PySem.W.fnOf "_law_right_here" "_law_right_here" (defArgs s_law_right_here) (defBody s_law_right_here) (defScope s_law_right_here) .none kV29 dc29 pm29 an29 cd29 ct29), sl29⟩) (c29 : PySem.W.codeIn K cd29 "_law_right_here" = true) (k29 : PySem.W.keepIn K (.ref f29) = true)
    {f30 : Addr} {od30 an30 : Option Addr} {sl30 : Array (Option Value)} {oc30 kV30 dc30 pm30 cd30 ct30 : Value} (a30 : PySem.W.nsIn K mainGlobals "law" = some (some (.ref f30))) (l30 : K.lookup f30 = some ⟨oc30, od30, .func (PySem.W.fnOf "law" "law" (defArgs s_law) (defBody s_law) (defScope s_law) .none kV30 dc30 pm30 an30 cd30 ct30), sl30⟩) (c30 : PySem.W.codeIn K cd30 "law" = true) (k30 : PySem.W.keepIn K (.ref f30) = true)
    (z1 : PySem.W.nsIn K mainGlobals "all" = some none)
    (z2 : PySem.W.nsIn K mainGlobals "any" = some none)
    (z3 : PySem.W.nsIn K mainGlobals "bool" = some none)
    (z4 : PySem.W.nsIn K mainGlobals "enumerate" = some none)
    (z5 : PySem.W.nsIn K mainGlobals "int" = some none)
    (z6 : PySem.W.nsIn K mainGlobals "isinstance" = some none)
    (z7 : PySem.W.nsIn K mainGlobals "len" = some none)
    (z8 : PySem.W.nsIn K mainGlobals "list" = some none)
    (z9 : PySem.W.nsIn K mainGlobals "max" = some none)
    (z10 : PySem.W.nsIn K mainGlobals "min" = some none)
    (z11 : PySem.W.nsIn K mainGlobals "range" = some none)
    (z12 : PySem.W.nsIn K mainGlobals "str" = some none)
    (z13 : PySem.W.nsIn K mainGlobals "sum" = some none)
    (z14 : PySem.W.nsIn K mainGlobals "tuple" = some none)
    (z15 : PySem.W.nsIn K mainGlobals "zip" = some none)
    {t1 : Tok} (y1 : PySem.W.nsIn K mainGlobals "LEFT" = some (some (.int (-1) t1)))
    {t2 : Tok} (y2 : PySem.W.nsIn K mainGlobals "RIGHT" = some (some (.int (1) t2)))
    : ∃ fd : FuncData, (∀ (s : Shared) (v : Value), BindsTo s fd ⟨[v], []⟩ [("_law_script", v)]) ∧ ∀ base : Heap, K.In base → base.Ns mainGlobals mg → FnOk l.prog w K mg base CX0 6 fa fd ["_law_script"] (liftSp K c_law) := by
  have e := hfa.symm.trans (PySem.W.mg_of X G a30)
  cases e
  have F1 := fun_mk (st := s_next_row) l1 c1 k1
  have b1 := F1.binds (ps := ["row"]) fun _ _ _ _ _ _ us hl => match us, hl with | [_], _ => rfl
  have F2 := fun_mk (st := s_side_letters) l2 c2 k2
  have b2 := F2.binds (ps := ["reach", "stop"]) fun _ _ _ _ _ _ us hl => match us, hl with | [_, _], _ => rfl
  have F3 := fun_mk (st := s_reach_letters) l3 c3 k3
  have b3 := F3.binds (ps := ["left", "right"]) fun _ _ _ _ _ _ us hl => match us, hl with | [_, _], _ => rfl
  have F4 := fun_mk (st := s_is_whole) l4 c4 k4
  have b4 := F4.binds (ps := ["thing"]) fun _ _ _ _ _ _ us hl => match us, hl with | [_], _ => rfl
  have F5 := fun_mk (st := s_are_rows) l5 c5 k5
  have b5 := F5.binds (ps := ["thing", "size"]) fun _ _ _ _ _ _ us hl => match us, hl with | [_, _], _ => rfl
  have F6 := fun_mk (st := s_is_greater) l6 c6 k6
  have b6 := F6.binds (ps := ["ring", "some", "house", "steps"]) fun _ _ _ _ _ _ us hl => match us, hl with | [_, _, _, _], _ => rfl
  have F7 := fun_mk (st := s_is_stop) l7 c7 k7
  have b7 := F7.binds (ps := ["ring", "some", "house", "side", "stop"]) fun _ _ _ _ _ _ us hl => match us, hl with | [_, _, _, _, _], _ => rfl
  have F8 := fun_mk (st := s_shows_round) l8 c8 k8
  have b8 := F8.binds (ps := ["ring", "some", "number", "paper"]) fun _ _ _ _ _ _ us hl => match us, hl with | [_, _, _, _], _ => rfl
  have F9 := fun_mk (st := s_shows_reach) l9 c9 k9
  have b9 := F9.binds (ps := ["ring", "some", "number", "paper"]) fun _ _ _ _ _ _ us hl => match us, hl with | [_, _, _, _], _ => rfl
  have F10 := fun_mk (st := s_shows_halves) l10 c10 k10
  have b10 := F10.binds (ps := ["ring", "some", "number", "paper"]) fun _ _ _ _ _ _ us hl => match us, hl with | [_, _, _, _], _ => rfl
  have F11 := fun_mk (st := s_shows_sum) l11 c11 k11
  have b11 := F11.binds (ps := ["way", "ring", "some", "number", "paper"]) fun _ _ _ _ _ _ us hl => match us, hl with | [_, _, _, _, _], _ => rfl
  have F12 := fun_mk (st := s_law_hand) l12 c12 k12
  have b12 := F12.binds (ps := ["_law_script", "_law_k"]) fun _ _ _ _ _ _ us hl => match us, hl with | [_, _], _ => rfl
  have F13 := fun_mk (st := s_law_take) l13 c13 k13
  have b13 := F13.binds (ps := ["_law_from", "_law_many"]) fun _ _ _ _ _ _ us hl => match us, hl with | [_, _], _ => rfl
  have F14 := fun_mk (st := s_law_order) l14 c14 k14
  have b14 := F14.binds (ps := ["_law_from", "_law_many"]) fun _ _ _ _ _ _ us hl => match us, hl with | [_, _], _ => rfl
  have F15 := fun_mk (st := s_law_ring) l15 c15 k15
  have b15 := F15.binds (ps := ["_law_from", "_law_many"]) fun _ _ _ _ _ _ us hl => match us, hl with | [_, _], _ => rfl
  have F16 := fun_mk (st := s_law_some) l16 c16 k16
  have b16 := F16.binds (ps := ["_law_from", "_law_many"]) fun _ _ _ _ _ _ us hl => match us, hl with | [_, _], _ => rfl
  have F17 := fun_mk (st := s_law_size) l17 c17 k17
  have b17 := F17.binds (ps := ["_law_from"]) fun _ _ _ _ _ _ us hl => match us, hl with | [_], _ => rfl
  have F18 := fun_mk (st := s_law_stop) l18 c18 k18
  have b18 := F18.binds (ps := ["_law_ring_here", "_law_some_here", "_law_house", "_law_side"]) fun _ _ _ _ _ _ us hl => match us, hl with | [_, _, _, _], _ => rfl
  have F19 := fun_mk (st := s_law_reach) l19 c19 k19
  have b19 := F19.binds (ps := ["_law_left", "_law_right_here"]) fun _ _ _ _ _ _ us hl => match us, hl with | [_, _], _ => rfl
  have F20 := fun_mk (st := s_law_phases) l20 c20 k20
  have b20 := F20.binds (ps := ["_law_ring_here", "_law_some_here"]) fun _ _ _ _ _ _ us hl => match us, hl with | [_, _], _ => rfl
  have F21 := fun_mk (st := s_law_told) l21 c21 k21
  have b21 := F21.binds (ps := ["_law_way", "_law_ring_here", "_law_some_here"]) fun _ _ _ _ _ _ us hl => match us, hl with | [_, _, _], _ => rfl
  have F22 := fun_mk (st := s_law_paper) l22 c22 k22
  have b22 := F22.binds (ps := ["_law_way", "_law_ring_here", "_law_some_here"]) fun _ _ _ _ _ _ us hl => match us, hl with | [_, _, _], _ => rfl
  have F23 := fun_mk (st := s_law_word) l23 c23 k23
  have b23 := F23.binds (ps := ["_law_from", "_law_many"]) fun _ _ _ _ _ _ us hl => match us, hl with | [_, _], _ => rfl
  have F24 := fun_mk (st := s_law_nested) l24 c24 k24
  have b24 := F24.binds (ps := ["_law_deep", "_law_listed"]) fun _ _ _ _ _ _ us hl => match us, hl with | [_, _], _ => rfl
  have F25 := fun_mk (st := s_law_odd) l25 c25 k25
  have b25 := F25.binds (ps := ["_law_from"]) fun _ _ _ _ _ _ us hl => match us, hl with | [_], _ => rfl
  have F26 := fun_mk (st := s_law_put) l26 c26 k26
  have b26 := F26.binds (ps := ["_law_things", "_law_at", "_law_thing"]) fun _ _ _ _ _ _ us hl => match us, hl with | [_, _, _], _ => rfl
  have F27 := fun_mk (st := s_law_kinds) l27 c27 k27
  have b27 := F27.binds (ps := ["_law_rows"]) fun _ _ _ _ _ _ us hl => match us, hl with | [_], _ => rfl
  have F28 := fun_mk (st := s_law_inside) l28 c28 k28
  have b28 := F28.binds (ps := ["_law_from", "_law_rows"]) fun _ _ _ _ _ _ us hl => match us, hl with | [_, _], _ => rfl
  have F29 := fun_mk (st := s_law_right_here) l29 c29 k29
  have b29 := F29.binds (ps := ["_law_from", "_law_way", "_law_asked", "_law_begun"]) fun _ _ _ _ _ _ us hl => match us, hl with | [_, _, _, _], _ => rfl
  have F30 := fun_mk (st := s_law) l30 c30 k30
  have b30 := F30.binds (ps := ["_law_script"]) fun _ _ _ _ _ _ us hl => match us, hl with | [_], _ => rfl
  have T : Txt K mg := { f_next_row := ⟨_, _, F1, b1, PySem.W.mg_of X G a1⟩, f_side_letters := ⟨_, _, F2, b2, PySem.W.mg_of X G a2⟩, f_reach_letters := ⟨_, _, F3, b3, PySem.W.mg_of X G a3⟩, f_is_whole := ⟨_, _, F4, b4, PySem.W.mg_of X G a4⟩, f_are_rows := ⟨_, _, F5, b5, PySem.W.mg_of X G a5⟩, f_is_greater := ⟨_, _, F6, b6, PySem.W.mg_of X G a6⟩, f_is_stop := ⟨_, _, F7, b7, PySem.W.mg_of X G a7⟩, f_shows_round := ⟨_, _, F8, b8, PySem.W.mg_of X G a8⟩, f_shows_reach := ⟨_, _, F9, b9, PySem.W.mg_of X G a9⟩, f_shows_halves := ⟨_, _, F10, b10, PySem.W.mg_of X G a10⟩, f_shows_sum := ⟨_, _, F11, b11, PySem.W.mg_of X G a11⟩, f_law_hand := ⟨_, _, F12, b12, PySem.W.mg_of X G a12⟩, f_law_take := ⟨_, _, F13, b13, PySem.W.mg_of X G a13⟩, f_law_order := ⟨_, _, F14, b14, PySem.W.mg_of X G a14⟩, f_law_ring := ⟨_, _, F15, b15, PySem.W.mg_of X G a15⟩, f_law_some := ⟨_, _, F16, b16, PySem.W.mg_of X G a16⟩, f_law_size := ⟨_, _, F17, b17, PySem.W.mg_of X G a17⟩, f_law_stop := ⟨_, _, F18, b18, PySem.W.mg_of X G a18⟩, f_law_reach := ⟨_, _, F19, b19, PySem.W.mg_of X G a19⟩, f_law_phases := ⟨_, _, F20, b20, PySem.W.mg_of X G a20⟩, f_law_told := ⟨_, _, F21, b21, PySem.W.mg_of X G a21⟩, f_law_paper := ⟨_, _, F22, b22, PySem.W.mg_of X G a22⟩, f_law_word := ⟨_, _, F23, b23, PySem.W.mg_of X G a23⟩, f_law_nested := ⟨_, _, F24, b24, PySem.W.mg_of X G a24⟩, f_law_odd := ⟨_, _, F25, b25, PySem.W.mg_of X G a25⟩, f_law_put := ⟨_, _, F26, b26, PySem.W.mg_of X G a26⟩, f_law_kinds := ⟨_, _, F27, b27, PySem.W.mg_of X G a27⟩, f_law_inside := ⟨_, _, F28, b28, PySem.W.mg_of X G a28⟩, f_law_right_here := ⟨_, _, F29, b29, PySem.W.mg_of X G a29⟩, f_law := ⟨_, _, F30, b30, PySem.W.mg_of X G a30⟩, b_all := PySem.W.mg_none_of X G z1, b_any := PySem.W.mg_none_of X G z2, b_bool := PySem.W.mg_none_of X G z3, b_enumerate := PySem.W.mg_none_of X G z4, b_int := PySem.W.mg_none_of X G z5, b_isinstance := PySem.W.mg_none_of X G z6, b_len := PySem.W.mg_none_of X G z7, b_list := PySem.W.mg_none_of X G z8, b_max := PySem.W.mg_none_of X G z9, b_min := PySem.W.mg_none_of X G z10, b_range := PySem.W.mg_none_of X G z11, b_str := PySem.W.mg_none_of X G z12, b_sum := PySem.W.mg_none_of X G z13, b_tuple := PySem.W.mg_none_of X G z14, b_zip := PySem.W.mg_none_of X G z15, g_LEFT := ⟨_, .int (-1), PySem.W.mg_of X G y1, ⟨_, rfl⟩, fun _ => rv_int⟩, g_RIGHT := ⟨_, .int (1), PySem.W.mg_of X G y2, ⟨_, rfl⟩, fun _ => rv_int⟩ }
  refine ⟨PySem.W.fnOf "law" "law" (defArgs s_law) (defBody s_law) (defScope s_law) .none kV30 dc30 pm30 an30 cd30 ct30, fun s v => .of_eq rfl, fun base _ _ => ?_⟩
  exact fnM (k := 5) (N := ["_law_script", "_law_k", "_law_from", "_law_many", "_law_here", "_law_begun", "_law_way"]) (m := m_law) F30 sc_law len_law (fun cdv A outer s H E hr =>
 (iss_cons (is_for PassesOwn.never rfl (ii_range1 T.b_range (ie_callB (cm_max2 rfl) (by rfl) T.b_max PyProof.Rows.boot_max (ia_cons ie_int (ia_cons (ie_callB (cm_min2 rfl) (by rfl) T.b_min PyProof.Rows.boot_min (ia_cons ie_int (ia_cons (ie_callB cm_len (by rfl) T.b_len PySem.boot_len (ia_cons (ie_var 0) ia_nil)) ia_nil))) ia_nil)))) (ig_name 1 sc_law.nd)
 (iss_cons (is_set 2 sc_law.nd (ie_call (ok_law_hand T) (hr.mono (by omega)) T.f_law_hand.m T.f_law_hand.F.kp T.f_law_hand.b (ia_cons (ie_var 0) (ia_cons (ie_var 1) ia_nil))))
 (iss_cons (is_set 3 sc_law.nd (ie_call (ok_law_size T) (hr.mono (by omega)) T.f_law_size.m T.f_law_size.F.kp T.f_law_size.b (ia_cons (ie_var 2) ia_nil)))
 (iss_cons (is_set 4 sc_law.nd (ie_call (ok_law_ring T) (hr.mono (by omega)) T.f_law_ring.m T.f_law_ring.F.kp T.f_law_ring.b (ia_cons (ie_var 2) (ia_cons (ie_var 3) ia_nil))))
 (iss_cons (is_set 5 sc_law.nd (ie_call (ok_law_some T) (hr.mono (by omega)) T.f_law_some.m T.f_law_some.F.kp T.f_law_some.b (ia_cons (ie_var 2) (ia_cons (ie_var 3) ia_nil))))
 (iss_cons (is_for PassesOwn.never rfl (ii_iter (ie_tup (ia_cons ie_str (ia_cons ie_str (ia_cons ie_str ia_nil))))) (ig_name 6 sc_law.nd)
 (iss_one (is_if (it_not (it_val (ie_call (ok_law_right_here T) (hr.mono (by omega)) T.f_law_right_here.m T.f_law_right_here.F.kp T.f_law_right_here.b (ia_cons (ie_var 2) (ia_cons (ie_var 6) (ia_cons (ie_var 4) (ia_cons (ie_var 5) ia_nil)))))))
 (iss_one (is_ret ie_bl))
 iss_nil)))
 (iss_one (is_if (it_not (it_val (ie_call (ok_law_right_here T) (hr.mono (by omega)) T.f_law_right_here.m T.f_law_right_here.F.kp T.f_law_right_here.b (ia_cons (ie_var 2) (ia_cons ie_str (ia_cons (ie_call (ok_law_word T) (hr.mono (by omega)) T.f_law_word.m T.f_law_word.F.kp T.f_law_word.b (ia_cons (ie_var 2) (ia_cons (ie_var 3) ia_nil))) (ia_cons (ie_var 5) ia_nil)))))))
 (iss_one (is_ret ie_bl))
 iss_nil))))))))
 (iss_one (is_ret (ie_cmp om_is (ie_call (ok_shows_sum T) (hr.mono (by omega)) T.f_shows_sum.m T.f_shows_sum.F.kp T.f_shows_sum.b (ia_cons ie_str (ia_cons (ie_tup (ia_cons ie_int ia_nil)) (ia_cons (ie_tup (ia_cons ie_int ia_nil)) (ia_cons ie_bl (ia_cons (ie_tup ia_nil) ia_nil)))))) ie_bl (nomark _))))))
    p_law
end Law
end M

open PySem PySem.W PyProof.Rows in
set_option maxRecDepth 100000 in
set_option maxHeartbeats 0 in
theorem PySem.Challenge.cw_ringchief_k43_sums_of_anything_holds : PySem.Challenge.rw_ringchief_k43_sums_of_anything.Holds := by
  w_on; o_law; k_head; (case hw => w_witness2)
  k_fill
  refine L2.walk_ofB (l := PySem.Challenge.rw_ringchief_k43_sums_of_anything) (n := 63) (k := 6) (x := "_law_script") (CX := fun _ => L2.CX0) (sp := fun w => M.liftSp _ M.Law.c_law) rfl (by decide) rfl ⟨rfl, by decide, by decide⟩ (fun w h Y => PySem.W.kIn_of Y) ?F (fun _ H a ns hl hb hO hS => M.start_law hl hb hO hS (M.Law.law_start ns hl hb)) (fun _ _ _ _ _ h => h)
  case F =>
    intro w mg fa h KX G hmg
    refine' M.Law.all_mk KX G hmg ?a1 ?l1 ?c1 ?k1 ?a2 ?l2 ?c2 ?k2 ?a3 ?l3 ?c3 ?k3 ?a4 ?l4 ?c4 ?k4 ?a5 ?l5 ?c5 ?k5 ?a6 ?l6 ?c6 ?k6 ?a7 ?l7 ?c7 ?k7 ?a8 ?l8 ?c8 ?k8 ?a9 ?l9 ?c9 ?k9 ?a10 ?l10 ?c10 ?k10 ?a11 ?l11 ?c11 ?k11 ?a12 ?l12 ?c12 ?k12 ?a13 ?l13 ?c13 ?k13 ?a14 ?l14 ?c14 ?k14 ?a15 ?l15 ?c15 ?k15 ?a16 ?l16 ?c16 ?k16 ?a17 ?l17 ?c17 ?k17 ?a18 ?l18 ?c18 ?k18 ?a19 ?l19 ?c19 ?k19 ?a20 ?l20 ?c20 ?k20 ?a21 ?l21 ?c21 ?k21 ?a22 ?l22 ?c22 ?k22 ?a23 ?l23 ?c23 ?k23 ?a24 ?l24 ?c24 ?k24 ?a25 ?l25 ?c25 ?k25 ?a26 ?l26 ?c26 ?k26 ?a27 ?l27 ?c27 ?k27 ?a28 ?l28 ?c28 ?k28 ?a29 ?l29 ?c29 ?k29 ?a30 ?l30 ?c30 ?k30 ?z1 ?z2 ?z3 ?z4 ?z5 ?z6 ?z7 ?z8 ?z9 ?z10 ?z11 ?z12 ?z13 ?z14 ?z15 ?y1 ?y2
    (case a1 => k_is)
    (case l1 => k_is)
    (case c1 => k_is)
    (case k1 => k_is)
    (case a2 => k_is)
    (case l2 => k_is)
    (case c2 => k_is)
    (case k2 => k_is)
    (case a3 => k_is)
    (case l3 => k_is)
    (case c3 => k_is)
    (case k3 => k_is)
    (case a4 => k_is)
    (case l4 => k_is)
    (case c4 => k_is)
    (case k4 => k_is)
    (case a5 => k_is)
    (case l5 => k_is)
    (case c5 => k_is)
    (case k5 => k_is)
    (case a6 => k_is)
    (case l6 => k_is)
    (case c6 => k_is)
    (case k6 => k_is)
    (case a7 => k_is)
    (case l7 => k_is)
    (case c7 => k_is)
    (case k7 => k_is)
    (case a8 => k_is)
    (case l8 => k_is)
    (case c8 => k_is)
    (case k8 => k_is)
    (case a9 => k_is)
    (case l9 => k_is)
    (case c9 => k_is)
    (case k9 => k_is)
    (case a10 => k_is)
    (case l10 => k_is)
    (case c10 => k_is)
    (case k10 => k_is)
    (case a11 => k_is)
    (case l11 => k_is)
    (case c11 => k_is)
    (case k11 => k_is)
    (case a12 => k_is)
    (case l12 => k_is)
    (case c12 => k_is)
    (case k12 => k_is)
    (case a13 => k_is)
    (case l13 => k_is)
    (case c13 => k_is)
    (case k13 => k_is)
    (case a14 => k_is)
    (case l14 => k_is)
    (case c14 => k_is)
    (case k14 => k_is)
    (case a15 => k_is)
    (case l15 => k_is)
    (case c15 => k_is)
    (case k15 => k_is)
    (case a16 => k_is)
    (case l16 => k_is)
    (case c16 => k_is)
    (case k16 => k_is)
    (case a17 => k_is)
    (case l17 => k_is)
    (case c17 => k_is)
    (case k17 => k_is)
    (case a18 => k_is)
    (case l18 => k_is)
    (case c18 => k_is)
    (case k18 => k_is)
    (case a19 => k_is)
    (case l19 => k_is)
    (case c19 => k_is)
    (case k19 => k_is)
    (case a20 => k_is)
    (case l20 => k_is)
    (case c20 => k_is)
    (case k20 => k_is)
    (case a21 => k_is)
    (case l21 => k_is)
    (case c21 => k_is)
    (case k21 => k_is)
    (case a22 => k_is)
    (case l22 => k_is)
    (case c22 => k_is)
    (case k22 => k_is)
    (case a23 => k_is)
    (case l23 => k_is)
    (case c23 => k_is)
    (case k23 => k_is)
    (case a24 => k_is)
    (case l24 => k_is)
    (case c24 => k_is)
    (case k24 => k_is)
    (case a25 => k_is)
    (case l25 => k_is)
    (case c25 => k_is)
    (case k25 => k_is)
    (case a26 => k_is)
    (case l26 => k_is)
    (case c26 => k_is)
    (case k26 => k_is)
    (case a27 => k_is)
    (case l27 => k_is)
    (case c27 => k_is)
    (case k27 => k_is)
    (case a28 => k_is)
    (case l28 => k_is)
    (case c28 => k_is)
    (case k28 => k_is)
    (case a29 => k_is)
    (case l29 => k_is)
    (case c29 => k_is)
    (case k29 => k_is)
    (case a30 => k_is)
    (case l30 => k_is)
    (case c30 => k_is)
    (case k30 => k_is)
    (case z1 => k_is)
    (case z2 => k_is)
    (case z3 => k_is)
    (case z4 => k_is)
    (case z5 => k_is)
    (case z6 => k_is)
    (case z7 => k_is)
    (case z8 => k_is)
    (case z9 => k_is)
    (case z10 => k_is)
    (case z11 => k_is)
    (case z12 => k_is)
    (case z13 => k_is)
    (case z14 => k_is)
    (case z15 => k_is)
    (case y1 => k_is)
    (case y2 => k_is)
