import PyProof.Rows.All
import Wide.All
import OpenK.AllK
import Wide.FinOn
import HandS.ForMost
import HandS.Exc
import HandS.EndBits
import HandS.WideBits
import HandS.TupAny
import HandS.TupMul
import HandS.TupLe
import HandS.Zip
import KE.GoesEnum
import HandS.Style
import HandS.IsInst
import HandS.SortInts
import HandS.NoneIn
import HandS.Conv
import HandS.More
import KE.Datum
import PyProof.WalkInts
import PyProof.WalksMore
import KE.DataMinMax
import KE.SortData
import KE.DataCmp
import PyProof.Rows.TupDisplay
import PySem.Challenge.RW_ringchief_k80_means_of_rounds
set_option Elab.async false
set_option linter.all false
set_option maxRecDepth 100000
set_option maxHeartbeats 4000000
namespace M
open PySem L2
/-! ### data: tuples are values -/
inductive D where
  | non | bl (b : Bool) | int (i : Int) | str (x : Str) | tup (xs : List D) | rl (xs : List D) | ref (a : Addr)
inductive MO where
  | lst (xs : List D) | dK (kvs : List (Key × D)) | dT (kvs : List (List Key × D)) | fT (kvs : List (List Key × D)) (ws : List (List Key × V)) (od : Obj)
abbrev MH := Addr → Option MO
def up (h : MH) (a : Addr) (o : MO) : MH := fun b => if b = a then some o else h b
theorem up_same {h : MH} {a : Addr} {o : MO} : up h a o a = some o := by unfold up; rw [if_pos rfl]
theorem up_ne {h : MH} {a b : Addr} {o : MO} (n : b ≠ a) : up h a o b = h b := by unfold up; rw [if_neg n]
theorem up_up {h : MH} {a : Addr} {o u : MO} : up (up h a o) a u = up h a u := by
  funext b; unfold up; split <;> rfl
theorem ne_of {h : MH} {a b : Addr} {o : MO} (e : h a = some o) (n : h b = none) : a ≠ b := by
  intro q; subst q; rw [e] at n; cases n

/-- an immutable list of the heap -/
def SqI (K : PySem.W.Frag) (H : Hp) (a : Addr) (xs : List V) : Prop :=
  (∃ o, H a = some (.frz o (.lst xs))) ∨
    ∃ (o : Obj) (its : Array Value) (n : Nat), K.lookup a = some o ∧ o.cls = .type "list" ∧ o.dict = none ∧ o.data = .seq its n ∧ its.size ≤ sizeLine ∧ Vals xs its.toList
theorem SqI.l {K : PySem.W.Frag} {H : Hp} {a : Addr} {xs : List V} (h : SqI K H a xs) : SqL K H a xs := by
  rcases h with ⟨o, h⟩ | h
  · exact .inl (.inr ⟨o, h⟩)
  · exact .inr h
mutual
def RV (K : PySem.W.Frag) (H : Hp) : D → V → Prop
  | .non, v => v = .non
  | .bl b, v => v = .bl b
  | .int i, v => v = .int i
  | .str x, v => v = .str x
  | .tup ds, v => ∃ a vs, v = .ref a ∧ SqT K H a vs ∧ RVs K H ds vs
  | .rl ds, v => ∃ a vs, v = .ref a ∧ SqI K H a vs ∧ RVs K H ds vs
  | .ref a, v => v = .ref a
def RVs (K : PySem.W.Frag) (H : Hp) : List D → List V → Prop
  | [], vs => vs = []
  | d :: ds, vs => ∃ v r, vs = v :: r ∧ RV K H d v ∧ RVs K H ds r
end
/-- immutable things stay -/
def TL (H H' : Hp) : Prop := (∀ a xs, H a = some (.tup xs) → H' a = some (.tup xs)) ∧ ∀ a o u, H a = some (.frz o u) → (∀ ws, u ≠ .dT ws) → H' a = some (.frz o u)
theorem TL.refl (H : Hp) : TL H H := ⟨fun _ _ h => h, fun _ _ _ h _ => h⟩
theorem TL.trans {H H1 H2 : Hp} (a : TL H H1) (b : TL H1 H2) : TL H H2 := ⟨fun c xs h => b.1 c xs (a.1 c xs h), fun c o u h n => b.2 c o u (a.2 c o u h n) n⟩
theorem TL.new {H : Hp} {p : Addr} {o : HO} (n : H p = none) : TL H (upd H p o) :=
  ⟨fun a xs h => by rw [upd_ne (L2.ne_of_none h n)]; exact h, fun a o' u h _ => by rw [upd_ne (L2.ne_of_none h n)]; exact h⟩
/-- a store at what is neither a tuple nor locked -/
theorem TL.put {H : Hp} {p : Addr} {o u : HO} (n : H p = some u) (h1 : ∀ xs, u ≠ .tup xs) (h2 : ∀ a b, u ≠ .frz a b) : TL H (upd H p o) := by
  refine ⟨fun a xs h => ?_, fun a o' w h _ => ?_⟩
  · rw [upd_ne (fun e => ?_)]
    · exact h
    · subst e; rw [n] at h; cases h; exact h1 xs rfl
  · rw [upd_ne (fun e => ?_)]
    · exact h
    · subst e; rw [n] at h; cases h; exact h2 _ _ rfl
section
variable {K : PySem.W.Frag} {H H' : Hp}
theorem sqT_mono (t : TL H H') {a : Addr} {vs : List V} (h : SqT K H a vs) : SqT K H' a vs := by
  rcases h with (h | ⟨o, h⟩) | h
  · exact .inl (.inl (t.1 a vs h))
  · exact .inl (.inr ⟨o, t.2 a o _ h fun _ z => by cases z⟩)
  · exact .inr h
theorem sqI_mono (t : TL H H') {a : Addr} {vs : List V} (h : SqI K H a vs) : SqI K H' a vs := by
  rcases h with ⟨o, h⟩ | h
  · exact .inl ⟨o, t.2 a o _ h fun _ z => by cases z⟩
  · exact .inr h
mutual
theorem RV.mono (t : TL H H') : ∀ {d : D} {v : V}, RV K H d v → RV K H' d v
  | .non, _, h => by simpa only [RV] using h
  | .bl _, _, h => by simpa only [RV] using h
  | .int _, _, h => by simpa only [RV] using h
  | .str _, _, h => by simpa only [RV] using h
  | .ref _, _, h => by simpa only [RV] using h
  | .tup _, _, h => by
    simp only [RV] at h ⊢
    obtain ⟨a, vs, e, q, r⟩ := h
    exact ⟨a, vs, e, sqT_mono t q, RVs.mono t r⟩
  | .rl _, _, h => by
    simp only [RV] at h ⊢
    obtain ⟨a, vs, e, q, r⟩ := h
    exact ⟨a, vs, e, sqI_mono t q, RVs.mono t r⟩
theorem RVs.mono (t : TL H H') : ∀ {ds : List D} {vs : List V}, RVs K H ds vs → RVs K H' ds vs
  | [], _, h => by simpa only [RVs] using h
  | d :: ds, _, h => by
    simp only [RVs] at h ⊢
    obtain ⟨v, r, e, q, s⟩ := h
    exact ⟨v, r, e, RV.mono t q, RVs.mono t s⟩
end
theorem rv_int {i : Int} : RV K H (.int i) (.int i) := by simp only [RV]
theorem rv_bl {i : Bool} : RV K H (.bl i) (.bl i) := by simp only [RV]
theorem rv_str {i : Str} : RV K H (.str i) (.str i) := by simp only [RV]
theorem rv_non : RV K H .non .non := by simp only [RV]
theorem rv_ref {a : Addr} : RV K H (.ref a) (.ref a) := by simp only [RV]
theorem rv_tup {ds : List D} {a : Addr} {vs : List V} (h : SqT K H a vs) (r : RVs K H ds vs) : RV K H (.tup ds) (.ref a) := by
  simp only [RV]; exact ⟨a, vs, rfl, h, r⟩
theorem RV.tup {ds : List D} {v : V} (h : RV K H (.tup ds) v) : ∃ a vs, v = .ref a ∧ SqT K H a vs ∧ RVs K H ds vs := by simpa only [RV] using h
theorem RV.rl {ds : List D} {v : V} (h : RV K H (.rl ds) v) : ∃ a vs, v = .ref a ∧ SqI K H a vs ∧ RVs K H ds vs := by simpa only [RV] using h
theorem RV.int {i : Int} {v : V} (h : RV K H (.int i) v) : v = .int i := by simpa only [RV] using h
theorem RV.bl {i : Bool} {v : V} (h : RV K H (.bl i) v) : v = .bl i := by simpa only [RV] using h
theorem RV.str {i : Str} {v : V} (h : RV K H (.str i) v) : v = .str i := by simpa only [RV] using h
theorem RV.non {v : V} (h : RV K H .non v) : v = .non := by simpa only [RV] using h
theorem RV.ref {a : Addr} {v : V} (h : RV K H (.ref a) v) : v = .ref a := by simpa only [RV] using h
theorem RVs.nil : RVs K H [] [] := by simp only [RVs]
theorem RVs.cons {d : D} {v : V} {ds : List D} {vs : List V} (h : RV K H d v) (r : RVs K H ds vs) : RVs K H (d :: ds) (v :: vs) := by
  simp only [RVs]; exact ⟨v, vs, rfl, h, r⟩
theorem RVs.inv {d : D} {ds : List D} {vs : List V} (h : RVs K H (d :: ds) vs) : ∃ v r, vs = v :: r ∧ RV K H d v ∧ RVs K H ds r := by simpa only [RVs] using h
theorem RVs.inv0 {vs : List V} (h : RVs K H [] vs) : vs = [] := by simpa only [RVs] using h
theorem RVs.length : ∀ {ds : List D} {vs : List V}, RVs K H ds vs → ds.length = vs.length
  | [], _, h => by rw [h.inv0] <;> rfl
  | d :: ds, _, h => by
    obtain ⟨v, r, rfl, _, s⟩ := h.inv
    simp [s.length]
theorem RVs.get : ∀ {ds : List D} {vs : List V} {i : Nat} {d : D}, RVs K H ds vs → ds[i]? = some d → ∃ v, vs[i]? = some v ∧ RV K H d v
  | [], _, _, _, _, e => by simp at e
  | x :: ds, _, 0, d, h, e => by
    obtain ⟨v, r, rfl, q, _⟩ := h.inv
    simp at e; subst e
    exact ⟨v, by simp, q⟩
  | x :: ds, _, i + 1, d, h, e => by
    obtain ⟨v, r, rfl, _, s⟩ := h.inv
    obtain ⟨w, e1, q⟩ := s.get (by simpa using e)
    exact ⟨w, by simpa using e1, q⟩
theorem RVs.get' {ds : List D} {vs : List V} {i : Nat} {v : V} (h : RVs K H ds vs) (e : vs[i]? = some v) : ∃ d, ds[i]? = some d ∧ RV K H d v := by
  have hl := h.length
  have hi : i < ds.length := by rw [hl]; exact (List.getElem?_eq_some_iff.mp e).1
  obtain ⟨w, e1, q⟩ := h.get (List.getElem?_eq_getElem hi)
  rw [e] at e1
  cases e1
  exact ⟨_, List.getElem?_eq_getElem hi, q⟩
theorem RVs.append : ∀ {ds es : List D} {vs ws : List V}, RVs K H ds vs → RVs K H es ws → RVs K H (ds ++ es) (vs ++ ws)
  | [], _, _, _, h, s => by rw [h.inv0]; exact s
  | d :: ds, _, _, _, h, s => by
    obtain ⟨v, r, rfl, q, t⟩ := h.inv
    exact .cons q (t.append s)
theorem RVs.take : ∀ {ds : List D} {vs : List V} (n : Nat), RVs K H ds vs → RVs K H (ds.take n) (vs.take n)
  | _, _, 0, _ => by simp only [List.take_zero]; exact .nil
  | [], _, n + 1, h => by rw [h.inv0]; exact .nil
  | d :: ds, _, n + 1, h => by
    obtain ⟨v, r, rfl, q, t⟩ := h.inv
    exact .cons q (t.take n)
theorem RVs.drop : ∀ {ds : List D} {vs : List V} (n : Nat), RVs K H ds vs → RVs K H (ds.drop n) (vs.drop n)
  | _, _, 0, h => h
  | [], _, n + 1, h => by rw [h.inv0]; exact .nil
  | d :: ds, _, n + 1, h => by
    obtain ⟨v, r, rfl, q, t⟩ := h.inv
    exact t.drop n
theorem RVs.set : ∀ {ds : List D} {vs : List V} {d : D} {v : V} (i : Nat), RVs K H ds vs → RV K H d v → RVs K H (ds.set i d) (vs.set i v)
  | [], _, _, _, _, h, _ => by rw [h.inv0]; exact .nil
  | x :: ds, _, d, w, 0, h, q => by
    obtain ⟨v, r, rfl, _, t⟩ := h.inv
    exact .cons q t
  | x :: ds, _, d, w, i + 1, h, q => by
    obtain ⟨v, r, rfl, p, t⟩ := h.inv
    exact .cons p (t.set i q)
theorem RVs.ints : ∀ {ns : List Int} {vs : List V}, RVs K H (ns.map D.int) vs → vs = ns.map V.int
  | [], _, h => h.inv0
  | n :: ns, _, h => by
    obtain ⟨v, r, rfl, q, t⟩ := h.inv
    rw [q.int, t.ints]; rfl
theorem RVs.of_ints : ∀ {ns : List Int}, RVs K H (ns.map D.int) (ns.map V.int)
  | [] => .nil
  | n :: ns => .cons rv_int .of_ints
theorem RVs.bls : ∀ {ns : List Bool} {vs : List V}, RVs K H (ns.map D.bl) vs → vs = ns.map V.bl
  | [], _, h => h.inv0
  | n :: ns, _, h => by
    obtain ⟨v, r, rfl, q, t⟩ := h.inv
    rw [q.bl, t.bls]; rfl
theorem RVs.strs : ∀ {ns : List Str} {vs : List V}, RVs K H (ns.map D.str) vs → vs = ns.map V.str
  | [], _, h => h.inv0
  | n :: ns, _, h => by
    obtain ⟨v, r, rfl, q, t⟩ := h.inv
    rw [q.str, t.strs]; rfl
theorem RVs.of_strs : ∀ {ns : List Str}, RVs K H (ns.map D.str) (ns.map V.str)
  | [] => .nil
  | n :: ns => .cons rv_str .of_strs
end
/-- entries -/
def RKV {κ : Type} (K : PySem.W.Frag) (H : Hp) (kvs : List (κ × D)) (ws : List (κ × V)) : Prop := kvs.map (·.1) = ws.map (·.1) ∧ RVs K H (kvs.map (·.2)) (ws.map (·.2))
theorem RKV.mono {κ : Type} {K : PySem.W.Frag} {H H' : Hp} (t : TL H H') {kvs : List (κ × D)} {ws : List (κ × V)} (h : RKV K H kvs ws) : RKV K H' kvs ws := ⟨h.1, h.2.mono t⟩
def RO (K : PySem.W.Frag) (H : Hp) : MO → HO → Prop
  | .lst ds, o => ∃ vs, o = .lst vs ∧ RVs K H ds vs
  | .dK kvs, o => ∃ ws, o = .dK ws ∧ RKV K H kvs ws
  | .dT kvs, o => ∃ ws, o = .dT ws ∧ RKV K H kvs ws
  | .fT kvs ws od, o => o = .frz od (.dT ws) ∧ RKV K H kvs ws
theorem RO.mono {K : PySem.W.Frag} {H H' : Hp} (t : TL H H') : ∀ {m : MO} {o : HO}, RO K H m o → RO K H' m o
  | .lst _, _, ⟨vs, e, r⟩ => ⟨vs, e, r.mono t⟩
  | .dK _, _, ⟨vs, e, r⟩ => ⟨vs, e, r.mono t⟩
  | .dT _, _, ⟨vs, e, r⟩ => ⟨vs, e, r.mono t⟩
  | .fT _ _ _, _, ⟨e, r⟩ => ⟨e, r.mono t⟩
def HR (K : PySem.W.Frag) (h : MH) (H : Hp) : Prop := ∀ a o, h a = some o → ∃ u, H a = some u ∧ RO K H o u
section
variable {K : PySem.W.Frag} {h : MH} {H H' : Hp}
theorem HR.free (r : HR K h H) {p : Addr} (n : H p = none) : h p = none := by
  cases e : h p with
  | none => rfl
  | some o =>
    obtain ⟨u, e1, _⟩ := r p o e
    rw [n] at e1; cases e1
theorem HR.lst (r : HR K h H) {a : Addr} {ds : List D} (e : h a = some (.lst ds)) : ∃ vs, H a = some (.lst vs) ∧ RVs K H ds vs := by
  obtain ⟨u, e1, vs, rfl, q⟩ := r a _ e
  exact ⟨vs, e1, q⟩
theorem HR.dK (r : HR K h H) {a : Addr} {ds : List (Key × D)} (e : h a = some (.dK ds)) : ∃ vs, H a = some (.dK vs) ∧ RKV K H ds vs := by
  obtain ⟨u, e1, vs, rfl, q⟩ := r a _ e
  exact ⟨vs, e1, q⟩
theorem HR.dT (r : HR K h H) {a : Addr} {ds : List (List Key × D)} (e : h a = some (.dT ds)) : ∃ vs, H a = some (.dT vs) ∧ RKV K H ds vs := by
  obtain ⟨u, e1, vs, rfl, q⟩ := r a _ e
  exact ⟨vs, e1, q⟩
theorem HR.fT (r : HR K h H) {a : Addr} {ds : List (List Key × D)} {ws : List (List Key × V)} {od : Obj} (e : h a = some (.fT ds ws od)) : H a = some (.frz od (.dT ws)) ∧ RKV K H ds ws := by
  obtain ⟨u, e1, rfl, q⟩ := r a _ e
  exact ⟨e1, q⟩
/-- locked, let go -/
theorem TL.lock {H : Hp} {p : Addr} {ws : List (List Key × V)} {o : Obj} (n : H p = some (.dT ws)) : TL H (upd H p (.frz o (.dT ws))) := by
  refine ⟨fun a xs h => ?_, fun a o' w h _ => ?_⟩
  · rw [upd_ne (fun e => by subst e; rw [n] at h; cases h)]; exact h
  · rw [upd_ne (fun e => by subst e; rw [n] at h; cases h)]; exact h
theorem TL.unlock {H : Hp} {p : Addr} {ws : List (List Key × V)} {o : Obj} (n : H p = some (.frz o (.dT ws))) : TL H (upd H p (.dT ws)) := by
  refine ⟨fun a xs h => ?_, fun a o' w h nw => ?_⟩
  · rw [upd_ne (fun e => by subst e; rw [n] at h; cases h)]; exact h
  · rw [upd_ne (fun e => by subst e; rw [n] at h; cases h; exact nw _ rfl)]; exact h
/-- a new thing of L2 that h does not see (a tuple) -/
theorem HR.skip (r : HR K h H) {p : Addr} {o : HO} (n : H p = none) : HR K h (upd H p o) := fun a m e => by
  obtain ⟨u, e1, q⟩ := r a m e
  exact ⟨u, by rw [upd_ne (L2.ne_of_none e1 n)]; exact e1, q.mono (.new n)⟩
theorem HR.put (r : HR K h H) {p : Addr} {m : MO} {o : HO} (t : TL H (upd H p o)) (q : RO K (upd H p o) m o) : HR K (up h p m) (upd H p o) := fun a n e => by
  by_cases c : a = p
  · subst c
    rw [up_same] at e
    cases e
    exact ⟨o, upd_same, q⟩
  · rw [up_ne c] at e
    obtain ⟨u, e1, q1⟩ := r a n e
    exact ⟨u, by rw [upd_ne c]; exact e1, q1.mono t⟩
theorem HR.new (r : HR K h H) {p : Addr} {m : MO} {o : HO} (n : H p = none) (q : RO K H m o) : HR K (up h p m) (upd H p o) := r.put (.new n) (q.mono (.new n))
end
/-! ### environments -/
abbrev ME := List (Option D)
def REnv (K : PySem.W.Frag) (Hb H : Hp) (env : ME) (σ : L2.St) : Prop := TL Hb H ∧ env.length = σ.length ∧ ∀ (i : Nat) (d : D), env[i]? = some (some d) → ∃ v, σ[i]? = some (some v) ∧ RV K H d v
theorem REnv.mono {K : PySem.W.Frag} {Hb H H' : Hp} {env : ME} {σ : L2.St} (t : TL H H') (r : REnv K Hb H env σ) : REnv K Hb H' env σ :=
  ⟨r.1.trans t, r.2.1, fun i d e => let ⟨v, e1, q⟩ := r.2.2 i d e; ⟨v, e1, q.mono t⟩⟩
theorem REnv.set {K : PySem.W.Frag} {Hb H : Hp} {env : ME} {σ : L2.St} {d : D} {v : V} (r : REnv K Hb H env σ) (i : Nat) (q : RV K H d v) : REnv K Hb H (env.set i (some d)) (σ.set i (some v)) := by
  refine ⟨r.1, by rw [List.length_set, List.length_set]; exact r.2.1, fun j d' e => ?_⟩
  by_cases c : i = j
  · subst c
    by_cases hl : i < env.length
    · rw [List.getElem?_set_self hl] at e
      cases e
      exact ⟨v, List.getElem?_set_self (by rw [← r.2.1]; exact hl), q⟩
    · rw [List.getElem?_eq_none (by rw [List.length_set]; omega)] at e
      cases e
  · rw [List.getElem?_set_ne c] at e ⊢
    exact r.2.2 j d' e
/-! ### lifting -/
abbrev MQ := D → MH → Prop
abbrev MTE := ME → MH → MQ → Prop
abbrev MTT := ME → MH → (Bool → MH → Prop) → Prop
abbrev MTA := ME → MH → (List D → MH → Prop) → Prop
def lift (K : PySem.W.Frag) (Hb : Hp) (m : MTE) : TE := fun σ H Q => ∃ env h, ∃ Q0 : MQ, REnv K Hb H env σ ∧ HR K h H ∧ m env h Q0 ∧ ∀ d h', Q0 d h' → ∀ v H', TL H H' → HR K h' H' → RV K H' d v → Q v H'
def liftT (K : PySem.W.Frag) (Hb : Hp) (m : MTT) : TT := fun σ H Q => ∃ env h, ∃ Q0 : Bool → MH → Prop, REnv K Hb H env σ ∧ HR K h H ∧ m env h Q0 ∧ ∀ d h', Q0 d h' → ∀ H', TL H H' → HR K h' H' → Q d H'
def liftA (K : PySem.W.Frag) (Hb : Hp) (m : MTA) : TA := fun σ H Q => ∃ env h, ∃ Q0 : List D → MH → Prop, REnv K Hb H env σ ∧ HR K h H ∧ m env h Q0 ∧ ∀ ds h', Q0 ds h' → ∀ vs H', TL H H' → HR K h' H' → RVs K H' ds vs → Q vs H'
structure MEnds where
  nx : ME → MH → Prop
  rt : MQ
  bk : ME → MH → Prop := fun _ _ => False
  ct : ME → MH → Prop := fun _ _ => False
abbrev MTS := MEnds → ME → MH → Prop
def liftS (K : PySem.W.Frag) (Hb : Hp) (m : MTS) : TS := fun D' σ H => ∃ env h, ∃ D0 : MEnds, REnv K Hb H env σ ∧ HR K h H ∧ m D0 env h ∧
  (∀ env' h', D0.nx env' h' → ∀ σ' H', TL H H' → REnv K Hb H' env' σ' → HR K h' H' → D'.nx σ' H') ∧
  (∀ d h', D0.rt d h' → ∀ v H', TL H H' → RV K H' d v → HR K h' H' → D'.rt v H') ∧
  (∀ env' h', D0.bk env' h' → ∀ σ' H', TL H H' → REnv K Hb H' env' σ' → HR K h' H' → D'.bk σ' H') ∧
  (∀ env' h', D0.ct env' h' → ∀ σ' H', TL H H' → REnv K Hb H' env' σ' → HR K h' H' → D'.ct σ' H')
/-- the judgements -/
def IE (X : Cx) (Hb : Hp) (e : Expr) (m : MTE) : Prop := PE X e (lift X.K Hb m)
def IT (X : Cx) (Hb : Hp) (e : Expr) (m : MTT) : Prop := PT X e (liftT X.K Hb m)
def IW (X : Cx) (Hb : Hp) (e : Expr) (m : MTT) : Prop := PW X e (liftT X.K Hb m)
def IA (X : Cx) (Hb : Hp) (es : List Expr) (m : MTA) : Prop := PA X es (liftA X.K Hb m)
def IS (X : Cx) (Hb : Hp) (s : Stmt) (m : MTS) : Prop := PS X s (liftS X.K Hb m)
def ISs (X : Cx) (Hb : Hp) (s : List Stmt) (m : MTS) : Prop := PSs X s (liftS X.K Hb m)
theorem pe_w {X : Cx} {e : Expr} {t t' : TE} (h : PE X e t) (w : ∀ σ H Q, t' σ H Q → t σ H Q) : PE X e t' := ⟨fun pins s σ H Q I q => h.run pins s σ H Q I (w σ H Q q)⟩
theorem pt_w {X : Cx} {e : Expr} {t t' : TT} (h : PT X e t) (w : ∀ σ H Q, t' σ H Q → t σ H Q) : PT X e t' := ⟨fun pins s σ H Q I q => h.run pins s σ H Q I (w σ H Q q)⟩
theorem pw_w {X : Cx} {e : Expr} {t t' : TT} (h : PW X e t) (w : ∀ σ H Q, t' σ H Q → t σ H Q) : PW X e t' := ⟨fun wh pins s σ H Q I q => h.run wh pins s σ H Q I (w σ H Q q)⟩
theorem pa_w {X : Cx} {e : List Expr} {t t' : TA} (h : PA X e t) (w : ∀ σ H Q, t' σ H Q → t σ H Q) : PA X e t' := ⟨fun pos pins s σ H Q I q => h.run pos pins s σ H Q I (w σ H Q q)⟩
theorem ps_w {X : Cx} {e : Stmt} {t t' : TS} (h : PS X e t) (w : ∀ D' σ H, t' D' σ H → t D' σ H) : PS X e t' := ⟨fun pins s σ H D' I q => h.run pins s σ H D' I (w D' σ H q)⟩
theorem pss_w {X : Cx} {e : List Stmt} {t t' : TS} (h : PSs X e t) (w : ∀ D' σ H, t' D' σ H → t D' σ H) : PSs X e t' := ⟨fun pins s σ H D' I q => h.run pins s σ H D' I (w D' σ H q)⟩
end M

namespace M
open PySem L2
/-! ### expressions -/
def Fin (K : PySem.W.Frag) (H : Hp) (Q0 : MQ) (Q : VK) : Prop := ∀ d h', Q0 d h' → ∀ v H', TL H H' → HR K h' H' → RV K H' d v → Q v H'
theorem Fin.mono {K : PySem.W.Frag} {H H' : Hp} {Q0 : MQ} {Q : VK} (t : TL H H') (f : Fin K H Q0 Q) : Fin K H' Q0 Q := fun d h' q v H2 t2 => f d h' q v H2 (t.trans t2)
abbrev MR1 := D → MH → MQ → Prop
abbrev MR2 := D → D → MH → MQ → Prop
abbrev MRA := List D → MH → MQ → Prop
def OpM (X : Cx) (f : Value → Value → Sem Value) (r : MR2) : Prop :=
  ∃ R : R2, OpR X f R ∧ ∀ (x y : D) (h : MH) (Q0 : MQ) (vx vy : V) (H : Hp) (Q : VK), r x y h Q0 → HR X.K h H → RV X.K H x vx → RV X.K H y vy → Fin X.K H Q0 Q → R vx vy H Q
def UnM (X : Cx) (f : Value → Sem Value) (r : MR1) : Prop :=
  ∃ R : V → Hp → VK → Prop, UnR X f R ∧ ∀ (x : D) (h : MH) (Q0 : MQ) (vx : V) (H : Hp) (Q : VK), r x h Q0 → HR X.K h H → RV X.K H x vx → Fin X.K H Q0 Q → R vx H Q
def IxM (X : Cx) (r : MR2) : Prop :=
  ∃ R : R2, IxR X R ∧ ∀ (x y : D) (h : MH) (Q0 : MQ) (vx vy : V) (H : Hp) (Q : VK), r x y h Q0 → HR X.K h H → RV X.K H x vx → RV X.K H y vy → Fin X.K H Q0 Q → R vx vy H Q
def CaM (X : Cx) (f : Value) (r : MRA) : Prop :=
  ∃ R : List V → Hp → VK → Prop, CallR X f R ∧ ∀ (xs : List D) (h : MH) (Q0 : MQ) (vs : List V) (H : Hp) (Q : VK), r xs h Q0 → HR X.K h H → RVs X.K H xs vs → Fin X.K H Q0 Q → R vs H Q
def mVar (i : Nat) : MTE := fun env h Q => ∃ d, env[i]? = some (some d) ∧ Q d h
def mC (d : D) : MTE := fun _ h Q => Q d h
def mOp (r : MR2) (a b : MTE) : MTE := fun env h Q => a env h fun x h1 => b env h1 fun y h2 => r x y h2 Q
def mUn (r : MR1) (a : MTE) : MTE := fun env h Q => a env h fun x h1 => r x h1 Q
def mNil : MTA := fun _ h Q => Q [] h
def mCons (a : MTE) (r : MTA) : MTA := fun env h Q => a env h fun x h1 => r env h1 fun xs h2 => Q (x :: xs) h2
def mTup (t : MTA) : MTE := fun env h Q => t env h fun xs h1 => xs.length ≤ sizeLine ∧ Q (.tup xs) h1
def mLst (t : MTA) : MTE := fun env h Q => t env h fun xs h1 => xs.length ≤ sizeLine ∧ ∀ p, h1 p = none → Q (.ref p) (up h1 p (.lst xs))
def mCa (r : MRA) (t : MTA) : MTE := fun env h Q => t env h fun xs h1 => r xs h1 Q
def mTest (a : MTE) : MTT := fun env h Q => a env h fun x h1 => ∃ b, x = .bl b ∧ Q b h1
def mAnd (a b : MTT) : MTT := fun env h Q => a env h fun c h1 => if c = true then b env h1 Q else Q false h1
def mOr (a b : MTT) : MTT := fun env h Q => a env h fun c h1 => if c = true then Q true h1 else b env h1 Q
def mNot (a : MTT) : MTT := fun env h Q => a env h fun c h1 => Q (!c) h1
def mAndV (a b : MTE) : MTE := fun env h Q => a env h fun x h1 => ∃ c, x = .bl c ∧ if c = true then b env h1 Q else Q (.bl false) h1
def mOrV (a b : MTE) : MTE := fun env h Q => a env h fun x h1 => ∃ c, x = .bl c ∧ if c = true then Q (.bl true) h1 else b env h1 Q
def mNotV (a : MTT) : MTE := fun env h Q => a env h fun c h1 => Q (.bl (!c)) h1
def mIfE (c : MTT) (a b : MTE) : MTE := fun env h Q => c env h fun k h1 => if k = true then a env h1 Q else b env h1 Q
def mChain (r r' : MR2) (a b c : MTE) : MTE := fun env h Q => a env h fun x h1 => b env h1 fun y h2 => r x y h2 fun z h3 => ∃ k, z = .bl k ∧ if k = true then (c env h3 fun w h4 => r' y w h4 Q) else Q (.bl false) h3
section
variable {X : Cx} {Hb : Hp} {a b c e : Expr} {es : List Expr} {ma mb mc : MTE} {pos : Pos} {mt mu : MTT} {ms : MTA} {r r' : MR2}
theorem ie_var (i : Nat) {x : Str} {pos : Pos} (hN : X.N[i]? = some x := by rfl) (hv : Vis X.env.scope x := by first | exact Or.inl rfl | exact Or.inr (Or.inl rfl) | exact Or.inr (Or.inr rfl)) (hd : (x == ("__debug__" : Str)) = false := by decide)
    (hcd : (x == ("__classdict__" : Str)) = false := by decide) : IE X Hb (.Name x pos) (mVar i) :=
  pe_w (pe_var hN hv hd hcd) fun σ H Q ⟨env, h, Q0, re, rh, ⟨d, e, q⟩, f⟩ => let ⟨v, e1, rv⟩ := re.2.2 i d e; ⟨v, e1, f d h q v H (.refl H) rh rv⟩
theorem ie_c {t : V} {d : D} (h : PE X e (tC t)) (r : ∀ H, RV X.K H d t) : IE X Hb e (mC d) :=
  pe_w h fun σ H Q ⟨env, h, Q0, re, rh, q, f⟩ => f d h q t H (.refl H) rh (r H)
theorem ie_int {i j pos} : IE X Hb (.Constant (.int i) j pos) (mC (.int i)) := ie_c pe_int fun _ => rv_int
theorem ie_bl {i j pos} : IE X Hb (.Constant (.bool i) j pos) (mC (.bl i)) := ie_c pe_bl fun _ => rv_bl
theorem ie_non {j pos} : IE X Hb (.Constant .none j pos) (mC .non) := ie_c pe_non fun _ => rv_non
theorem ie_str {i j pos} : IE X Hb (.Constant (.str i) j pos) (mC (.str i)) := ie_c pe_str fun _ => rv_str
/-- the common move -/
theorem two {σ : L2.St} {H : Hp} {Q : VK} {env : ME} {h : MH} {Q0 : MQ} {R : R2} {K : PySem.W.Frag} (re : REnv K Hb H env σ) (rh : HR K h H) (m : mOp r ma mb env h Q0) (f : Fin K H Q0 Q)
    (hi : ∀ (x y : D) (h : MH) (Q0 : MQ) (vx vy : V) (H : Hp) (Q : VK), r x y h Q0 → HR K h H → RV K H x vx → RV K H y vy → Fin K H Q0 Q → R vx vy H Q) : tOp R (lift K Hb ma) (lift K Hb mb) σ H Q := by
  refine ⟨env, h, _, re, rh, m, fun x h1 q1 vx H1 t1 r1 rx => ?_⟩
  refine ⟨env, h1, _, re.mono t1, r1, q1, fun y h2 q2 vy H2 t2 r2 ry => ?_⟩
  exact hi x y h2 Q0 vx vy H2 Q q2 r2 (rx.mono t2) ry (Fin.mono (t1.trans t2) f)
theorem ie_op {op : Operator} (ho : OpM X (binaryOp op) r) (ha : IE X Hb a ma) (hb : IE X Hb b mb) : IE X Hb (.BinOp a op b pos) (mOp r ma mb) := by
  obtain ⟨R, hR, hi⟩ := ho
  exact pe_w (pe_op hR ha hb) fun σ H Q ⟨env, h, Q0, re, rh, m, f⟩ => two re rh m f hi
theorem ie_ix (ho : IxM X r) (ha : IE X Hb a ma) (hb : IE X Hb b mb) (hs : PlainIx b) : IE X Hb (.Subscript a b pos) (mOp r ma mb) := by
  obtain ⟨R, hR, hi⟩ := ho
  exact pe_w (pe_ix hR ha hb hs) fun σ H Q ⟨env, h, Q0, re, rh, m, f⟩ => two re rh m f hi
theorem ie_cmp {op : CmpOp} (ho : OpM X (compareOp op) r) (ha : IE X Hb a ma) (hb : IE X Hb b mb) (hm : behindInMarks op b = false) : IE X Hb (.Compare a [op] [b] pos) (mOp r ma mb) := by
  obtain ⟨R, hR, hi⟩ := ho
  exact pe_w (pe_cmpR hR ha hb hm) fun σ H Q ⟨env, h, Q0, re, rh, m, f⟩ => two re rh m f hi
theorem it_cmp {op : CmpOp} (ho : OpM X (compareOp op) r) (ha : IE X Hb a ma) (hb : IE X Hb b mb) (hm : behindInMarks op b = false) : IT X Hb (.Compare a [op] [b] pos) (mTest (mOp r ma mb)) := by
  obtain ⟨R, hR, hi⟩ := ho
  refine pt_w (pt_cmpR hR ha hb hm) fun σ H Q ⟨env, h, Q0, re, rh, m, f⟩ => ?_
  refine two re rh m ?_ hi
  rintro d h' ⟨k, rfl, q⟩ v H' t' rh' rv
  rw [rv.bl]
  exact ⟨k, rfl, f k h' q H' t' rh'⟩
theorem ie_un {op : UnaryOp} {r : MR1} (ho : UnM X (unaryOp op) r) (ha : IE X Hb a ma) : IE X Hb (.UnaryOp op a pos) (mUn r ma) := by
  obtain ⟨R, hR, hi⟩ := ho
  refine pe_w (pe_un hR ha) fun σ H Q ⟨env, h, Q0, re, rh, m, f⟩ => ?_
  refine ⟨env, h, _, re, rh, m, fun x h1 q1 vx H1 t1 r1 rx => ?_⟩
  exact hi x h1 Q0 vx H1 Q q1 r1 rx (Fin.mono t1 f)
theorem it_val (h : IE X Hb e ma) (he : ∀ whole, isTrue e X.env whole = (do let v ← whole; standAt e.pos; holding [v] (truthy v)) := by intro _; rfl) : IT X Hb e (mTest ma) := by
  refine pt_w (pt_val h he) fun σ H Q ⟨env, h, Q0, re, rh, m, f⟩ => ?_
  refine ⟨env, h, _, re, rh, m, ?_⟩
  rintro d h' ⟨k, rfl, q⟩ v H' t' rh' rv
  rw [rv.bl]
  exact ⟨k, rfl, f k h' q H' t' rh'⟩
theorem IW.it (h : IW X Hb e mt) : IT X Hb e mt := PW.pt h
theorem iw_and1 (h : IT X Hb a mt) : IW X Hb (.BoolOp .And [a] pos) mt := pw_and1 h
theorem iw_or1 (h : IT X Hb a mt) : IW X Hb (.BoolOp .Or [a] pos) mt := pw_or1 h
theorem iw_and {rest : List Expr} (h : IT X Hb a mt) (k : IW X Hb (.BoolOp .And (b :: rest) pos) mu) : IW X Hb (.BoolOp .And (a :: b :: rest) pos) (mAnd mt mu) := by
  refine pw_w (pw_and h k) fun σ H Q ⟨env, h, Q0, re, rh, m, f⟩ => ?_
  refine ⟨env, h, _, re, rh, m, fun k h1 q1 H1 t1 r1 => ?_⟩
  cases k with
  | true => exact ⟨env, h1, Q0, re.mono t1, r1, q1, fun d h' q H' t => f d h' q H' (t1.trans t)⟩
  | false => exact f false h1 q1 H1 t1 r1
theorem iw_or {rest : List Expr} (h : IT X Hb a mt) (k : IW X Hb (.BoolOp .Or (b :: rest) pos) mu) : IW X Hb (.BoolOp .Or (a :: b :: rest) pos) (mOr mt mu) := by
  refine pw_w (pw_or h k) fun σ H Q ⟨env, h, Q0, re, rh, m, f⟩ => ?_
  refine ⟨env, h, _, re, rh, m, fun k h1 q1 H1 t1 r1 => ?_⟩
  cases k with
  | false => exact ⟨env, h1, Q0, re.mono t1, r1, q1, fun d h' q H' t => f d h' q H' (t1.trans t)⟩
  | true => exact f true h1 q1 H1 t1 r1
theorem it_not (h : IT X Hb a mt) : IT X Hb (.UnaryOp .Not a pos) (mNot mt) := by
  refine pt_w (pt_not h) fun σ H Q ⟨env, h, Q0, re, rh, m, f⟩ => ?_
  exact ⟨env, h, _, re, rh, m, fun k h1 q1 H1 t1 r1 => f _ h1 q1 H1 t1 r1⟩
theorem ie_one {op} (h : IE X Hb a ma) : IE X Hb (.BoolOp op [a] pos) ma := pe_one h
theorem ie_and {rest : List Expr} (ha : IE X Hb a ma) (hb : IE X Hb (.BoolOp .And (b :: rest) pos) mb) : IE X Hb (.BoolOp .And (a :: b :: rest) pos) (mAndV ma mb) := by
  refine pe_w (pe_and ha hb) fun σ H Q ⟨env, h, Q0, re, rh, m, f⟩ => ?_
  refine ⟨env, h, _, re, rh, m, ?_⟩
  rintro d h1 ⟨k, rfl, q⟩ v H1 t1 r1 rv
  rw [rv.bl]
  refine ⟨k, rfl, ?_⟩
  cases k with
  | true => exact ⟨env, h1, Q0, re.mono t1, r1, q, Fin.mono t1 f⟩
  | false => exact f _ h1 q _ H1 t1 r1 rv_bl
theorem ie_or {rest : List Expr} (ha : IE X Hb a ma) (hb : IE X Hb (.BoolOp .Or (b :: rest) pos) mb) : IE X Hb (.BoolOp .Or (a :: b :: rest) pos) (mOrV ma mb) := by
  refine pe_w (pe_or ha hb) fun σ H Q ⟨env, h, Q0, re, rh, m, f⟩ => ?_
  refine ⟨env, h, _, re, rh, m, ?_⟩
  rintro d h1 ⟨k, rfl, q⟩ v H1 t1 r1 rv
  rw [rv.bl]
  refine ⟨k, rfl, ?_⟩
  cases k with
  | false => exact ⟨env, h1, Q0, re.mono t1, r1, q, Fin.mono t1 f⟩
  | true => exact f _ h1 q _ H1 t1 r1 rv_bl
theorem ie_not (ha : IE X Hb a ma) : IE X Hb (.UnaryOp .Not a pos) (mNotV (mTest ma)) := by
  refine pe_w (pe_not ha) fun σ H Q ⟨env, h, Q0, re, rh, m, f⟩ => ?_
  refine ⟨env, h, _, re, rh, m, ?_⟩
  rintro d h1 ⟨k, rfl, q⟩ v H1 t1 r1 rv
  rw [rv.bl]
  exact ⟨k, rfl, f _ h1 q _ H1 t1 r1 rv_bl⟩
theorem ie_ifE (hc : IT X Hb c mt) (ha : IE X Hb a ma) (hb : IE X Hb b mb) : IE X Hb (.IfExp c a b pos) (mIfE mt ma mb) := by
  refine pe_w (pe_ifExp hc ha hb) fun σ H Q ⟨env, h, Q0, re, rh, m, f⟩ => ?_
  refine ⟨env, h, _, re, rh, m, fun k h1 q1 H1 t1 r1 => ?_⟩
  cases k with
  | true => exact ⟨env, h1, Q0, re.mono t1, r1, q1, Fin.mono t1 f⟩
  | false => exact ⟨env, h1, Q0, re.mono t1, r1, q1, Fin.mono t1 f⟩
theorem ia_nil : IA X Hb [] mNil := pa_w pa_nil fun σ H Q ⟨env, h, Q0, re, rh, m, f⟩ => f [] h m [] H (.refl H) rh .nil
theorem ia_cons (ha : IE X Hb e ma) (hr : IA X Hb es ms) (hs : starEach (e :: es) X.env = (false, eval e X.env) :: starEach es X.env := by rfl) : IA X Hb (e :: es) (mCons ma ms) := by
  refine pa_w (pa_cons ha hr hs) fun σ H Q ⟨env, h, Q0, re, rh, m, f⟩ => ?_
  refine ⟨env, h, _, re, rh, m, fun x h1 q1 vx H1 t1 r1 rx => ?_⟩
  exact ⟨env, h1, _, re.mono t1, r1, q1, fun ds h2 q2 vs H2 t2 r2 rs => f _ h2 q2 _ H2 (t1.trans t2) r2 (.cons (rx.mono t2) rs)⟩
theorem ie_tup {x1} (h : IA X Hb es ms) : IE X Hb (.Tuple es x1 pos) (mTup ms) := by
  refine pe_w (pe_tup h) fun σ H Q ⟨env, h, Q0, re, rh, m, f⟩ => ?_
  refine ⟨env, h, _, re, rh, m, fun xs h1 ⟨z, q⟩ vs H1 t1 r1 rs => ⟨by rw [← rs.length]; exact z, fun p np => ?_⟩⟩
  exact f _ h1 q _ _ (t1.trans (.new np)) (r1.skip np) (rv_tup (.of upd_same) (rs.mono (.new np)))
theorem ie_lst (h : IA X Hb es ms) : IE X Hb (.List es pos) (mLst ms) := by
  refine pe_w (pe_lst h) fun σ H Q ⟨env, h, Q0, re, rh, m, f⟩ => ?_
  refine ⟨env, h, _, re, rh, m, fun xs h1 ⟨z, q⟩ vs H1 t1 r1 rs => ⟨by rw [← rs.length]; exact z, fun p np => ?_⟩⟩
  exact f _ _ (q p (r1.free np)) _ _ (t1.trans (.new np)) (r1.new np ⟨vs, rfl, rs⟩) rv_ref
theorem ie_chain {op op' : CmpOp} (ho : OpM X (compareOp op) r) (ho' : OpM X (compareOp op') r') (ha : IE X Hb a ma) (hb : IE X Hb b mb) (hc : IE X Hb c mc)
    (hm : lastMarks [op, op'] [b, c] = false := by rfl) : IE X Hb (.Compare a [op, op'] [b, c] pos) (mChain r r' ma mb mc) := by
  obtain ⟨R, hR, hi⟩ := ho
  obtain ⟨R', hR', hi'⟩ := ho'
  refine pe_w (pe_chain hR hR' ha hb hc hm) fun σ H Q ⟨env, h, Q0, re, rh, m, f⟩ => ?_
  refine ⟨env, h, _, re, rh, m, fun x h1 q1 vx H1 t1 r1 rx => ?_⟩
  refine ⟨env, h1, _, re.mono t1, r1, q1, fun y h2 q2 vy H2 t2 r2 ry => ?_⟩
  refine hi x y h2 _ vx vy H2 _ q2 r2 (rx.mono t2) ry ?_
  rintro d h3 ⟨k, rfl, q3⟩ v H3 t3 r3 rv
  rw [rv.bl]
  refine ⟨k, rfl, ?_⟩
  cases k with
  | true =>
    refine ⟨env, h3, _, re.mono (t1.trans (t2.trans t3)), r3, q3, fun w h4 q4 vw H4 t4 r4 rw' => ?_⟩
    exact hi' y w h4 Q0 vy vw H4 Q q4 r4 (ry.mono (t3.trans t4)) rw' (Fin.mono (t1.trans (t2.trans (t3.trans t4))) f)
  | false => exact f _ h3 q3 _ H3 (t1.trans (t2.trans t3)) r3 rv_bl
theorem it_chain {op op' : CmpOp} (ho : OpM X (compareOp op) r) (ho' : OpM X (compareOp op') r') (ha : IE X Hb a ma) (hb : IE X Hb b mb) (hc : IE X Hb c mc)
    (hm : lastMarks [op, op'] [b, c] = false := by rfl) : IT X Hb (.Compare a [op, op'] [b, c] pos) (mTest (mChain r r' ma mb mc)) := by
  obtain ⟨R, hR, hi⟩ := ho
  obtain ⟨R', hR', hi'⟩ := ho'
  refine pt_w (pt_chain hR hR' ha hb hc hm) fun σ H Q ⟨env, h, Q0, re, rh, m, f⟩ => ?_
  refine ⟨env, h, _, re, rh, m, fun x h1 q1 vx H1 t1 r1 rx => ?_⟩
  refine ⟨env, h1, _, re.mono t1, r1, q1, fun y h2 q2 vy H2 t2 r2 ry => ?_⟩
  refine hi x y h2 _ vx vy H2 _ q2 r2 (rx.mono t2) ry ?_
  rintro d h3 ⟨k, rfl, q3⟩ v H3 t3 r3 rv
  rw [rv.bl]
  refine ⟨k, rfl, ?_⟩
  cases k with
  | true =>
    refine ⟨env, h3, _, re.mono (t1.trans (t2.trans t3)), r3, q3, fun w h4 q4 vw H4 t4 r4 rw' => ?_⟩
    refine hi' y w h4 _ vy vw H4 _ q4 r4 (ry.mono (t3.trans t4)) rw' ?_
    rintro d h5 ⟨k, rfl, q5⟩ v H5 t5 r5 rv
    rw [rv.bl]
    exact ⟨k, rfl, f k h5 q5 H5 (t1.trans (t2.trans (t3.trans (t4.trans t5)))) r5⟩
  | false =>
    obtain ⟨k, e, q3⟩ := q3
    cases e
    exact ⟨false, rfl, f false h3 q3 H3 (t1.trans (t2.trans t3)) r3⟩
/-- a built-in by its name -/
theorem ie_callB {x : Str} {n : String} {rA : MRA} {p : Pos} (ho : CaM X (.builtin n) rA) (hg : Gl X x) (hm : X.mg x = none) (hv : bootBuiltins x = some (.builtin n)) (ha : IA X Hb (e :: es) ms)
    (hdb : (x == ("__debug__" : Str)) = false := by decide) (hn : x ≠ "__name__" := by decide)
    (hs : starEach (e :: es) X.env = (false, eval e X.env) :: starEach es X.env := by rfl) (hpl : (backTo pos (starEach es X.env)).any (·.1) = false := by rfl) : IE X Hb (.Call (.Name x p) (e :: es) [] pos) (mCa rA ms) := by
  obtain ⟨R, hR, hi⟩ := ho
  refine pe_w (pe_callB hR hg hm hv ha hn hdb hs hpl) fun σ H Q ⟨env, h, Q0, re, rh, m, f⟩ => ?_
  exact ⟨env, h, _, re, rh, m, fun xs h1 q1 vs H1 t1 r1 rs => hi xs h1 Q0 vs H1 Q q1 r1 rs (Fin.mono t1 f)⟩
theorem ie_callTy {x : Str} {n : String} {rA : MRA} {p : Pos} (ho : CaM X (.type n) rA) (hg : Gl X x) (hm : X.mg x = none) (hv : bootBuiltins x = some (.type n)) (ha : IA X Hb (e :: es) ms)
    (hdb : (x == ("__debug__" : Str)) = false := by decide) (hn : x ≠ "__name__" := by decide)
    (hs : starEach (e :: es) X.env = (false, eval e X.env) :: starEach es X.env := by rfl) (hpl : (backTo pos (starEach es X.env)).any (·.1) = false := by rfl) : IE X Hb (.Call (.Name x p) (e :: es) [] pos) (mCa rA ms) := by
  obtain ⟨R, hR, hi⟩ := ho
  refine pe_w (pe_callTy hR hg hm hv ha hn hdb hs hpl) fun σ H Q ⟨env, h, Q0, re, rh, m, f⟩ => ?_
  exact ⟨env, h, _, re, rh, m, fun xs h1 q1 vs H1 t1 r1 rs => hi xs h1 Q0 vs H1 Q q1 r1 rs (Fin.mono t1 f)⟩
end
end M

namespace M
open PySem L2
/-! ### operators -/
def DivOk (j : Int) : Prop := 0 < j ∧ j.natAbs.log2 < 9000
def DivOkN (j : Int) : Prop := j ≠ 0 ∧ j.natAbs.log2 < 9000
def MulOk (i j : Int) : Prop := CMul i j ∨ CMulX i j
theorem divOk {j : Int} (h : 0 < j) (h2 : j < 2 ^ 200) : DivOk j := ⟨h, by
  have h3 : j.natAbs < 2 ^ 200 := by omega
  exact Nat.lt_of_lt_of_le (PySem.Flt.log2_lt_of (by decide) h3) (by decide)⟩
theorem mulOkL {i j : Int} (h : -(2 ^ 64) < i) (h2 : i < 2 ^ 64) : MulOk i j := .inl (.inl ⟨h, h2⟩)
theorem mulOkR {i j : Int} (h : -(2 ^ 64) < j) (h2 : j < 2 ^ 64) : MulOk i j := .inl (.inr ⟨h, h2⟩)
theorem mulOkX {i j : Int} {a b : Nat} (ha : i.natAbs < 2 ^ a) (hb : j.natAbs < 2 ^ b) (h : a + b ≤ 134217728) : MulOk i j := .inr (mulx_ok ha hb h)
def rAdd : MR2 := fun x y h Q => match x, y with
  | .int i, .int j => Q (.int (i + j)) h
  | .str i, .str j => i.length + j.length ≤ sizeLine ∧ Q (.str (i ++ j)) h
  | .tup i, .tup j => i.length + j.length ≤ sizeLine ∧ Q (.tup (i ++ j)) h
  | .ref a, .ref b => ∃ xs ys, h a = some (.lst xs) ∧ h b = some (.lst ys) ∧ xs.length + ys.length ≤ sizeLine ∧ ∀ p, h p = none → Q (.ref p) (up h p (.lst (xs ++ ys)))
  | _, _ => False
def rSub : MR2 := fun x y h Q => match x, y with
  | .int i, .int j => Q (.int (i - j)) h
  | _, _ => False
def rMul : MR2 := fun x y h Q => match x, y with
  | .int i, .int j => MulOk i j ∧ Q (.int (i * j)) h
  | .ref a, .int k => ∃ xs, h a = some (.lst xs) ∧ -(2 ^ 63) ≤ k ∧ k < 2 ^ 63 ∧ xs.length * k.toNat ≤ sizeLine ∧ ∀ p, h p = none → Q (.ref p) (up h p (.lst (List.replicate k.toNat xs).flatten))
  | _, _ => False
def rFdiv : MR2 := fun x y h Q => match x, y with
  | .int i, .int j => DivOk j ∧ Q (.int (i / j)) h
  | _, _ => False
def rFdivN : MR2 := fun x y h Q => match x, y with
  | .int i, .int j => DivOkN j ∧ Q (.int (i.fdiv j)) h
  | _, _ => False
def rMod : MR2 := fun x y h Q => match x, y with
  | .int i, .int j => 0 < j ∧ Q (.int (i % j)) h
  | _, _ => False
def rModN : MR2 := fun x y h Q => match x, y with
  | .int i, .int j => j ≠ 0 ∧ Q (.int (i.fmod j)) h
  | _, _ => False
def rPow : MR2 := fun x y h Q => match x, y with
  | .int i, .int j => CPow i j ∧ Q (.int (i ^ j.toNat)) h
  | _, _ => False
def rShl : MR2 := fun x y h Q => match x, y with
  | .int i, .int j => CPow i j ∧ Q (.int (i * 2 ^ j.toNat)) h
  | _, _ => False
def rNeg : MR1 := fun x h Q => match x with
  | .int i => Q (.int (-i)) h
  | _ => False
def rLtI : MR2 := fun x y h Q => match x, y with
  | .int i, .int j => Q (.bl (decide (i < j))) h
  | _, _ => False
def rLeI : MR2 := fun x y h Q => match x, y with
  | .int i, .int j => Q (.bl (decide (i ≤ j))) h
  | _, _ => False
def rGtI : MR2 := fun x y h Q => match x, y with
  | .int i, .int j => Q (.bl (decide (j < i))) h
  | _, _ => False
def rGeI : MR2 := fun x y h Q => match x, y with
  | .int i, .int j => Q (.bl (decide (j ≤ i))) h
  | _, _ => False
section
variable {X : Cx}
theorem fin_at {K : PySem.W.Frag} {H : Hp} {Q0 : MQ} {Q : VK} {d : D} {h : MH} {v : V} (f : Fin K H Q0 Q) (q : Q0 d h) (rh : HR K h H) (r : RV K H d v) : Q v H := f d h q v H (.refl H) rh r
/-- two ints -/
theorem opI2 {f : Value → Value → Sem Value} {C : Int → Int → Prop} {g : Int → Int → V} {g' : Int → Int → D} {r : MR2} (ho : OpR X f (rI C g)) (hg : ∀ i j H, RV X.K H (g' i j) (g i j))
    (hr : ∀ x y h Q, r x y h Q → ∃ i j, x = .int i ∧ y = .int j ∧ C i j ∧ Q (g' i j) h) : OpM X f r := by
  refine ⟨_, ho, fun x y h Q0 vx vy H Q q rh rx ry f => ?_⟩
  obtain ⟨i, j, rfl, rfl, c, q2⟩ := hr x y h Q0 q
  rw [rx.int, ry.int]
  exact ⟨i, j, rfl, rfl, c, fin_at f q2 rh (hg i j H)⟩
theorem opI20 {f : Value → Value → Sem Value} {g : Int → Int → V} {g' : Int → Int → D} {r : MR2} (ho : OpR X f (rI0 g)) (hg : ∀ i j H, RV X.K H (g' i j) (g i j))
    (hr : ∀ x y h Q, r x y h Q → ∃ i j, x = .int i ∧ y = .int j ∧ Q (g' i j) h) : OpM X f r := by
  refine ⟨_, ho, fun x y h Q0 vx vy H Q q rh rx ry f => ?_⟩
  obtain ⟨i, j, rfl, rfl, q2⟩ := hr x y h Q0 q
  rw [rx.int, ry.int]
  exact ⟨i, j, rfl, rfl, fin_at f q2 rh (hg i j H)⟩
theorem om_sub : OpM X (binaryOp .Sub) rSub := opI20 op_sub (fun _ _ _ => rv_int) fun x y h Q q => by
  cases x <;> cases y <;> first | exact q.elim | exact ⟨_, _, rfl, rfl, q⟩
theorem om_mod : OpM X (binaryOp .Mod) rMod := opI2 op_mod (fun _ _ _ => rv_int) fun x y h Q q => by
  cases x <;> cases y <;> first | exact q.elim | exact ⟨_, _, rfl, rfl, q.1, q.2⟩
theorem om_modN : OpM X (binaryOp .Mod) rModN := opI2 op_modN (fun _ _ _ => rv_int) fun x y h Q q => by
  cases x <;> cases y <;> first | exact q.elim | exact ⟨_, _, rfl, rfl, q.1, q.2⟩
theorem om_pow : OpM X (binaryOp .Pow) rPow := opI2 op_pow (fun _ _ _ => rv_int) fun x y h Q q => by
  cases x <;> cases y <;> first | exact q.elim | exact ⟨_, _, rfl, rfl, q.1, q.2⟩
theorem om_shl : OpM X (binaryOp .LShift) rShl := opI2 op_shl (fun _ _ _ => rv_int) fun x y h Q q => by
  cases x <;> cases y <;> first | exact q.elim | exact ⟨_, _, rfl, rfl, q.1, q.2⟩
theorem om_fdiv : OpM X (binaryOp .FloorDiv) rFdiv := opI2 (C := CDivW) op_fdivW (fun _ _ _ => rv_int) fun x y h Q q => by
  cases x <;> cases y <;> first | exact q.elim | exact ⟨_, _, rfl, rfl, q.1, q.2⟩
theorem op_fdivNW : OpR X (binaryOp .FloorDiv) (rI (fun _ j => DivOkN j) fun i j => .int (i.fdiv j)) := opI fun i j _ _ _ _ _ hc q => PyProof.Rows.floordiv_int hc.1 q (.inl (PyProof.noPylong_of_log2 hc.2))
theorem om_fdivN : OpM X (binaryOp .FloorDiv) rFdivN := opI2 op_fdivNW (fun _ _ _ => rv_int) fun x y h Q q => by
  cases x <;> cases y <;> first | exact q.elim | exact ⟨_, _, rfl, rfl, q.1, q.2⟩
theorem om_ltI : OpM X (compareOp .Lt) rLtI := opI20 op_lt (fun _ _ _ => rv_bl) fun x y h Q q => by
  cases x <;> cases y <;> first | exact q.elim | exact ⟨_, _, rfl, rfl, q⟩
theorem om_leI : OpM X (compareOp .LtE) rLeI := opI20 op_le (fun _ _ _ => rv_bl) fun x y h Q q => by
  cases x <;> cases y <;> first | exact q.elim | exact ⟨_, _, rfl, rfl, q⟩
theorem om_gtI : OpM X (compareOp .Gt) rGtI := opI20 op_gt (fun _ _ _ => rv_bl) fun x y h Q q => by
  cases x <;> cases y <;> first | exact q.elim | exact ⟨_, _, rfl, rfl, q⟩
theorem om_geI : OpM X (compareOp .GtE) rGeI := opI20 op_ge (fun _ _ _ => rv_bl) fun x y h Q q => by
  cases x <;> cases y <;> first | exact q.elim | exact ⟨_, _, rfl, rfl, q⟩
theorem um_neg : UnM X (unaryOp .USub) rNeg := ⟨_, un_neg, fun x h Q0 vx H Q q rh rx f => by
  cases x <;> first | exact q.elim | skip
  rw [rx.int]
  exact ⟨_, rfl, fin_at f q rh rv_int⟩⟩
theorem om_add : OpM X (binaryOp .Add) rAdd := by
  refine ⟨_, (op_add.or op_add_str).or (op_catA.or op_cat), fun x y h Q0 vx vy H Q q rh rx ry f => ?_⟩
  cases x <;> cases y <;> first | exact q.elim | skip
  · rw [rx.int, ry.int]
    exact .inl (.inl ⟨_, _, rfl, rfl, fin_at f q rh rv_int⟩)
  · rw [rx.str, ry.str]
    exact .inl (.inr ⟨_, _, rfl, rfl, q.1, fin_at f q.2 rh rv_str⟩)
  · rename_i xs ys
    obtain ⟨a, vs, rfl, ta, rs⟩ := rx.tup
    obtain ⟨b, ws, rfl, tb, rt⟩ := ry.tup
    refine .inr (.inl ⟨a, b, vs, ws, rfl, rfl, ta, tb, by rw [← rs.length, ← rt.length]; exact q.1, fun e => ?_, fun e e2 => ?_, fun e e2 p np => ?_⟩)
    · subst e
      have e0 : xs = [] := List.eq_nil_of_length_eq_zero rs.length
      subst e0
      exact fin_at f q.2 rh (rv_tup tb rt)
    · subst e2
      have e0 : ys = [] := List.eq_nil_of_length_eq_zero rt.length
      subst e0
      have q2 := q.2
      rw [List.append_nil] at q2
      exact fin_at f q2 rh (rv_tup ta rs)
    · exact f _ h q.2 _ _ (.new np) (rh.skip np) (rv_tup (.of upd_same) ((rs.append rt).mono (.new np)))
  · obtain ⟨xs, ys, e1, e2, z, q⟩ := q
    rw [rx.ref, ry.ref]
    obtain ⟨vs, E1, r1⟩ := rh.lst e1
    obtain ⟨ws, E2, r2⟩ := rh.lst e2
    refine .inr (.inr ⟨_, _, vs, ws, rfl, rfl, E1, E2, by rw [← r1.length, ← r2.length]; exact z, fun p np => ?_⟩)
    exact f _ _ (q p (rh.free np)) _ _ (.new np) (rh.new np ⟨_, rfl, r1.append r2⟩) rv_ref
theorem RVs.rep {K : PySem.W.Frag} {H : Hp} {ds : List D} {vs : List V} (h : RVs K H ds vs) : ∀ k : Nat, RVs K H (List.replicate k ds).flatten (List.replicate k vs).flatten
  | 0 => .nil
  | k + 1 => by
    rw [List.replicate_succ, List.replicate_succ, List.flatten_cons, List.flatten_cons]
    exact h.append (h.rep k)
theorem om_mul : OpM X (binaryOp .Mult) rMul := by
  refine ⟨_, (op_mul.or op_mulX).or op_rep, fun x y h Q0 vx vy H Q q rh rx ry f => ?_⟩
  cases x <;> cases y <;> first | exact q.elim | skip
  · rw [rx.int, ry.int]
    rcases q.1 with c | c
    · exact .inl (.inl ⟨_, _, rfl, rfl, c, fin_at f q.2 rh rv_int⟩)
    · exact .inl (.inr ⟨_, _, rfl, rfl, c, fin_at f q.2 rh rv_int⟩)
  · obtain ⟨xs, e1, k1, k2, z, q⟩ := q
    rw [rx.ref, ry.int]
    obtain ⟨vs, E1, r1⟩ := rh.lst e1
    refine .inr ⟨_, _, vs, rfl, rfl, E1, k1, k2, by rw [← r1.length]; exact z, fun p np => ?_⟩
    exact f _ _ (q p (rh.free np)) _ _ (.new np) (rh.new np ⟨_, rfl, r1.rep _⟩) rv_ref
end
/-! ### subscripts -/
def rIx : MR2 := fun x y h Q => match x, y with
  | .tup ds, .int i => ∃ d, atI ds i = some d ∧ Q d h
  | .rl ds, .int i => ∃ d, atI ds i = some d ∧ Q d h
  | .str z, .int i => z.length ≤ sizeLine ∧ ∃ c, atI z.cps.toList i = some c ∧ Q (.str ⟨#[c]⟩) h
  | .ref a, .int i => ∃ ds, h a = some (.lst ds) ∧ ∃ d, atI ds i = some d ∧ Q d h
  | _, _ => False
theorem RVs.atI {K : PySem.W.Frag} {H : Hp} {ds : List D} {vs : List V} {i : Int} {d : D} (h : RVs K H ds vs) (e : L2.atI ds i = some d) : ∃ v, L2.atI vs i = some v ∧ RV K H d v := by
  unfold L2.atI at e ⊢
  rw [← h.length]
  cases c : ixN ds.length i with
  | none => rw [c] at e; cases e
  | some j =>
    rw [c] at e
    obtain ⟨v, e1, r⟩ := h.get (show ds[j]? = some d from e)
    exact ⟨v, e1, r⟩
theorem ix_m {X : Cx} : IxM X rIx := by
  refine ⟨_, ix_seq, fun x y h Q0 vx vy H Q q rh rx ry f => ?_⟩
  cases x <;> cases y <;> first | exact q.elim | skip
  · obtain ⟨z, c, e, q⟩ := q
    rw [rx.str, ry.int]
    exact .inr (.inr ⟨_, _, c, rfl, rfl, z, e, fin_at f q rh rv_str⟩)
  · obtain ⟨d, e, q⟩ := q
    obtain ⟨a, vs, rfl, ta, rs⟩ := rx.tup
    rw [ry.int]
    obtain ⟨v, e1, r⟩ := rs.atI e
    exact .inr (.inl ⟨a, vs, _, v, rfl, rfl, ta, e1, fin_at f q rh r⟩)
  · obtain ⟨d, e, q⟩ := q
    obtain ⟨a, vs, rfl, ta, rs⟩ := rx.rl
    rw [ry.int]
    obtain ⟨v, e1, r⟩ := rs.atI e
    exact .inl ⟨a, vs, _, v, rfl, rfl, ta.l, e1, fin_at f q rh r⟩
  · obtain ⟨ds, e0, d, e, q⟩ := q
    rw [rx.ref, ry.int]
    obtain ⟨vs, E, rs⟩ := rh.lst e0
    obtain ⟨v, e1, r⟩ := rs.atI e
    exact .inl ⟨_, vs, _, v, rfl, rfl, .of E, e1, fin_at f q rh r⟩
/-! ### slices -/
abbrev MTO := ME → MH → (Option Int → MH → Prop) → Prop
def mNo : MTO := fun _ h Q => Q none h
def mPart (a : MTE) : MTO := fun env h Q => a env h fun x h1 => ∃ i, x = .int i ∧ Q (some i) h1
def liftO (K : PySem.W.Frag) (Hb : Hp) (m : MTO) : TO := fun σ H Q => ∃ env h, ∃ Q0 : Option Int → MH → Prop, REnv K Hb H env σ ∧ HR K h H ∧ m env h Q0 ∧ ∀ d h', Q0 d h' → ∀ H', TL H H' → HR K h' H' → Q d H'
def IO (X : Cx) (Hb : Hp) (e : Option Expr) (m : MTO) : Prop := PO X e (liftO X.K Hb m)
theorem po_w {X : Cx} {e : Option Expr} {t t' : TO} (h : PO X e t) (w : ∀ σ H Q, t' σ H Q → t σ H Q) : PO X e t' := ⟨fun pins s σ H Q I q => h.run pins s σ H Q I (w σ H Q q)⟩
def cutD (xs : List D) (lo hi : Option Int) : List D := (xs.drop (HT.sIx xs.length 0 lo)).take (HT.sIx xs.length xs.length hi - HT.sIx xs.length 0 lo)
theorem RVs.cut {K : PySem.W.Frag} {H : Hp} {ds : List D} {vs : List V} (h : RVs K H ds vs) (lo hi : Option Int) : RVs K H (cutD ds lo hi) (cutV vs lo hi) := by
  unfold cutD cutV
  rw [h.length]
  exact (h.drop _).take _
abbrev MRS := D → Option Int → Option Int → MH → MQ → Prop
def rSl : MRS := fun x lo hi h Q => match x with
  | .tup ds => Q (.tup (cutD ds lo hi)) h
  | .rl ds => ∀ p, h p = none → Q (.ref p) (up h p (.lst (cutD ds lo hi)))
  | .ref a => ∃ ds, h a = some (.lst ds) ∧ ∀ p, h p = none → Q (.ref p) (up h p (.lst (cutD ds lo hi)))
  | _ => False
def mSl (r : MRS) (a : MTE) (l u : MTO) : MTE := fun env h Q => a env h fun x h1 => l env h1 fun lo h2 => u env h2 fun hi h3 => r x lo hi h3 Q
theorem io_none {X : Cx} {Hb : Hp} : IO X Hb none mNo := po_w po_none fun σ H Q ⟨env, h, Q0, re, rh, m, f⟩ => f none h m H (.refl H) rh
theorem io_some {X : Cx} {Hb : Hp} {e : Expr} {me : MTE} (he : IE X Hb e me) : IO X Hb (some e) (mPart me) := by
  refine po_w (po_some he) fun σ H Q ⟨env, h, Q0, re, rh, m, f⟩ => ?_
  refine ⟨env, h, _, re, rh, m, ?_⟩
  rintro d h1 ⟨i, rfl, q⟩ v H1 t1 r1 rv
  rw [rv.int]
  exact ⟨i, rfl, f _ h1 q H1 t1 r1⟩
theorem cut_all {xs : List D} {lo hi : Option Int} (h1 : HT.sIx xs.length 0 lo = 0) (h2 : HT.sIx xs.length xs.length hi = xs.length) : cutD xs lo hi = xs := by
  unfold cutD
  rw [h1, h2, List.drop_zero, Nat.sub_zero, List.take_length]
theorem ie_slice {X : Cx} {Hb : Hp} {e : Expr} {lo hi : Option Expr} {me : MTE} {ml mh : MTO} {p2 pos : Pos} (he : IE X Hb e me) (hl : IO X Hb lo ml) (hu : IO X Hb hi mh) : IE X Hb (.Subscript e (.Slice lo hi none p2) pos) (mSl rSl me ml mh) := by
  refine pe_w (pe_slice (sl_tupA.or sl_list) he hl hu) fun σ H Q ⟨env, h, Q0, re, rh, m, f⟩ => ?_
  refine ⟨env, h, _, re, rh, m, fun x h1 q1 vx H1 t1 r1 rx => ?_⟩
  refine ⟨env, h1, _, re.mono t1, r1, q1, fun l h2 q2 H2 t2 r2 => ?_⟩
  refine ⟨env, h2, _, re.mono (t1.trans t2), r2, q2, fun u h3 q3 H3 t3 r3 => ?_⟩
  have f3 := Fin.mono (t1.trans (t2.trans t3)) f
  have rx3 := rx.mono (t2.trans t3)
  cases x <;> first | exact q3.elim | skip
  · obtain ⟨a, vs, rfl, ta, rs⟩ := rx3.tup
    refine .inl ⟨a, vs, rfl, ta, fun ⟨z1, z2⟩ => ?_, fun z p np => ?_⟩
    · rw [← rs.length] at z1 z2
      have q4 : Q0 (.tup (cutD _ l u)) h3 := q3
      rw [cut_all z1 z2] at q4
      exact fin_at f3 q4 r3 (rv_tup ta rs)
    · exact f3 _ h3 q3 _ _ (.new np) (r3.skip np) (rv_tup (.of upd_same) ((rs.cut l u).mono (.new np)))
  · obtain ⟨a, vs, rfl, ta, rs⟩ := rx3.rl
    exact .inr ⟨a, vs, rfl, ta.l, fun p np => f3 _ _ (q3 p (r3.free np)) _ _ (.new np) (r3.new np ⟨_, rfl, rs.cut l u⟩) rv_ref⟩
  · obtain ⟨ds, e, q3⟩ := q3
    rw [rx3.ref]
    obtain ⟨vs, E, rs⟩ := r3.lst e
    exact .inr ⟨_, vs, rfl, .of E, fun p np => f3 _ _ (q3 p (r3.free np)) _ _ (.new np) (r3.new np ⟨_, rfl, rs.cut l u⟩) rv_ref⟩
/-! ### built-ins -/
def rLen : MRA := fun xs h Q => match xs with
  | [.tup ds] => Q (.int ds.length) h
  | [.rl ds] => Q (.int ds.length) h
  | [.str z] => z.length ≤ sizeLine ∧ Q (.int z.length) h
  | [.ref a] => ∃ ds, h a = some (.lst ds) ∧ Q (.int ds.length) h
  | _ => False
def rAbs : MRA := fun xs h Q => match xs with
  | [.int i] => Q (.int (if i < 0 then -i else i)) h
  | _ => False
def rMax2 : MRA := fun xs h Q => match xs with
  | [.int i, .int j] => Q (.int (if j > i then j else i)) h
  | _ => False
def rMin2 : MRA := fun xs h Q => match xs with
  | [.int i, .int j] => Q (.int (if j < i then j else i)) h
  | _ => False
def rInt1 : MRA := fun xs h Q => match xs with
  | [.int i] => Q (.int i) h
  | [.bl k] => Q (.int (if k then 1 else 0)) h
  | _ => False
def rStrI : MRA := fun xs h Q => match xs with
  | [.int i] => i.natAbs.log2 < 1920 ∧ Q (.str (toString i)) h
  | _ => False
def rTuple : MRA := fun xs h Q => match xs with
  | [.tup ds] => Q (.tup ds) h
  | [.rl ds] => Q (.tup ds) h
  | [.ref a] => ∃ ds, h a = some (.lst ds) ∧ Q (.tup ds) h
  | _ => False
def rList : MRA := fun xs h Q => match xs with
  | [.tup ds] => ∀ p, h p = none → Q (.ref p) (up h p (.lst ds))
  | [.rl ds] => ∀ p, h p = none → Q (.ref p) (up h p (.lst ds))
  | [.ref a] => ∃ ds, h a = some (.lst ds) ∧ ∀ p, h p = none → Q (.ref p) (up h p (.lst ds))
  | _ => False
def rSum : MRA := fun xs h Q => match xs with
  | [.ref a] => ∃ ns : List Int, h a = some (.lst (ns.map .int)) ∧ Q (.int ns.sum) h
  | _ => False
def rAll : MRA := fun xs h Q => match xs with
  | [.ref a] => ∃ ns : List Bool, h a = some (.lst (ns.map .bl)) ∧ Q (.bl (ns.all id)) h
  | _ => False
def rAny : MRA := fun xs h Q => match xs with
  | [.ref a] => ∃ ns : List Bool, h a = some (.lst (ns.map .bl)) ∧ Q (.bl (ns.any id)) h
  | _ => False
section
variable {X : Cx}
theorem list1 {α : Type} {p : α → Prop} {xs : List α} (h : ∃ x, xs = [x]) : True := trivial
theorem RVs.one {K : PySem.W.Frag} {H : Hp} {d : D} {vs : List V} (h : RVs K H [d] vs) : ∃ v, vs = [v] ∧ RV K H d v := by
  obtain ⟨v, r, rfl, q, t⟩ := h.inv
  rw [t.inv0]
  exact ⟨v, rfl, q⟩
theorem RVs.two {K : PySem.W.Frag} {H : Hp} {d e : D} {vs : List V} (h : RVs K H [d, e] vs) : ∃ v w, vs = [v, w] ∧ RV K H d v ∧ RV K H e w := by
  obtain ⟨v, r, rfl, q, t⟩ := h.inv
  obtain ⟨w, rfl, q2⟩ := t.one
  exact ⟨v, w, rfl, q, q2⟩
theorem cm_len : CaM X (.builtin "len") rLen := by
  refine ⟨_, call_len_seq.or call_len_str, fun xs h Q0 vs H Q q rh rs f => ?_⟩
  unfold rLen at q
  split at q
  · obtain ⟨v, rfl, rx⟩ := rs.one
    obtain ⟨a, vs, rfl, ta, rs⟩ := rx.tup
    exact .inl ⟨a, vs, rfl, .inr ta, by rw [← rs.length]; exact fin_at f q rh rv_int⟩
  · obtain ⟨v, rfl, rx⟩ := rs.one
    obtain ⟨a, vs, rfl, ta, rs⟩ := rx.rl
    exact .inl ⟨a, vs, rfl, .inl ta.l, by rw [← rs.length]; exact fin_at f q rh rv_int⟩
  · obtain ⟨v, rfl, rx⟩ := rs.one
    rw [rx.str]
    exact .inr ⟨_, rfl, q.1, fin_at f q.2 rh rv_int⟩
  · obtain ⟨v, rfl, rx⟩ := rs.one
    rw [rx.ref]
    obtain ⟨ds, e, q⟩ := q
    obtain ⟨vs, E, rs⟩ := rh.lst e
    exact .inl ⟨_, vs, rfl, .inl (.of E), by rw [← rs.length]; exact fin_at f q rh rv_int⟩
  · exact q.elim
theorem cm_abs : CaM X (.builtin "abs") rAbs := by
  refine ⟨_, call_abs, fun xs h Q0 vs H Q q rh rs f => ?_⟩
  unfold rAbs at q
  split at q
  · obtain ⟨v, rfl, rx⟩ := rs.one
    rw [rx.int]
    exact ⟨_, rfl, fin_at f q rh rv_int⟩
  · exact q.elim
theorem cm_max2 (hc : X.calm = true) : CaM X (.builtin "max") rMax2 := by
  refine ⟨_, call_max2 hc, fun xs h Q0 vs H Q q rh rs f => ?_⟩
  unfold rMax2 at q
  split at q
  · obtain ⟨v, w, rfl, rx, ry⟩ := rs.two
    rw [rx.int, ry.int]
    exact ⟨_, _, rfl, fin_at f q rh rv_int⟩
  · exact q.elim
theorem cm_min2 (hc : X.calm = true) : CaM X (.builtin "min") rMin2 := by
  refine ⟨_, call_min2 hc, fun xs h Q0 vs H Q q rh rs f => ?_⟩
  unfold rMin2 at q
  split at q
  · obtain ⟨v, w, rfl, rx, ry⟩ := rs.two
    rw [rx.int, ry.int]
    exact ⟨_, _, rfl, fin_at f q rh rv_int⟩
  · exact q.elim
theorem cm_int : CaM X (.type "int") rInt1 := by
  refine ⟨_, call_int1, fun xs h Q0 vs H Q q rh rs f => ?_⟩
  unfold rInt1 at q
  split at q
  · obtain ⟨v, rfl, rx⟩ := rs.one
    rw [rx.int]
    exact .inl ⟨_, rfl, fin_at f q rh rv_int⟩
  · obtain ⟨v, rfl, rx⟩ := rs.one
    rw [rx.bl]
    exact .inr ⟨_, rfl, fin_at f q rh rv_int⟩
  · exact q.elim
theorem cm_strI : CaM X (.type "str") rStrI := by
  refine ⟨_, call_str_int, fun xs h Q0 vs H Q q rh rs f => ?_⟩
  unfold rStrI at q
  split at q
  · obtain ⟨v, rfl, rx⟩ := rs.one
    rw [rx.int]
    exact ⟨_, rfl, q.1, fin_at f q.2 rh rv_str⟩
  · exact q.elim
theorem cm_tuple : CaM X (.type "tuple") rTuple := by
  refine ⟨_, call_tuple_of, fun xs h Q0 vs H Q q rh rs f => ?_⟩
  unfold rTuple at q
  split at q
  · obtain ⟨v, rfl, rx⟩ := rs.one
    obtain ⟨a, vs, rfl, ta, rs⟩ := rx.tup
    exact ⟨a, vs, rfl, .inr ⟨ta, fin_at f q rh (rv_tup ta rs)⟩⟩
  · obtain ⟨v, rfl, rx⟩ := rs.one
    obtain ⟨a, vs, rfl, ta, rs⟩ := rx.rl
    exact ⟨a, vs, rfl, .inl ⟨ta.l, fun p np => f _ h q _ _ (.new np) (rh.skip np) (rv_tup (.of upd_same) (rs.mono (.new np)))⟩⟩
  · obtain ⟨v, rfl, rx⟩ := rs.one
    rw [rx.ref]
    obtain ⟨ds, e, q⟩ := q
    obtain ⟨vs, E, rs⟩ := rh.lst e
    exact ⟨_, vs, rfl, .inl ⟨.of E, fun p np => f _ h q _ _ (.new np) (rh.skip np) (rv_tup (.of upd_same) (rs.mono (.new np)))⟩⟩
  · exact q.elim
theorem cm_list : CaM X (.type "list") rList := by
  refine ⟨_, call_list_of, fun xs h Q0 vs H Q q rh rs f => ?_⟩
  unfold rList at q
  split at q
  · obtain ⟨v, rfl, rx⟩ := rs.one
    obtain ⟨a, vs, rfl, ta, rs⟩ := rx.tup
    exact ⟨a, vs, rfl, .inr ta, fun p np => f _ _ (q p (rh.free np)) _ _ (.new np) (rh.new np ⟨_, rfl, rs⟩) rv_ref⟩
  · obtain ⟨v, rfl, rx⟩ := rs.one
    obtain ⟨a, vs, rfl, ta, rs⟩ := rx.rl
    exact ⟨a, vs, rfl, .inl ta.l, fun p np => f _ _ (q p (rh.free np)) _ _ (.new np) (rh.new np ⟨_, rfl, rs⟩) rv_ref⟩
  · obtain ⟨v, rfl, rx⟩ := rs.one
    rw [rx.ref]
    obtain ⟨ds, e, q⟩ := q
    obtain ⟨vs, E, rs⟩ := rh.lst e
    exact ⟨_, vs, rfl, .inl (.of E), fun p np => f _ _ (q p (rh.free np)) _ _ (.new np) (rh.new np ⟨_, rfl, rs⟩) rv_ref⟩
  · exact q.elim
theorem cm_sum (hc : X.calm = true) : CaM X (.builtin "sum") rSum := by
  refine ⟨_, cr_sum hc, fun xs h Q0 vs H Q q rh rs f => ?_⟩
  unfold rSum at q
  split at q
  · obtain ⟨v, rfl, rx⟩ := rs.one
    rw [rx.ref]
    obtain ⟨ds, e, q⟩ := q
    obtain ⟨vs, E, rs⟩ := rh.lst e
    rw [rs.ints] at E
    exact ⟨_, _, rfl, .of E, fin_at f q rh rv_int⟩
  · exact q.elim
theorem cm_all (hc : X.calm = true) : CaM X (.builtin "all") rAll := by
  refine ⟨_, cr_all hc, fun xs h Q0 vs H Q q rh rs f => ?_⟩
  unfold rAll at q
  split at q
  · obtain ⟨v, rfl, rx⟩ := rs.one
    rw [rx.ref]
    obtain ⟨ds, e, q⟩ := q
    obtain ⟨vs, E, rs⟩ := rh.lst e
    rw [rs.bls] at E
    exact ⟨_, _, rfl, .of E, fin_at f q rh rv_bl⟩
  · exact q.elim
theorem cm_any (hc : X.calm = true) : CaM X (.builtin "any") rAny := by
  refine ⟨_, cr_any hc, fun xs h Q0 vs H Q q rh rs f => ?_⟩
  unfold rAny at q
  split at q
  · obtain ⟨v, rfl, rx⟩ := rs.one
    rw [rx.ref]
    obtain ⟨ds, e, q⟩ := q
    obtain ⟨vs, E, rs⟩ := rh.lst e
    rw [rs.bls] at E
    exact ⟨_, _, rfl, .of E, fin_at f q rh rv_bl⟩
  · exact q.elim
end
end M

namespace M
open PySem L2
/-! ### targets: names and tuples of names -/
inductive Tg where
  | nm (i : Nat) | tp (ts : List Tg)
mutual
def asg : Tg → D → ME → Option ME
  | .nm i, d, env => some (env.set i (some d))
  | .tp ts, .tup ds, env => asgs ts ds env
  | .tp _, _, _ => none
def asgs : List Tg → List D → ME → Option ME
  | [], [], env => some env
  | t :: ts, d :: ds, env => match asg t d env with
    | some env' => asgs ts ds env'
    | none => none
  | _, _, _ => none
end
mutual
def gT (K : PySem.W.Frag) : Tg → TG
  | .nm i => gName i
  | .tp ts => gTup K ts.length (gTs K ts)
def gTs (K : PySem.W.Frag) : List Tg → TGs
  | [] => gNil
  | t :: ts => gCons (gT K t) (gTs K ts)
end
mutual
def Tg.in (vs : List Nat) : Tg → Prop
  | .nm i => i ∈ vs
  | .tp ts => Tg.ins vs ts
def Tg.ins (vs : List Nat) : List Tg → Prop
  | [] => True
  | t :: ts => t.in vs ∧ Tg.ins vs ts
end
theorem asgs_len : ∀ {ts : List Tg} {ds : List D} {env env' : ME}, asgs ts ds env = some env' → ts.length = ds.length
  | [], [], _, _, _ => rfl
  | [], _ :: _, _, _, e => by simp [asgs] at e
  | _ :: _, [], _, _, e => by simp [asgs] at e
  | t :: ts, d :: ds, env, env', e => by
    simp only [asgs] at e
    split at e
    · rename_i x y
      rw [List.length_cons, List.length_cons, asgs_len e]
    · cases e
theorem wipe_set {σ : L2.St} {i : Nat} {x : Option V} : ∀ {vs : List Nat}, i ∈ vs → wipe (σ.set i x) vs = wipe σ vs
  | [], h => by cases h
  | v :: vs, h => by
    unfold wipe
    by_cases c : i ∈ vs
    · rw [wipe_set c]
    · have e : i = v := by
        rcases List.mem_cons.mp h with z | z
        · exact z
        · exact absurd z c
      subst e
      have : ∀ (ws : List Nat) (τ : L2.St), i ∉ ws → wipe (τ.set i x) ws = (wipe τ ws).set i x := fun ws => by
        induction ws with
        | nil => intro τ _; rfl
        | cons w ws ih =>
          intro τ hn
          unfold wipe
          rw [ih τ (fun z => hn (List.mem_cons_of_mem _ z)), List.set_comm _ _ (fun z => hn (by rw [z]; exact List.mem_cons_self))]
      rw [this vs σ c, List.set_set]
section
variable {K : PySem.W.Frag} {Hb H : Hp}
mutual
theorem gT_ok : ∀ {t : Tg} {d : D} {env env' : ME} {v : V} {σ : L2.St}, asg t d env = some env' → RV K H d v → REnv K Hb H env σ →
    ∃ σ', (∀ Q : L2.St → Hp → Prop, Q σ' H → gT K t v σ H Q) ∧ REnv K Hb H env' σ' ∧ ∀ vs, t.in vs → wipe σ' vs = wipe σ vs
  | .nm i, d, env, env', v, σ, e, r, re => by
    simp only [asg] at e
    cases e
    exact ⟨_, fun Q q => q, re.set i r, fun vs h => wipe_set h⟩
  | .tp ts, .tup ds, env, env', v, σ, e, r, re => by
    simp only [asg] at e
    obtain ⟨a, vs, rfl, ta, rs⟩ := r.tup
    obtain ⟨σ', h1, h2, h3⟩ := gTs_ok e rs re
    exact ⟨σ', fun Q q => ⟨a, vs, rfl, ta, by rw [asgs_len e, rs.length], h1 Q q⟩, h2, fun ws hw => h3 ws hw⟩
  | .tp ts, .non, _, _, _, _, e, _, _ => by simp [asg] at e
  | .tp ts, .bl _, _, _, _, _, e, _, _ => by simp [asg] at e
  | .tp ts, .int _, _, _, _, _, e, _, _ => by simp [asg] at e
  | .tp ts, .str _, _, _, _, _, e, _, _ => by simp [asg] at e
  | .tp ts, .rl _, _, _, _, _, e, _, _ => by simp [asg] at e
  | .tp ts, .ref _, _, _, _, _, e, _, _ => by simp [asg] at e
theorem gTs_ok : ∀ {ts : List Tg} {ds : List D} {env env' : ME} {xs : List V} {σ : L2.St}, asgs ts ds env = some env' → RVs K H ds xs → REnv K Hb H env σ →
    ∃ σ', (∀ Q : L2.St → Hp → Prop, Q σ' H → gTs K ts xs σ H Q) ∧ REnv K Hb H env' σ' ∧ ∀ vs, Tg.ins vs ts → wipe σ' vs = wipe σ vs
  | [], [], env, env', xs, σ, e, r, re => by
    simp only [asgs] at e
    cases e
    exact ⟨σ, fun Q q => ⟨r.inv0, q⟩, re, fun _ _ => rfl⟩
  | [], _ :: _, _, _, _, _, e, _, _ => by simp [asgs] at e
  | _ :: _, [], _, _, _, _, e, _, _ => by simp [asgs] at e
  | t :: ts, d :: ds, env, env', xs, σ, e, r, re => by
    simp only [asgs] at e
    split at e
    · rename_i env1 e1
      obtain ⟨v, ws, rfl, q, rs⟩ := r.inv
      obtain ⟨σ1, h1, h2, h3⟩ := gT_ok e1 q re
      obtain ⟨σ2, k1, k2, k3⟩ := gTs_ok e rs h2
      exact ⟨σ2, fun Q q => ⟨v, ws, rfl, h1 _ (k1 Q q)⟩, k2, fun vs hv => (k3 vs hv.2).trans (h3 vs hv.1)⟩
    · cases e
end
end
def IG (X : Cx) (e : Expr) (t : Tg) : Prop := PG X e (gT X.K t)
def IGs (X : Cx) (e : List Expr) (t : List Tg) : Prop := PGs X e (gTs X.K t)
section
variable {X : Cx} {Hb : Hp} {a b c e o : Expr} {es : List Expr} {ma mb mc me mo : MTE} {pos : Pos} {mt mu : MTT} {ms : MTA} {r r' : MR2} {s : Stmt} {ss : List Stmt} {m1 m2 : MTS}
theorem ig_name (i : Nat) {x : Str} (hN : X.N.Nodup) (hi : X.N[i]? = some x := by rfl) (hx : Loc X.env.scope x := by first | exact Or.inl rfl | exact Or.inr rfl) (hf : X.fn x = true ∨ X.env.scope.names.lookup x = some .local := by first | exact .inl rfl | exact .inr rfl | assumption) : IG X (.Name x pos) (.nm i) := by
  have h := pg_name (pos := pos) hN hi hx hf
  unfold IG; unfold gT; exact h
theorem ig_nil : IGs X [] [] := by unfold IGs; unfold gTs; exact pgs_nil
theorem ig_cons {t : Tg} {ts : List Tg} (h : IG X e t) (hs : IGs X es ts) (h1 : (assignEach (e :: es) X.env).map (·.2) = assign e X.env :: (assignEach es X.env).map (·.2) := by rfl) : IGs X (e :: es) (t :: ts) := by
  unfold IGs; unfold gTs; exact pgs_cons h hs h1
theorem ig_tup {k : Nat} {ts : List Tg} (hc : X.calm = true) (h : IGs X es ts) (hn : (assignEach es X.env).length = ts.length := by rfl) (hst : (assignEach es X.env).findIdx? (·.1) = none := by rfl) : IG X (.Tuple es k pos) (.tp ts) := by
  unfold IG; unfold gT; exact pg_tup hc h hn hst
/-! ### statements -/
def mNext : MTS := fun D' env h => D'.nx env h
def mSeq (a b : MTS) : MTS := fun D' env h => a { D' with nx := b D' } env h
def mBrk : MTS := fun D' env h => D'.bk env h
def mCt : MTS := fun D' env h => D'.ct env h
def mDrop (a : MTE) : MTS := fun D' env h => a env h fun _ h1 => D'.nx env h1
def mRet (a : MTE) : MTS := fun D' env h => a env h D'.rt
def mRetN : MTS := fun D' env h => D'.rt .non h
def mIf (c : MTT) (a b : MTS) : MTS := fun D' env h => c env h fun k h1 => if k = true then a D' env h1 else b D' env h1
def mAsg (a : MTE) (t : Tg) : MTS := fun D' env h => a env h fun d h1 => ∃ env', asg t d env = some env' ∧ D'.nx env' h1
def mSet (i : Nat) (a : MTE) : MTS := fun D' env h => a env h fun d h1 => D'.nx (env.set i (some d)) h1
abbrev MRSet := D → D → D → MH → (MH → Prop) → Prop
def mPut (r : MRSet) (a o i : MTE) : MTS := fun D' env h => a env h fun d h1 => o env h1 fun x h2 => i env h2 fun y h3 => r x y d h3 fun h4 => D'.nx env h4
def mPar (i j : Nat) (a b : MTE) : MTS := fun D' env h => a env h fun x h1 => b env h1 fun y h2 => D'.nx ((env.set i (some x)).set j (some y)) h2
def mAug (i : Nat) (r : MR2) (a : MTE) : MTS := fun D' env h => ∃ x, env[i]? = some (some x) ∧ a env h fun y h1 => r x y h1 fun z h2 => D'.nx (env.set i (some z)) h2
/-- ends -/
structure FinS (K : PySem.W.Frag) (Hb H : Hp) (D0 : MEnds) (D' : Ends) : Prop where
  nx : ∀ env' h', D0.nx env' h' → ∀ σ' H', TL H H' → REnv K Hb H' env' σ' → HR K h' H' → D'.nx σ' H'
  rt : ∀ d h', D0.rt d h' → ∀ v H', TL H H' → RV K H' d v → HR K h' H' → D'.rt v H'
  bk : ∀ env' h', D0.bk env' h' → ∀ σ' H', TL H H' → REnv K Hb H' env' σ' → HR K h' H' → D'.bk σ' H'
  ct : ∀ env' h', D0.ct env' h' → ∀ σ' H', TL H H' → REnv K Hb H' env' σ' → HR K h' H' → D'.ct σ' H'
theorem FinS.mono {K : PySem.W.Frag} {Hb H H' : Hp} {D0 : MEnds} {D' : Ends} (t : TL H H') (f : FinS K Hb H D0 D') : FinS K Hb H' D0 D' :=
  ⟨fun env' h' q σ' H2 t2 => f.nx env' h' q σ' H2 (t.trans t2), fun d h' q v H2 t2 => f.rt d h' q v H2 (t.trans t2), fun env' h' q σ' H2 t2 => f.bk env' h' q σ' H2 (t.trans t2), fun env' h' q σ' H2 t2 => f.ct env' h' q σ' H2 (t.trans t2)⟩
theorem liftS_iff {K : PySem.W.Frag} {m : MTS} {D' : Ends} {σ : L2.St} {H : Hp} : liftS K Hb m D' σ H ↔ ∃ env h D0, REnv K Hb H env σ ∧ HR K h H ∧ m D0 env h ∧ FinS K Hb H D0 D' :=
  ⟨fun ⟨env, h, D0, re, rh, m, f1, f2, f3, f4⟩ => ⟨env, h, D0, re, rh, m, f1, f2, f3, f4⟩, fun ⟨env, h, D0, re, rh, m, f⟩ => ⟨env, h, D0, re, rh, m, f.nx, f.rt, f.bk, f.ct⟩⟩
theorem is_of {t : TS} {m : MTS} (h : PS X s t) (w : ∀ D' σ H env h D0, REnv X.K Hb H env σ → HR X.K h H → m D0 env h → FinS X.K Hb H D0 D' → t D' σ H) : IS X Hb s m :=
  ps_w h fun D' σ H q => let ⟨env, hh, D0, re, rh, m, f⟩ := liftS_iff.mp q; w D' σ H env hh D0 re rh m f
theorem iss_of {t : TS} {m : MTS} (h : PSs X ss t) (w : ∀ D' σ H env h D0, REnv X.K Hb H env σ → HR X.K h H → m D0 env h → FinS X.K Hb H D0 D' → t D' σ H) : ISs X Hb ss m :=
  pss_w h fun D' σ H q => let ⟨env, hh, D0, re, rh, m, f⟩ := liftS_iff.mp q; w D' σ H env hh D0 re rh m f
theorem iss_nil : ISs X Hb [] mNext := iss_of pss_nil fun D' σ H env h D0 re rh m f => f.nx env h m σ H (.refl H) re rh
theorem iss_cons (h1 : IS X Hb s m1) (h2 : ISs X Hb ss m2) : ISs X Hb (s :: ss) (mSeq m1 m2) := by
  refine iss_of (pss_cons h1 h2) fun D' σ H env h D0 re rh m f => ?_
  refine liftS_iff.mpr ⟨env, h, _, re, rh, m, ?_, f.rt, f.bk, f.ct⟩
  exact fun env' h' q σ' H' t re' rh' => liftS_iff.mpr ⟨env', h', D0, re', rh', q, f.mono t⟩
theorem iss_one (h : IS X Hb s m1) : ISs X Hb [s] m1 := pss_one h
theorem is_pass : IS X Hb (.Pass pos) mNext := is_of ps_pass fun D' σ H env h D0 re rh m f => f.nx env h m σ H (.refl H) re rh
theorem is_break : IS X Hb (.Break pos) mBrk := is_of ps_break fun D' σ H env h D0 re rh m f => f.bk env h m σ H (.refl H) re rh
theorem is_continue : IS X Hb (.Continue pos) mCt := is_of ps_continue fun D' σ H env h D0 re rh m f => f.ct env h m σ H (.refl H) re rh
theorem is_expr (he : IE X Hb e me) (hs : swapsWith e none pos.line X.env = pure false := by rfl) : IS X Hb (.Expr e pos) (mDrop me) := by
  refine is_of (ps_expr he hs) fun D' σ H env h D0 re rh m f => ?_
  exact ⟨env, h, _, re, rh, m, fun d h1 q v H1 t1 r1 rv => f.nx env h1 q σ H1 t1 (re.mono t1) r1⟩
theorem is_ret (he : IE X Hb e me) : IS X Hb (.Return (some e) pos) (mRet me) := by
  refine is_of (ps_ret he) fun D' σ H env h D0 re rh m f => ?_
  exact ⟨env, h, _, re, rh, m, fun d h1 q v H1 t1 r1 rv => f.rt d h1 q v H1 t1 rv r1⟩
theorem is_retN : IS X Hb (.Return none pos) mRetN := is_of ps_retN fun D' σ H env h D0 re rh m f => f.rt .non h m .non H (.refl H) rv_non rh
theorem is_if {ss tt : List Stmt} (hc : IT X Hb c mt) (ha : ISs X Hb ss m1) (hb : ISs X Hb tt m2) : IS X Hb (.If c ss tt pos) (mIf mt m1 m2) := by
  refine is_of (ps_if hc ha hb) fun D' σ H env h D0 re rh m f => ?_
  refine ⟨env, h, _, re, rh, m, fun k h1 q1 H1 t1 r1 => ?_⟩
  cases k with
  | true => exact liftS_iff.mpr ⟨env, h1, D0, re.mono t1, r1, q1, f.mono t1⟩
  | false => exact liftS_iff.mpr ⟨env, h1, D0, re.mono t1, r1, q1, f.mono t1⟩
theorem is_asg {tg : Expr} {t : Tg} (he : IE X Hb e me) (hg : IG X tg t) (hs : swapsWithSole [tg] e pos.line X.env = pure false := by rfl) (hw : swappedStores [tg] e X.env = pure none := by rfl)
    (h1 : (assignEach [tg] X.env).map (·.2) = [assign tg X.env] := by rfl) : IS X Hb (.Assign [tg] e pos) (mAsg me t) := by
  refine is_of (ps_asg he hg hs hw h1) fun D' σ H env h D0 re rh m f => ?_
  refine ⟨env, h, _, re, rh, m, ?_⟩
  rintro d h1 ⟨env', e1, q⟩ v H1 t1 r1 rv
  obtain ⟨σ', k1, k2, _⟩ := gT_ok e1 rv (re.mono t1)
  exact k1 _ (f.nx env' h1 q σ' H1 t1 k2 r1)
theorem is_set (i : Nat) {x : Str} {pos' : Pos} (hN : X.N.Nodup) (he : IE X Hb e me) (hi : X.N[i]? = some x := by rfl) (hx : Loc X.env.scope x := by first | exact Or.inl rfl | exact Or.inr rfl)
    (hs : swapsWith e (some (.Name x pos')) pos.line X.env = pure false := by rfl) (hf : X.fn x = true ∨ X.env.scope.names.lookup x = some .local := by first | exact .inl rfl | exact .inr rfl | assumption) : IS X Hb (.Assign [.Name x pos'] e pos) (mSet i me) := by
  refine is_of (ps_set hN hi hx he hs hf) fun D' σ H env h D0 re rh m f => ?_
  exact ⟨env, h, _, re, rh, m, fun d h1 q v H1 t1 r1 rv => f.nx _ h1 q _ H1 t1 ((re.mono t1).set i rv) r1⟩
/-- o[i] = e -/
def SeM (X : Cx) (r : MRSet) : Prop := ∃ R : TSet, PSet X R ∧ ∀ (o i v : D) (h : MH) (Q0 : MH → Prop) (vo vi vv : V) (H : Hp) (Q : Hp → Prop), r o i v h Q0 → HR X.K h H → RV X.K H o vo → RV X.K H i vi → RV X.K H v vv →
  (∀ h', Q0 h' → ∀ H', TL H H' → HR X.K h' H' → Q H') → R vo vi vv H Q
theorem is_put {i : Expr} {mi : MTE} {rs : MRSet} {pos' : Pos} (hs : SeM X rs) (he : IE X Hb e me) (ho : IE X Hb o mo) (hi : IE X Hb i mi)
    (ha : ∀ v, assign (.Subscript o i pos') X.env v = (do
      let ov ← holding [v] (eval o X.env)
      let iv ← holding [v, ov] (eval i X.env)
      standAt pos'
      holding [v, ov, iv] (setItem ov iv v)
      release [v, ov, iv] []) := by intro _; rfl)
    (h2 : swapsWithSole [.Subscript o i pos'] e pos.line X.env = pure false := by rfl) (hw : swappedStores [.Subscript o i pos'] e X.env = pure none := by rfl)
    (h1 : (assignEach [.Subscript o i pos'] X.env).map (·.2) = [assign (.Subscript o i pos') X.env] := by rfl) : IS X Hb (.Assign [.Subscript o i pos'] e pos) (mPut rs me mo mi) := by
  obtain ⟨R, hR, hi'⟩ := hs
  refine is_of (ps_asg he (pg_sub ho hi hR ha) h2 hw h1) fun D' σ H env h D0 re rh m f => ?_
  refine ⟨env, h, _, re, rh, m, fun d h1 q1 v H1 t1 r1 rv => ?_⟩
  refine ⟨env, h1, _, re.mono t1, r1, q1, fun x h2 q2 vx H2 t2 r2 rx => ?_⟩
  refine ⟨env, h2, _, (re.mono t1).mono t2, r2, q2, fun y h3 q3 vy H3 t3 r3 ry => ?_⟩
  refine hi' x y d h3 _ vx vy v H3 _ q3 r3 (rx.mono t3) ry (rv.mono (t2.trans t3)) fun h4 q4 H4 t4 r4 => ?_
  have tt := t1.trans (t2.trans (t3.trans t4))
  exact f.nx env h4 q4 σ H4 tt (re.mono tt) r4
theorem is_par (i j : Nat) {x y : Str} {px py pt : Pos} {kt k2 pt2} (hc : X.calm = true) (hN : X.N.Nodup) (ha : IE X Hb a ma) (hb : IE X Hb b mb)
    (hi : X.N[i]? = some x := by rfl) (hj : X.N[j]? = some y := by rfl) (hij : i ≠ j := by decide)
    (hx : X.env.scope.names.lookup x = some .local := by rfl) (hy : X.env.scope.names.lookup y = some .local := by rfl)
    (hw : swappedStores [.Tuple [.Name x px, .Name y py] kt pt] (.Tuple [a, b] k2 pt2) X.env = pure (some [x, y]) := by rfl)
    (hs : swapsWithSole [.Tuple [.Name x px, .Name y py] kt pt] (.Tuple [a, b] k2 pt2) pos.line X.env = pure false := by rfl)
    (hA : starEach [a, b] X.env = (false, eval a X.env) :: starEach [b] X.env := by rfl) (hB : starEach [b] X.env = (false, eval b X.env) :: starEach [] X.env := by rfl) :
    IS X Hb (.Assign [.Tuple [.Name x px, .Name y py] kt pt] (.Tuple [a, b] k2 pt2) pos) (mPar i j ma mb) := by
  refine is_of (ps_par hc hN hi hj hij hx hy (ia_cons ha (ia_cons hb ia_nil hB) hA) hw hs) fun D' σ H env h D0 re rh m f => ?_
  refine ⟨env, h, (fun ds h1 => ∃ u w, ds = [u, w] ∧ D0.nx ((env.set i (some u)).set j (some w)) h1), re, rh, ?_, ?_⟩
  · show ma env h fun u h1 => mb env h1 fun w h2 => ∃ u' w', [u, w] = [u', w'] ∧ _
    have m' : ma env h fun x h1 => mb env h1 fun y h2 => D0.nx ((env.set i (some x)).set j (some y)) h2 := m
    have e : (fun u h1 => mb env h1 fun w h2 => ∃ u' w', [u, w] = [u', w'] ∧ D0.nx ((env.set i (some u')).set j (some w')) h2) = (fun x h1 => mb env h1 fun y h2 => D0.nx ((env.set i (some x)).set j (some y)) h2) := by
      funext u h1
      refine congrArg _ ?_
      funext w h2
      refine propext ⟨?_, fun q => ⟨u, w, rfl, q⟩⟩
      rintro ⟨u', w', z, q⟩
      cases z
      exact q
    rw [e]
    exact m'
  · rintro ds h1 ⟨u, w, rfl, q⟩ vs H1 t1 r1 rs
    obtain ⟨v1, v2, rfl, rx, ry⟩ := rs.two
    exact ⟨v1, v2, rfl, f.nx _ h1 q _ H1 t1 (((re.mono t1).set i rx).set j ry) r1⟩
/-- in place, by values -/
def IpM (X : Cx) (op : Operator) (r : MR2) : Prop := ∃ R : TIp, PIp X op R ∧ ∀ (x y : D) (h : MH) (Q0 : MQ) (vx vy : V) (H : Hp) (Q : VK), r x y h Q0 → HR X.K h H → RV X.K H x vx → RV X.K H y vy → Fin X.K H Q0 Q → R vx vy H Q
def rIAdd : MR2 := fun x y h Q => match x, y with
  | .int i, .int j => Q (.int (i + j)) h
  | _, _ => False
theorem im_add : IpM X .Add rIAdd := by
  refine ⟨_, ip_add, fun x y h Q0 vx vy H Q q rh rx ry f => ?_⟩
  cases x <;> cases y <;> first | exact q.elim | skip
  rw [rx.int, ry.int]
  exact ⟨_, _, rfl, rfl, fin_at f q rh rv_int⟩
theorem im_sub : IpM X .Sub rSub := by
  refine ⟨_, ip_sub, fun x y h Q0 vx vy H Q q rh rx ry f => ?_⟩
  cases x <;> cases y <;> first | exact q.elim | skip
  rw [rx.int, ry.int]
  exact ⟨_, _, rfl, rfl, fin_at f q rh rv_int⟩
theorem is_aug (i : Nat) {x : Str} {op : Operator} {pos' : Pos} (hN : X.N.Nodup) (ho : IpM X op r) (he : IE X Hb e me) (hi : X.N[i]? = some x := by rfl) (hx : Loc X.env.scope x := by first | exact Or.inl rfl | exact Or.inr rfl)
    (hf : X.fn x = true ∨ X.env.scope.names.lookup x = some .local := by first | exact .inl rfl | exact .inr rfl | assumption) : IS X Hb (.AugAssign (.Name x pos') op e pos) (mAug i r me) := by
  obtain ⟨R, hR, hi'⟩ := ho
  refine is_of (ps_aug hN hi hx he hR hf) fun D' σ H env h D0 re rh m f => ?_
  obtain ⟨d, e1, m⟩ := m
  obtain ⟨v, e2, rv⟩ := re.2.2 i d e1
  refine ⟨v, e2, env, h, _, re, rh, m, fun y h1 q1 vy H1 t1 r1 ry => ?_⟩
  refine hi' d y h1 _ v vy H1 _ q1 r1 (rv.mono t1) ry fun z h2 q2 vz H2 t2 r2 rz => ?_
  exact f.nx _ h2 q2 _ H2 (t1.trans t2) ((re.mono (t1.trans t2)).set i rz) r2
/-- xs[i] = v -/
def rSetL : MRSet := fun o i v h Q => match o, i with
  | .ref a, .int k => ∃ ds, h a = some (.lst ds) ∧ ∃ j, ixN ds.length k = some j ∧ Q (up h a (.lst (ds.set j v)))
  | _, _ => False
theorem se_list : SeM X rSetL := by
  refine ⟨_, set_list, fun o i v h Q0 vo vi vv H Q q rh ro ri rv f => ?_⟩
  cases o <;> cases i <;> first | exact q.elim | skip
  obtain ⟨ds, e, j, z, q⟩ := q
  rw [ro.ref, ri.int]
  obtain ⟨vs, E, rs⟩ := rh.lst e
  have t : TL H (upd H _ (.lst (vs.set j vv))) := .put E (fun _ z => by cases z) (fun _ _ z => by cases z)
  refine ⟨_, vs, _, j, rfl, rfl, E, by rw [← rs.length]; exact z, ?_⟩
  exact f _ q _ t (rh.put t ⟨_, rfl, (rs.set j rv).mono t⟩)
/-! ### while -/
def mWhile (c : MTT) (b : MTS) : MTS := fun D' env h => ∃ W : Nat → ME → MH → Prop, (∃ m, W m env h) ∧ ∀ m env h, W m env h →
  c env h fun k h1 => if k = true then b { D' with nx := fun env' h' => ∃ m', m' < m ∧ W m' env' h', ct := fun env' h' => ∃ m', m' < m ∧ W m' env' h', bk := D'.nx } env h1 else D'.nx env h1
theorem is_while {body : List Stmt} (hp : PassesOwn (model X.prog X.w) X.A X.env X.xe) (hc : IT X Hb c mt) (hb : ISs X Hb body m1) : IS X Hb (.While c body [] pos) (mWhile mt m1) := by
  refine is_of (ps_while hp hc hb) fun D' σ H env h D0 re rh m f => ?_
  obtain ⟨W, ⟨m0, w0⟩, turn⟩ := m
  refine ⟨fun m σ' H' => ∃ env' h', TL H H' ∧ REnv X.K Hb H' env' σ' ∧ HR X.K h' H' ∧ W m env' h', ⟨m0, env, h, .refl H, re, rh, w0⟩, ?_⟩
  rintro m1 σ1 H1 ⟨env1, h1, t1, re1, rh1, w1⟩
  refine ⟨env1, h1, _, re1, rh1, turn m1 env1 h1 w1, fun k h2 q2 H2 t2 r2 => ?_⟩
  cases k with
  | true =>
    refine ⟨fun σ' H' => ∃ env' h', (∃ m', m' < m1 ∧ W m' env' h') ∧ TL H H' ∧ REnv X.K Hb H' env' σ' ∧ HR X.K h' H', ?_, liftS_iff.mpr ⟨env1, h2, _, re1.mono t2, r2, q2, ?_, ?_, ?_, ?_⟩⟩
    · rintro σ' H' ⟨env', h', ⟨m', l, w⟩, t, re', rh'⟩
      exact ⟨m', l, env', h', t, re', rh', w⟩
    · exact fun env' h' q σ' H' t re' rh' => ⟨env', h', q, (t1.trans t2).trans t, re', rh'⟩
    · exact fun d h' q v H' t => f.rt d h' q v H' ((t1.trans t2).trans t)
    · exact fun env' h' q σ' H' t => f.nx env' h' q σ' H' ((t1.trans t2).trans t)
    · exact fun env' h' q σ' H' t re' rh' => ⟨env', h', q, (t1.trans t2).trans t, re', rh'⟩
  | false => exact f.nx env1 h2 q2 σ1 H2 (t1.trans t2) (re1.mono t2) r2
/-! ### what is walked -/
structure MSrc where
  n : Nat
  item : Nat → D
  ok : MH → Prop
abbrev MTI := ME → MH → (MSrc → MH → Prop) → Prop
structure SrcOk (K : PySem.W.Frag) (H0 : Hp) (S : MSrc) (J : It) : Prop where
  go : ∀ i h H, TL H0 H → HR K h H → S.ok h → i < S.n → J.go i H
  yld : ∀ i h H, TL H0 H → HR K h H → S.ok h → i < S.n → ∀ x H', J.yld i H x H' → TL H H' ∧ HR K h H' ∧ RV K H' (S.item i) x
  stop : ∀ h H, TL H0 H → HR K h H → S.ok h → J.stop S.n H
def liftI (K : PySem.W.Frag) (Hb : Hp) (m : MTI) : TI := fun σ H R => ∃ env h, ∃ Q0 : MSrc → MH → Prop, REnv K Hb H env σ ∧ HR K h H ∧ m env h Q0 ∧ ∀ S h', Q0 S h' → ∀ J H', TL H H' → HR K h' H' → SrcOk K H' S J → R J H'
def II (X : Cx) (Hb : Hp) (tg e : Expr) (m : MTI) : Prop := PI X tg e (liftI X.K Hb m)
theorem pi_w {tg e : Expr} {t t' : TI} (h : PI X tg e t) (w : ∀ σ H R, t' σ H R → t σ H R) : PI X tg e t' := ⟨fun pins s σ H R I q => h.run pins s σ H R I (w σ H R q)⟩
def ForW (S : MSrc) (g : Tg) (b : MTS) (D' : MEnds) (env : ME) (h1 : MH) : Prop := ∃ W : Nat → ME → MH → Prop, W 0 env h1 ∧ ∀ k env' h', k ≤ S.n → W k env' h' → S.ok h' ∧
  (k < S.n → ∃ env2, asg g (S.item k) env' = some env2 ∧ b { D' with nx := W (k + 1), ct := W (k + 1), bk := D'.nx } env2 h') ∧ (k = S.n → D'.nx env' h')
def mFor (i : MTI) (g : Tg) (b : MTS) : MTS := fun D' env h => i env h fun S h1 => ForW S g b D' env h1
theorem is_for {iter tg : Expr} {body : List Stmt} {mi : MTI} {g : Tg} (hp : PassesOwn (model X.prog X.w) X.A X.env X.xe) (hc : X.calm = true) (hi : II X Hb tg iter mi) (hg : IG X tg g) (hb : ISs X Hb body m1)
    (hs : ∀ x, foldedSetIterable iter X.env x = pure x := by intro _; rfl) : IS X Hb (.For tg iter body [] pos) (mFor mi g m1) := by
  refine is_of (ps_for hp hc hi hg hb hs) fun D' σ H env h D0 re rh m f => ?_
  refine ⟨env, h, _, re, rh, m, ?_⟩
  rintro S h1 ⟨W, w0, turn⟩ J H1 t1 r1 so
  refine ⟨fun i m σ' H' => m = S.n - i ∧ i ≤ S.n ∧ ∃ env' h', TL H1 H' ∧ REnv X.K Hb H' env' σ' ∧ HR X.K h' H' ∧ W i env' h', ⟨S.n, rfl, Nat.zero_le _, env, h1, .refl H1, re.mono t1, r1, w0⟩, ?_⟩
  rintro i m σ2 H2 ⟨rfl, hi, env2, h2, t2, re2, r2, w2⟩
  obtain ⟨ok, q1, q2⟩ := turn i env2 h2 hi w2
  by_cases c : i < S.n
  · obtain ⟨env3, e3, q⟩ := q1 c
    refine .inr ⟨so.go i h2 H2 t2 r2 ok c, fun σ' H' => ∃ env' h', W (i + 1) env' h' ∧ TL H1 H' ∧ REnv X.K Hb H' env' σ' ∧ HR X.K h' H', ?_, fun x H3 hy => ?_⟩
    · rintro σ' H' ⟨env', h', w, t, re', rh'⟩
      exact ⟨_, by omega, rfl, c, env', h', t, re', rh', w⟩
    · obtain ⟨t3, r3, rx⟩ := so.yld i h2 H2 t2 r2 ok c x H3 hy
      obtain ⟨σ3, k1, k2, _⟩ := gT_ok e3 rx (re2.mono t3)
      have t13 := t1.trans (t2.trans t3)
      refine k1 _ (liftS_iff.mpr ⟨env3, h2, _, k2, r3, q, ?_, ?_, ?_, ?_⟩)
      · exact fun env' h' q σ' H' t re' rh' => ⟨env', h', q, (t2.trans t3).trans t, re', rh'⟩
      · exact fun d h' q v H' t => f.rt d h' q v H' (t13.trans t)
      · exact fun env' h' q σ' H' t => f.nx env' h' q σ' H' (t13.trans t)
      · exact fun env' h' q σ' H' t re' rh' => ⟨env', h', q, (t2.trans t3).trans t, re', rh'⟩
  · have e : i = S.n := by omega
    subst e
    exact .inl ⟨so.stop h2 H2 t2 r2 ok, f.nx env2 h2 (q2 rfl) σ2 H2 (t1.trans t2) re2 r2⟩
end
end M

/-! enumerate of a tuple -/
namespace PySem
open Sem (wp)
set_option maxHeartbeats 1000000 in
theorem meets_enumerate_newT {v : Value} {o : Obj} {H : Heap → Prop} (B : Begins v o H) :
    Meets (Builtin.«enumerate.__new__» ⟨[.type "enumerate", v], []⟩) (fun _ R s => H s.heap ∧
      R (.ok (.ret (.ref (s.heap.push o).objs.size))) { s with heap := (s.heap.push o).push { cls := .type "enumerate", data := .fields #[.none, .bool false, .ref s.heap.objs.size, rawInt 0, .none, .none] } }) :=
  .of_wp fun prog w A R s h => by
    obtain ⟨hp, g, d, tk, os⟩ := s; obtain ⟨h1, h⟩ := h
    have hsub := sub_enumerate
    have q1 : ∀ {A' : Around} {E : Value → Shared → Prop} {Q : Value → Shared → Prop}, Q (.ref hp.objs.size) ⟨hp.push o, g, d, tk, os⟩ → wpAny (model prog w) A' (pyIter v) Q E ⟨hp, g, d, tk, os⟩ :=
      fun q => B.iter prog w _ _ ⟨hp, g, d, tk, os⟩ _ h1 q
    wp_walk using q1
    refine wpAny_stack_any fun st => wpAny_pure ?_
    split
    · rename_i c _ _ _ _ _
      cases (c == Value.type "enumerate")
      · wp_walk using q1
        exact ⟨_, rfl, h⟩
      · wp_walk using q1
        exact ⟨_, rfl, h⟩
    · wp_walk using q1
      exact ⟨_, rfl, h⟩
theorem call_enumerate_tup {prog : Program} {w : World} {A : Around} {E : Value → Shared → Prop} {s : Shared} {l : Addr} {items : Array Value} {Q : Value → Shared → Prop} (hL : s.heap.IsTuple l items)
    (h : ∀ h', IsEnum h' (s.heap.objs.size + 1) s.heap.objs.size 0 .none → h'.IsTupleIter s.heap.objs.size l 0 → h'.objs.size = s.heap.objs.size + 2 →
      (∀ b o, s.heap.get? b = some o → h'.get? b = some o) → Q (.ref (s.heap.objs.size + 1)) { s with heap := h' }) :
    wpAny (model prog w) A (call (.type "enumerate") [.ref l]) Q E s := by
  have B := begins_tuple l items
  refine callType_new F.called_enumerate (by decide) (F.typeCall_enumerate_1 _) (F.newCall_enumerate_1 _) (fun obj => F.args_object_init_2 obj _) F.entry_enumerate_new
    (meets_enumerate_newT B) ⟨hL, ?_⟩
  have hz : (s.heap.push { cls := .type "tuple_iterator", data := .fields #[.ref l, .int 0 0] }).objs.size = s.heap.objs.size + 1 := Heap.size_push ..
  show _ ∧ _
  rw [hz]
  have he : IsEnum ((s.heap.push { cls := .type "tuple_iterator", data := .fields #[.ref l, .int 0 0] }).push
      { cls := .type "enumerate", data := .fields #[.none, .bool false, .ref s.heap.objs.size, rawInt 0, .none, .none] }) (s.heap.objs.size + 1) s.heap.objs.size 0 .none := by
    have := Heap.get?_push_size (s.heap.push { cls := .type "tuple_iterator", data := .fields #[.ref l, .int 0 0] })
      (o := { cls := .type "enumerate", data := .fields #[.none, .bool false, .ref s.heap.objs.size, rawInt 0, .none, .none] }) rfl
    rw [hz] at this; exact this
  refine ⟨⟨_, he, rfl⟩, h _ he ⟨_, Heap.get?_push_of_some _ (Heap.get?_push_size _ rfl), rfl, rfl⟩ (by rw [Heap.size_push, hz]) fun b o x => Heap.get?_push_of_some _ (Heap.get?_push_of_some _ x)⟩
end PySem
namespace M
open PySem L2
def IteT (K : PySem.W.Frag) (a : Addr) : It :=
  ⟨fun i H => ∃ (xs : List V) (x : V), SqT K H a xs ∧ xs[i]? = some x, fun i H v H' => ∃ T x, v = .ref T ∧ H T = none ∧ H' = upd H T (.tup [.int (i : Nat), x]) ∧ ∀ xs, SqT K H a xs → xs[i]? = some x, fun i H => ∃ xs : List V, SqT K H a xs ∧ xs.length = i⟩
theorem iter_ne {h : Heap} {a it : Addr} {i : Nat} {items : Array Value} (t : PyProof.Rows.IsTup h a items) (s : h.IsTupleIter it a i) : a ≠ it := by
  intro e
  subst e
  obtain ⟨o, e1, c1, _⟩ := t
  obtain ⟨o2, e2, c2, _⟩ := s
  rw [e1] at e2
  cases e2
  rw [c1] at c2
  exact absurd (Value.type.inj c2) (by decide)
theorem enum_ne {h : Heap} {a e it : Addr} {c : Int} {old : Value} {items : Array Value} (t : PyProof.Rows.IsTup h a items) (s : IsEnum h e it c old) : e ≠ a := by
  intro z
  subst z
  obtain ⟨o, e1, c1, _⟩ := t
  have s' := s
  unfold IsEnum at s'
  rw [e1] at s'
  have s2 := Option.some.inj s'
  rw [s2] at c1
  exact absurd (Value.type.inj c1) (by decide)
theorem turn_enumT {P : Program} {w : World} {K : PySem.W.Frag} {elts : List Expr} {kk : Nat} {tpos : Pos} (a e it : Addr) :
    Turn P w K (.Tuple elts kk tpos) (IteT K a) [e, it] e (fun i h => (∃ old, IsEnum h e it ((i : Nat) : Int) old) ∧ h.IsTupleIter it a i ∧ e ≠ it) where
  mem := by simp
  obj := fun i h st b hb => by
    obtain ⟨⟨old, he⟩, ⟨o, ho, hc, hd⟩, _⟩ := st
    have e' : b = e ∨ b = it := by simpa using hb
    rcases e' with z | z
    · rw [z]; exact ⟨_, he, fun v q => nomatch q⟩
    · rw [z]; exact ⟨o, ho, fun v q => by rw [hd] at q; cases q⟩
  keep := fun i h h' st k => let ⟨⟨old, he⟩, hi, hne⟩ := st; ⟨⟨old, k e (by simp) _ he⟩, hi.at fun o q => k it (by simp) o q, hne⟩
  item := by
    intro X hP hw hK hc i pins s σ H E I hf st hg
    subst hP hw hK
    obtain ⟨⟨old, he⟩, hit, hne⟩ := st
    obtain ⟨xs, x, hq, hx⟩ := hg
    obtain ⟨its, rv, p, hz⟩ := I.tuple hq
    obtain ⟨u, hu, ru⟩ := rv.get hx
    have hel : e < s.heap.objs.size := Heap.lt_size he
    have hil : it < s.heap.objs.size := by obtain ⟨_, q, _⟩ := hit; exact Heap.lt_size q
    have D := Draws.tuple (prog := X.prog) (w := X.w) (A := X.A.in1) (show X.A.in1.handled = none from I.ok.hd hc) it a (iter_ne p hit) its.toArray
    have hlt : i < its.toArray.size := by
      have q := (List.getElem?_eq_some_iff.mp hu).1
      simpa using q
    refine wpAny_pyNext_enum_itemD D he ⟨hit, show s.heap.IsTuple a its.toArray from p⟩ hlt hne (fun q => ?_) fun y h' tk hP ho st' hT hsz hk => ?_
    · have e' : e = it ∨ e = a := by simpa using q
      rcases e' with z | z
      · exact hne z
      · exact enum_ne p he z
    have hP' : its.toArray[i]? = some y := hP
    have ey : y = u := by
      have hu' : its.toArray[i]? = some u := by simpa using hu
      rw [hu'] at hP'
      exact (Option.some.inj hP').symm
    subst ey
    refine ⟨_, rfl, wpAny_letOwnedTupleGo_enum (s := { s with heap := h', toks := tk + 1 }) ho fun h'' he' sb => ?_⟩
    have hT2 : h''.get? s.heap.objs.size = some { cls := .type "tuple", data := .seq #[.int i tk, y] } := (sb.2 _ (Nat.ne_of_gt hel)).trans hT
    have new : ObjOk X.prog X.w (upd H s.heap.objs.size (.tup [.int (i : Nat), x])) h'' s.heap.objs.size (.tup [.int (i : Nat), x]) :=
      ⟨by show 2 ≤ sizeLine; decide, [.int i tk, y], .cons ⟨_, rfl⟩ (.cons ru .nil), ⟨_, hT2, rfl, _, rfl⟩⟩
    have I1 : Inv X pins σ (upd H s.heap.objs.size (.tup [.int (i : Nat), x])) { s with heap := h'', toks := tk + 1 } :=
      I.turnedNew (ch := [e, it]) (fun b ob hb q => (sb.2 b (fun z => hb (by simp [z]))).trans (hk b ob (fun z => hb (by simp [z])) (fun z => hb (by simp [z])) q)) hf (Nat.le_refl _) new
    refine ⟨.ref s.heap.objs.size, _, I1, rfl, ⟨_, x, rfl, I.hok.fresh (Nat.le_refl _), rfl, fun ys hy => by rw [I.tuple_inj hy hq]; exact hx⟩, ⟨⟨y, ?_⟩, st'.1.at fun o q => (sb.2 it (Ne.symm hne)).trans q, hne⟩, fun b hb => ?_⟩
    · have e1 : ((i + 1 : Nat) : Int) = (i : Int) + 1 := by omega
      rw [e1]; exact he'
    · have hb' : b < s.heap.objs.size := by
        have e' : b = e ∨ b = it := by simpa using hb
        rcases e' with z | z
        · rw [z]; exact hel
        · rw [z]; exact hil
      rw [upd_ne (Nat.ne_of_lt hb')]
      exact (hf b hb).1
  done := by
    intro X hP hw hK hc i pins s σ H E I hf st hg
    subst hP hw hK
    obtain ⟨⟨old, he⟩, hit, hne⟩ := st
    obtain ⟨xs, hq, hx⟩ := hg
    obtain ⟨its, rv, p, hz⟩ := I.tuple hq
    obtain ⟨f0, f1, f2, f3, f4, f5⟩ := hf it (by simp)
    have hl := rv.length
    have D := Draws.tuple (prog := X.prog) (w := X.w) (A := X.A.in1) (show X.A.in1.handled = none from I.ok.hd hc) it a (iter_ne p hit) its.toArray
    have ei : i = its.toArray.size := by simp; omega
    rw [ei] at hit
    exact wpAny_pyNext_enum_endD D he ⟨hit, show s.heap.IsTuple a its.toArray from p⟩ fun h' eb => ⟨rfl, I.turned (t' := s.toks) (fun b o hb q => eb b o hb q) f0 f1 f3 f4 f5⟩
  self := fun A i s Q E st h => let ⟨⟨_, he⟩, _⟩ := st; wpAny_pyIter_enum he h
def iEnumA (K : PySem.W.Frag) (ta : TA) : TI := fun σ H R => ta σ H fun vs H1 => ∃ a xs, vs = [.ref a] ∧ ((SqL K H1 a xs ∧ R (Ite K a) H1) ∨ (SqT K H1 a xs ∧ R (IteT K a) H1))
theorem pi_enumA {X : Cx} {e : Expr} {ta : TA} {p pos tpos : Pos} {elts : List Expr} {kk : Nat} (hg : Gl X "enumerate") (hm : X.mg "enumerate" = none) (ha : PA X [e] ta) (hs : starEach [e] X.env = [(false, eval e X.env)] := by rfl) :
    PI X (.Tuple elts kk tpos) (.Call (.Name "enumerate" p) [e] [] pos) (iEnumA X.K ta) := by
  refine ⟨fun pins s σ H R I h => ?_⟩
  refine PyProof.Rows.Call_ (ld_blt I hg hm PyProof.Rows.boot_enumerate (PyProof.Rows.callWith_type1 (thn (ha.run pos pins s σ H _ I h) fun us s1 ⟨vs, H1, I1, r1, q1⟩ => ?_) hs rfl))
  obtain ⟨a, xs, ex, q1⟩ := q1
  subst ex
  cases r1 with
  | cons r rr =>
    cases rr
    cases r
    have fr : ∀ b, b ∈ [s1.heap.objs.size + 1, s1.heap.objs.size] → FpOk X pins H1 b := fun b hb => by
      have e' : b = s1.heap.objs.size + 1 ∨ b = s1.heap.objs.size := by simpa using hb
      have hle : s1.heap.objs.size ≤ b := by
        rcases e' with z | z
        · rw [z]; exact Nat.le_add_right _ _
        · rw [z]; exact Nat.le_refl _
      exact I1.fpOk hle (I1.hok.fresh hle)
    rcases q1 with ⟨hq, q⟩ | ⟨hq, q⟩
    · obtain ⟨its, rv, p', hz⟩ := I1.list hq
      refine call_enumerate_list p'.isList fun h' he hit hsz hk => wpAny_pyIter_enum he ?_
      have I2 : Inv X pins σ H1 { s1 with heap := h' } := I1.kept (t' := s1.toks) hk
      exact ⟨s1.heap.objs.size + 1, [s1.heap.objs.size + 1, s1.heap.objs.size], _, _, H1, rfl, I2, turn_enum a (s1.heap.objs.size + 1) s1.heap.objs.size, ⟨⟨.none, he⟩, hit, Nat.succ_ne_self _⟩, fr, q⟩
    · obtain ⟨its, rv, p', hz⟩ := I1.tuple hq
      refine call_enumerate_tup (show s1.heap.IsTuple a its.toArray from p') fun h' he hit hsz hk => wpAny_pyIter_enum he ?_
      have I2 : Inv X pins σ H1 { s1 with heap := h' } := I1.kept (t' := s1.toks) hk
      exact ⟨s1.heap.objs.size + 1, [s1.heap.objs.size + 1, s1.heap.objs.size], _, _, H1, rfl, I2, turn_enumT a (s1.heap.objs.size + 1) s1.heap.objs.size, ⟨⟨.none, he⟩, hit, Nat.succ_ne_self _⟩, fr, q⟩
/-- a list, a tuple or a text, by its value -/
def iSeqA (K : PySem.W.Frag) (tl : TE) : TI := fun σ H R => tl σ H fun x H1 => (∃ a xs, x = .ref a ∧ SqL K H1 a xs ∧ R (Itl K a) H1) ∨ (∃ a xs, x = .ref a ∧ SqT K H1 a xs ∧ R (Itt K a) H1) ∨ ∃ z, x = .str z ∧ R (Its z) H1
theorem pi_seqA {X : Cx} {tg l : Expr} {tl : TE} (hl : PE X l tl) : PI X tg l (iSeqA X.K tl) := by
  refine ⟨fun pins s σ H R I h => ?_⟩
  refine thn (hl.run pins s σ H _ I h) fun v s1 ⟨x, H1, I1, r1, q1⟩ => ?_
  rcases q1 with ⟨a, xs, e, hq, q⟩ | ⟨a, xs, e, hq, q⟩ | ⟨z, e, q⟩
  · subst e
    cases r1
    obtain ⟨its, rv, p, hz⟩ := I1.list hq
    refine wpAny_pyIter_list p.isList ?_
    refine ⟨s1.heap.objs.size, [s1.heap.objs.size], _, _, H1, rfl, I1.kept (t' := s1.toks) fun b o e => Heap.get?_push_of_some _ e, turn_list a _, ⟨_, Heap.get?_push_size _ rfl, rfl, rfl⟩, fun b hb => ?_, q⟩
    have e : b = s1.heap.objs.size := by simpa using hb
    subst e
    exact I1.fpOk (Nat.le_refl _) (I1.hok.fresh (Nat.le_refl _))
  · subst e
    cases r1
    obtain ⟨its, rv, p, hz⟩ := I1.tuple hq
    refine wpAny_pyIter_tuple (show s1.heap.IsTuple a its.toArray from p) ?_
    refine ⟨s1.heap.objs.size, [s1.heap.objs.size], _, _, H1, rfl, I1.kept (t' := s1.toks) fun b o e => Heap.get?_push_of_some _ e, turn_tuple a _, ⟨_, Heap.get?_push_size _ rfl, rfl, rfl⟩, fun b hb => ?_, q⟩
    have e : b = s1.heap.objs.size := by simpa using hb
    subst e
    exact I1.fpOk (Nat.le_refl _) (I1.hok.fresh (Nat.le_refl _))
  · subst e
    obtain ⟨t, rfl⟩ := r1
    cases ha : z.cps.all (· < 128)
    · exact wpAny_pyIter_wide ha (pi_one (tk := s1.toks) I1 _ (turn_str _ z t "str_iterator" (.inr rfl)) ⟨_, Heap.get?_push_size _ rfl, rfl, rfl⟩ q)
    · exact wpAny_pyIter_ascii ha (pi_one (tk := s1.toks) I1 _ (turn_str _ z t "str_ascii_iterator" (.inl rfl)) ⟨_, Heap.get?_push_size _ rfl, rfl, rfl⟩ q)
/-! ### sources -/
def srcR (lo : Int) (n : Nat) (c : Int) : MSrc := ⟨n, fun i => .int (lo + (i : Nat) * c), fun _ => True⟩
def srcD (ds : List D) (ok : MH → Prop) : MSrc := ⟨ds.length, fun i => ds.getD i .non, ok⟩
def srcE (ds : List D) (ok : MH → Prop) : MSrc := ⟨ds.length, fun i => .tup [.int (i : Nat), ds.getD i .non], ok⟩
def srcZ (ds es : List D) (ok : MH → Prop) : MSrc := ⟨min ds.length es.length, fun i => .tup [ds.getD i .non, es.getD i .non], ok⟩
def mRange1 (a : MTE) : MTI := fun env h R => a env h fun x h1 => ∃ j, x = .int j ∧ -(2 ^ 62) ≤ j ∧ j < 2 ^ 62 ∧ R (srcR 0 j.toNat 1) h1
def mRange2 (a b : MTE) : MTI := fun env h R => a env h fun x h1 => b env h1 fun y h2 => ∃ i j, x = .int i ∧ y = .int j ∧ (-(2 ^ 62) ≤ i ∧ i < 2 ^ 62 ∧ -(2 ^ 62) ≤ j ∧ j < 2 ^ 62) ∧ R (srcR i (j - i).toNat 1) h2
def mRange3 (a b c : MTE) : MTI := fun env h R => a env h fun x h1 => b env h1 fun y h2 => c env h2 fun z h3 => ∃ i j k n, x = .int i ∧ y = .int j ∧ z = .int k ∧ RgC i j k n ∧ R (srcR i n k) h3
def mIter (a : MTE) : MTI := fun env h R => a env h fun x h1 => match x with
  | .tup ds => R (srcD ds fun _ => True) h1
  | .rl ds => R (srcD ds fun _ => True) h1
  | .str z => R (srcD (z.cps.toList.map fun c => .str ⟨#[c]⟩) fun _ => True) h1
  | .ref a => ∃ ds, h1 a = some (.lst ds) ∧ R (srcD ds fun h => h a = some (.lst ds)) h1
  | _ => False
def mEnum (a : MTE) : MTI := fun env h R => a env h fun x h1 => match x with
  | .tup ds => R (srcE ds fun _ => True) h1
  | .rl ds => R (srcE ds fun _ => True) h1
  | .ref a => ∃ ds, h1 a = some (.lst ds) ∧ R (srcE ds fun h => h a = some (.lst ds)) h1
  | _ => False
def mZip (a b : MTE) : MTI := fun env h R => a env h fun x h1 => b env h1 fun y h2 => match x, y with
  | .tup ds, .tup es => R (srcZ ds es fun _ => True) h2
  | .ref a, .ref b => ∃ ds es, h2 a = some (.lst ds) ∧ h2 b = some (.lst es) ∧ R (srcZ ds es fun h => h a = some (.lst ds) ∧ h b = some (.lst es)) h2
  | _, _ => False
theorem getD_some {ds : List D} {i : Nat} {d : D} (h : i < ds.length) : ds[i]? = some (ds.getD i d) := by
  rw [List.getD_eq_getElem?_getD, List.getElem?_eq_getElem h]; rfl
section
variable {X : Cx} {Hb : Hp} {tg a b c e : Expr} {ma mb mc : MTE} {p pos tpos : Pos} {elts : List Expr} {kk : Nat}
theorem so_itr {K : PySem.W.Frag} {H : Hp} {lo : Int} {n : Nat} : SrcOk K H (srcR lo n 1) (Itr lo n) where
  go := fun i h H _ _ _ hi => hi
  yld := fun i h H1 _ rh _ _ x H' y => by
    obtain ⟨e1, e2⟩ := y
    subst e1 e2
    refine ⟨.refl _, rh, ?_⟩
    show RV _ _ (.int (lo + (i : Nat) * 1)) _
    rw [Int.mul_one]; exact rv_int
  stop := fun h H _ _ _ => Nat.le_refl _
theorem so_itc {K : PySem.W.Frag} {H : Hp} {lo c : Int} {n : Nat} : SrcOk K H (srcR lo n c) (Itc lo c n) where
  go := fun i h H _ _ _ hi => hi
  yld := fun i h H1 _ rh _ _ x H' y => by
    obtain ⟨e1, e2⟩ := y
    subst e1 e2
    exact ⟨.refl _, rh, rv_int⟩
  stop := fun h H _ _ _ => Nat.le_refl _
theorem so_tup {K : PySem.W.Frag} {H : Hp} {a : Addr} {ds : List D} {vs : List V} (ta : SqT K H a vs) (rs : RVs K H ds vs) : SrcOk K H (srcD ds fun _ => True) (Itt K a) where
  go := fun i h H1 t _ _ hi => by
    obtain ⟨v, e, _⟩ := rs.get (List.getElem?_eq_getElem (show i < ds.length from hi))
    exact ⟨vs, v, sqT_mono t ta, e⟩
  yld := fun i h H1 t rh _ hi x H' y => by
    obtain ⟨e1, y⟩ := y
    subst e1
    obtain ⟨v, e, r⟩ := (rs.mono t).get (getD_some (d := .non) (show i < ds.length from hi))
    have e2 := y vs (sqT_mono t ta)
    rw [e] at e2
    cases e2
    exact ⟨.refl _, rh, r⟩
  stop := fun h H1 t _ _ => ⟨vs, sqT_mono t ta, by rw [← rs.length]; exact Nat.le_refl _⟩
theorem so_rl {K : PySem.W.Frag} {H : Hp} {a : Addr} {ds : List D} {vs : List V} (ta : SqI K H a vs) (rs : RVs K H ds vs) : SrcOk K H (srcD ds fun _ => True) (Itl K a) where
  go := fun i h H1 t _ _ hi => by
    obtain ⟨v, e, _⟩ := rs.get (List.getElem?_eq_getElem (show i < ds.length from hi))
    exact ⟨vs, v, (sqI_mono t ta).l, e⟩
  yld := fun i h H1 t rh _ hi x H' y => by
    obtain ⟨e1, y⟩ := y
    subst e1
    obtain ⟨v, e, r⟩ := (rs.mono t).get (getD_some (d := .non) (show i < ds.length from hi))
    have e2 := y vs (sqI_mono t ta).l
    rw [e] at e2
    cases e2
    exact ⟨.refl _, rh, r⟩
  stop := fun h H1 t _ _ => ⟨vs, (sqI_mono t ta).l, by rw [← rs.length]; exact Nat.le_refl _⟩
theorem so_lst {K : PySem.W.Frag} {H : Hp} {a : Addr} {ds : List D} : SrcOk K H (srcD ds fun h => h a = some (.lst ds)) (Itl K a) where
  go := fun i h H1 t rh ok hi => by
    obtain ⟨vs, E, rs⟩ := rh.lst ok
    obtain ⟨v, e, _⟩ := rs.get (List.getElem?_eq_getElem (show i < ds.length from hi))
    exact ⟨vs, v, .of E, e⟩
  yld := fun i h H1 t rh ok hi x H' y => by
    obtain ⟨e1, y⟩ := y
    subst e1
    obtain ⟨vs, E, rs⟩ := rh.lst ok
    obtain ⟨v, e, r⟩ := rs.get (getD_some (d := .non) (show i < ds.length from hi))
    have e2 := y vs (.of E)
    rw [e] at e2
    cases e2
    exact ⟨.refl _, rh, r⟩
  stop := fun h H1 t rh ok => by
    obtain ⟨vs, E, rs⟩ := rh.lst ok
    exact ⟨vs, .of E, by rw [← rs.length]; exact Nat.le_refl _⟩
theorem so_str {K : PySem.W.Frag} {H : Hp} {z : Str} : SrcOk K H (srcD (z.cps.toList.map fun c => .str ⟨#[c]⟩) fun _ => True) (Its z) where
  go := fun i h H1 t rh ok hi => by
    have hi' : i < (z.cps.toList.map fun c => D.str ⟨#[c]⟩).length := hi
    rw [List.length_map] at hi'
    show i < z.cps.size
    simpa using hi'
  yld := fun i h H1 t rh ok hi x H' y => by
    obtain ⟨e1, c, e2, e3⟩ := y
    subst e1 e3
    refine ⟨.refl _, rh, ?_⟩
    have e4 : (z.cps.toList.map fun c => D.str ⟨#[c]⟩)[i]? = some (.str ⟨#[c]⟩) := by
      rw [List.getElem?_map]
      have : z.cps.toList[i]? = some c := by simpa using e2
      rw [this]; rfl
    show RV _ _ ((z.cps.toList.map fun c => D.str ⟨#[c]⟩).getD i .non) _
    rw [List.getD_eq_getElem?_getD, e4]
    exact rv_str
  stop := fun h H1 t rh ok => by
    show z.cps.size ≤ (z.cps.toList.map fun c => D.str ⟨#[c]⟩).length
    rw [List.length_map]; simp
theorem so_enL {K : PySem.W.Frag} {H : Hp} {a : Addr} {ds : List D} : SrcOk K H (srcE ds fun h => h a = some (.lst ds)) (Ite K a) where
  go := fun i h H1 t rh ok hi => by
    obtain ⟨vs, E, rs⟩ := rh.lst ok
    obtain ⟨v, e, _⟩ := rs.get (List.getElem?_eq_getElem (show i < ds.length from hi))
    exact ⟨vs, v, .of E, e⟩
  yld := fun i h H1 t rh ok hi x H' y => by
    obtain ⟨T, z, e1, n, e2, y⟩ := y
    subst e1 e2
    obtain ⟨vs, E, rs⟩ := rh.lst ok
    obtain ⟨v, e, r⟩ := rs.get (getD_some (d := .non) (show i < ds.length from hi))
    have e2 := y vs (.of E)
    rw [e] at e2
    cases e2
    exact ⟨.new n, rh.skip n, rv_tup (.of upd_same) (.cons rv_int (.cons (r.mono (.new n)) .nil))⟩
  stop := fun h H1 t rh ok => by
    obtain ⟨vs, E, rs⟩ := rh.lst ok
    exact ⟨vs, .of E, by rw [← rs.length]; exact Nat.le_refl _⟩
theorem so_enI {K : PySem.W.Frag} {H : Hp} {a : Addr} {ds : List D} {vs : List V} (ta : SqI K H a vs) (rs : RVs K H ds vs) : SrcOk K H (srcE ds fun _ => True) (Ite K a) where
  go := fun i h H1 t rh ok hi => by
    obtain ⟨v, e, _⟩ := rs.get (List.getElem?_eq_getElem (show i < ds.length from hi))
    exact ⟨vs, v, (sqI_mono t ta).l, e⟩
  yld := fun i h H1 t rh ok hi x H' y => by
    obtain ⟨T, z, e1, n, e2, y⟩ := y
    subst e1 e2
    obtain ⟨v, e, r⟩ := (rs.mono t).get (getD_some (d := .non) (show i < ds.length from hi))
    have e2 := y vs (sqI_mono t ta).l
    rw [e] at e2
    cases e2
    exact ⟨.new n, rh.skip n, rv_tup (.of upd_same) (.cons rv_int (.cons (r.mono (.new n)) .nil))⟩
  stop := fun h H1 t rh ok => ⟨vs, (sqI_mono t ta).l, by rw [← rs.length]; exact Nat.le_refl _⟩
theorem so_enT {K : PySem.W.Frag} {H : Hp} {a : Addr} {ds : List D} {vs : List V} (ta : SqT K H a vs) (rs : RVs K H ds vs) : SrcOk K H (srcE ds fun _ => True) (IteT K a) where
  go := fun i h H1 t rh ok hi => by
    obtain ⟨v, e, _⟩ := rs.get (List.getElem?_eq_getElem (show i < ds.length from hi))
    exact ⟨vs, v, sqT_mono t ta, e⟩
  yld := fun i h H1 t rh ok hi x H' y => by
    obtain ⟨T, z, e1, n, e2, y⟩ := y
    subst e1 e2
    obtain ⟨v, e, r⟩ := (rs.mono t).get (getD_some (d := .non) (show i < ds.length from hi))
    have e2 := y vs (sqT_mono t ta)
    rw [e] at e2
    cases e2
    exact ⟨.new n, rh.skip n, rv_tup (.of upd_same) (.cons rv_int (.cons (r.mono (.new n)) .nil))⟩
  stop := fun h H1 t rh ok => ⟨vs, sqT_mono t ta, rs.length.symm⟩
theorem so_zL {K : PySem.W.Frag} {H : Hp} {a b : Addr} {ds es : List D} : SrcOk K H (srcZ ds es fun h => h a = some (.lst ds) ∧ h b = some (.lst es)) (Itz K a b) where
  go := fun i h H1 t rh ok hi => by
    obtain ⟨vs, E, rs⟩ := rh.lst ok.1
    obtain ⟨ws, E2, rt⟩ := rh.lst ok.2
    have hi' : i < min ds.length es.length := hi
    obtain ⟨v, e, _⟩ := rs.get (List.getElem?_eq_getElem (show i < ds.length by omega))
    obtain ⟨w, e2, _⟩ := rt.get (List.getElem?_eq_getElem (show i < es.length by omega))
    exact ⟨vs, ws, v, w, .of E, .of E2, e, e2⟩
  yld := fun i h H1 t rh ok hi x H' y => by
    obtain ⟨T, z, z2, e1, n, e2, y, y2⟩ := y
    subst e1 e2
    obtain ⟨vs, E, rs⟩ := rh.lst ok.1
    obtain ⟨ws, E2, rt⟩ := rh.lst ok.2
    have hi' : i < min ds.length es.length := hi
    obtain ⟨v, e, r⟩ := rs.get (getD_some (d := .non) (show i < ds.length by omega))
    obtain ⟨w, f, r2⟩ := rt.get (getD_some (d := .non) (show i < es.length by omega))
    have e2 := y vs (.of E)
    rw [e] at e2
    cases e2
    have f2 := y2 ws (.of E2)
    rw [f] at f2
    cases f2
    exact ⟨.new n, rh.skip n, rv_tup (.of upd_same) (.cons (r.mono (.new n)) (.cons (r2.mono (.new n)) .nil))⟩
  stop := fun h H1 t rh ok => by
    obtain ⟨vs, E, rs⟩ := rh.lst ok.1
    obtain ⟨ws, E2, rt⟩ := rh.lst ok.2
    refine ⟨vs, ws, .of E, .of E2, ?_⟩
    show vs.length ≤ min ds.length es.length ∨ ws.length ≤ min ds.length es.length
    rw [← rs.length, ← rt.length]
    omega
theorem so_zT {K : PySem.W.Frag} {H : Hp} {a b : Addr} {ds es : List D} {vs ws : List V} (ta : SqT K H a vs) (rs : RVs K H ds vs) (tb : SqT K H b ws) (rt : RVs K H es ws) : SrcOk K H (srcZ ds es fun _ => True) (RZ.ItzT K a b) where
  go := fun i h H1 t rh ok hi => by
    have hi' : i < min ds.length es.length := hi
    obtain ⟨v, e, _⟩ := rs.get (List.getElem?_eq_getElem (show i < ds.length by omega))
    obtain ⟨w, e2, _⟩ := rt.get (List.getElem?_eq_getElem (show i < es.length by omega))
    exact ⟨vs, ws, v, w, sqT_mono t ta, sqT_mono t tb, e, e2⟩
  yld := fun i h H1 t rh ok hi x H' y => by
    obtain ⟨T, z, z2, e1, n, e2, y, y2⟩ := y
    subst e1 e2
    have hi' : i < min ds.length es.length := hi
    obtain ⟨v, e, r⟩ := (rs.mono t).get (getD_some (d := .non) (show i < ds.length by omega))
    obtain ⟨w, f, r2⟩ := (rt.mono t).get (getD_some (d := .non) (show i < es.length by omega))
    have e2 := y vs (sqT_mono t ta)
    rw [e] at e2
    cases e2
    have f2 := y2 ws (sqT_mono t tb)
    rw [f] at f2
    cases f2
    exact ⟨.new n, rh.skip n, rv_tup (.of upd_same) (.cons (r.mono (.new n)) (.cons (r2.mono (.new n)) .nil))⟩
  stop := fun h H1 t rh ok => by
    refine ⟨vs, ws, sqT_mono t ta, sqT_mono t tb, ?_⟩
    show vs.length ≤ min ds.length es.length ∨ ws.length ≤ min ds.length es.length
    rw [← rs.length, ← rt.length]
    omega
theorem ii_range1 (hm : X.mg "range" = none) (ha : IE X Hb a ma) (hg : Gl X "range" := by rfl) (hs : starEach [a] X.env = [(false, eval a X.env)] := by rfl) : II X Hb tg (.Call (.Name "range" p) [a] [] pos) (mRange1 ma) := by
  refine pi_w (pi_range1 hg hm (ia_cons ha ia_nil hs) hs) fun σ H R ⟨env, h, Q0, re, rh, m, f⟩ => ?_
  refine ⟨env, h, (fun ds h1 => ∃ j, ds = [.int j] ∧ -(2 ^ 62) ≤ j ∧ j < 2 ^ 62 ∧ Q0 (srcR 0 j.toNat 1) h1), re, rh, ?_, ?_⟩
  · have e : (fun x h1 => ∃ j, [x] = [D.int j] ∧ -(2 ^ 62) ≤ j ∧ j < 2 ^ 62 ∧ Q0 (srcR 0 j.toNat 1) h1) = (fun x h1 => ∃ j, x = .int j ∧ -(2 ^ 62) ≤ j ∧ j < 2 ^ 62 ∧ Q0 (srcR 0 j.toNat 1) h1) := by
      funext x h1
      simp only [List.cons.injEq, and_true]
    show ma env h (fun x h1 => ∃ j, [x] = [D.int j] ∧ -(2 ^ 62) ≤ j ∧ j < 2 ^ 62 ∧ Q0 (srcR 0 j.toNat 1) h1)
    rw [e]
    exact m
  · rintro ds h1 ⟨j, rfl, l1, l2, q⟩ vs H1 t1 r1 rs
    obtain ⟨v, rfl, rx⟩ := rs.one
    rw [rx.int]
    exact ⟨j, rfl, l1, l2, f _ h1 q _ H1 t1 r1 so_itr⟩
theorem ii_range2 (hm : X.mg "range" = none) (ha : IE X Hb a ma) (hb : IE X Hb b mb) (hg : Gl X "range" := by rfl) (hs : starEach [a, b] X.env = [(false, eval a X.env), (false, eval b X.env)] := by rfl) (hs2 : starEach [b] X.env = [(false, eval b X.env)] := by rfl) :
    II X Hb tg (.Call (.Name "range" p) [a, b] [] pos) (mRange2 ma mb) := by
  refine pi_w (pi_range2 hg hm (ia_cons ha (ia_cons hb ia_nil hs2) (by rw [hs, hs2])) hs hs2) fun σ H R ⟨env, h, Q0, re, rh, m, f⟩ => ?_
  refine ⟨env, h, (fun ds h1 => ∃ i j, ds = [.int i, .int j] ∧ (-(2 ^ 62) ≤ i ∧ i < 2 ^ 62 ∧ -(2 ^ 62) ≤ j ∧ j < 2 ^ 62) ∧ Q0 (srcR i (j - i).toNat 1) h1), re, rh, ?_, ?_⟩
  · have e : (fun x h1 => mb env h1 fun y h2 => ∃ i j, [x, y] = [D.int i, D.int j] ∧ (-(2 ^ 62) ≤ i ∧ i < 2 ^ 62 ∧ -(2 ^ 62) ≤ j ∧ j < 2 ^ 62) ∧ Q0 (srcR i (j - i).toNat 1) h2) = (fun x h1 => mb env h1 fun y h2 => ∃ i j, x = .int i ∧ y = .int j ∧ (-(2 ^ 62) ≤ i ∧ i < 2 ^ 62 ∧ -(2 ^ 62) ≤ j ∧ j < 2 ^ 62) ∧ Q0 (srcR i (j - i).toNat 1) h2) := by
      funext x h1
      refine congrArg _ ?_
      funext y h2
      simp only [List.cons.injEq, and_true, and_assoc]
    show ma env h (fun x h1 => mb env h1 fun y h2 => ∃ i j, [x, y] = [D.int i, D.int j] ∧ (-(2 ^ 62) ≤ i ∧ i < 2 ^ 62 ∧ -(2 ^ 62) ≤ j ∧ j < 2 ^ 62) ∧ Q0 (srcR i (j - i).toNat 1) h2)
    rw [e]
    exact m
  · rintro ds h1 ⟨i, j, rfl, l, q⟩ vs H1 t1 r1 rs
    obtain ⟨v, w, rfl, rx, ry⟩ := rs.two
    rw [rx.int, ry.int]
    exact ⟨i, j, rfl, l, f _ h1 q _ H1 t1 r1 so_itr⟩
theorem ii_iter (ha : IE X Hb a ma) : II X Hb tg a (mIter ma) := by
  refine pi_w (pi_seqA ha) fun σ H R ⟨env, h, Q0, re, rh, m, f⟩ => ?_
  refine ⟨env, h, _, re, rh, m, fun x h1 q v H1 t1 r1 rx => ?_⟩
  cases x <;> first | exact q.elim | skip
  · rw [rx.str]
    exact .inr (.inr ⟨_, rfl, f _ h1 q _ H1 t1 r1 so_str⟩)
  · obtain ⟨a, vs, rfl, ta, rs⟩ := rx.tup
    exact .inr (.inl ⟨a, vs, rfl, ta, f _ h1 q _ H1 t1 r1 (so_tup ta rs)⟩)
  · obtain ⟨a, vs, rfl, ta, rs⟩ := rx.rl
    exact .inl ⟨a, vs, rfl, ta.l, f _ h1 q _ H1 t1 r1 (so_rl ta rs)⟩
  · obtain ⟨ds, e, q⟩ := q
    rw [rx.ref]
    obtain ⟨vs, E, rs⟩ := r1.lst e
    exact .inl ⟨_, vs, rfl, .of E, f _ h1 q _ H1 t1 r1 so_lst⟩
theorem ii_enum (hm : X.mg "enumerate" = none) (ha : IE X Hb a ma) (hg : Gl X "enumerate" := by rfl) (hs : starEach [a] X.env = [(false, eval a X.env)] := by rfl) : II X Hb (.Tuple elts kk tpos) (.Call (.Name "enumerate" p) [a] [] pos) (mEnum ma) := by
  refine pi_w (pi_enumA hg hm (pa_cons ha pa_nil hs) hs) fun σ H R ⟨env, h, Q0, re, rh, m, f⟩ => ?_
  refine ⟨env, h, _, re, rh, m, fun x h1 q v H1 t1 r1 rx => ?_⟩
  cases x <;> first | exact q.elim | skip
  · obtain ⟨a, vs, rfl, ta, rs⟩ := rx.tup
    exact ⟨a, vs, rfl, .inr ⟨ta, f _ h1 q _ H1 t1 r1 (so_enT ta rs)⟩⟩
  · obtain ⟨a, vs, rfl, ta, rs⟩ := rx.rl
    exact ⟨a, vs, rfl, .inl ⟨ta.l, f _ h1 q _ H1 t1 r1 (so_enI ta rs)⟩⟩
  · obtain ⟨ds, e, q⟩ := q
    rw [rx.ref]
    obtain ⟨vs, E, rs⟩ := r1.lst e
    exact ⟨_, vs, rfl, .inl ⟨.of E, f _ h1 q _ H1 t1 r1 so_enL⟩⟩
theorem ii_zip (hm : X.mg "zip" = none) (ha : IE X Hb a ma) (hb : IE X Hb b mb) (hg : Gl X "zip" := by rfl)
    (hs : starEach [a, b] X.env = (false, eval a X.env) :: starEach [b] X.env := by rfl) (hs2 : starEach [b] X.env = (false, eval b X.env) :: starEach [] X.env := by rfl) (hpl : (backTo pos (starEach [b] X.env)).any (·.1) = false := by rfl) :
    II X Hb (.Tuple elts kk tpos) (.Call (.Name "zip" p) [a, b] [] pos) (mZip ma mb) := by
  refine pi_w (RZ.pi_zipA hg hm (pa_cons ha (pa_cons hb pa_nil hs2) hs) hs hpl) fun σ H R ⟨env, h, Q0, re, rh, m, f⟩ => ?_
  refine ⟨env, h, _, re, rh, m, fun x h1 q1 v H1 t1 r1 rx => ?_⟩
  refine ⟨env, h1, _, re.mono t1, r1, q1, fun y h2 q w H2 t2 r2 ry => ?_⟩
  have t12 := t1.trans t2
  have rx2 := rx.mono t2
  cases x <;> cases y <;> first | exact q.elim | skip
  · obtain ⟨a, vs, rfl, ta, rs⟩ := rx2.tup
    obtain ⟨b, ws, rfl, tb, rt⟩ := ry.tup
    exact ⟨a, b, vs, ws, rfl, .inr ⟨ta, tb, f _ h2 q _ H2 t12 r2 (so_zT ta rs tb rt)⟩⟩
  · obtain ⟨ds, es, e, e2, q⟩ := q
    rw [rx2.ref, ry.ref]
    obtain ⟨vs, E, rs⟩ := r2.lst e
    obtain ⟨ws, E2, rt⟩ := r2.lst e2
    exact ⟨_, _, vs, ws, rfl, .inl ⟨.of E, .of E2, f _ h2 q _ H2 t12 r2 so_zL⟩⟩
theorem ii_range3 (hm : X.mg "range" = none) (ha : IE X Hb a ma) (hb : IE X Hb b mb) (hc : IE X Hb c mc) (hg : Gl X "range" := by rfl) (hs : starEach [a, b, c] X.env = (false, eval a X.env) :: starEach [b, c] X.env := by rfl)
    (hs2 : starEach [b, c] X.env = (false, eval b X.env) :: starEach [c] X.env := by rfl) (hs3 : starEach [c] X.env = (false, eval c X.env) :: starEach [] X.env := by rfl) (hpl : (backTo pos (starEach [b, c] X.env)).any (·.1) = false := by rfl) :
    II X Hb tg (.Call (.Name "range" p) [a, b, c] [] pos) (mRange3 ma mb mc) := by
  refine pi_w (pi_range3 hg hm (pa_cons ha (pa_cons hb (pa_cons hc pa_nil hs3) hs2) hs) hs hpl) fun σ H R ⟨env, h, Q0, re, rh, m, f⟩ => ?_
  refine ⟨env, h, _, re, rh, m, fun x h1 q1 v H1 t1 r1 rx => ?_⟩
  refine ⟨env, h1, _, re.mono t1, r1, q1, fun y h2 q2 w H2 t2 r2 ry => ?_⟩
  refine ⟨env, h2, _, re.mono (t1.trans t2), r2, q2, fun z h3 q w3 H3 t3 r3 rz => ?_⟩
  obtain ⟨i, j, k, n, rfl, rfl, rfl, rg, q⟩ := q
  rw [rx.int, ry.int, rz.int]
  exact ⟨i, j, k, n, rfl, rg, f _ h3 q _ H3 (t1.trans (t2.trans t3)) r3 so_itc⟩
end
end M

namespace M
open PySem L2
/-! ### comprehensions -/
def mwipe (env : ME) : List Nat → ME
  | [] => env
  | v :: vs => (mwipe env vs).set v none
theorem REnv.wipe {K : PySem.W.Frag} {Hb H : Hp} {env : ME} {σ : L2.St} (r : REnv K Hb H env σ) : ∀ vs : List Nat, REnv K Hb H (mwipe env vs) (L2.wipe σ vs)
  | [] => r
  | v :: vs => by
    have q := r.wipe vs
    unfold mwipe L2.wipe
    refine ⟨q.1, by rw [List.length_set, List.length_set]; exact q.2.1, fun j d' e => ?_⟩
    by_cases c : v = j
    · subst c
      by_cases hl : v < (mwipe env vs).length
      · rw [List.getElem?_set_self hl] at e
        cases e
      · rw [List.getElem?_eq_none (by rw [List.length_set]; omega)] at e
        cases e
    · rw [List.getElem?_set_ne c] at e ⊢
      exact q.2.2 j d' e
theorem wipe_comm {σ : L2.St} {v : Nat} : ∀ {vs : List Nat}, L2.wipe (σ.set v none) vs = (L2.wipe σ vs).set v none
  | [] => rfl
  | w :: vs => by
    unfold L2.wipe
    rw [wipe_comm]
    by_cases c : v = w
    · subst c; rfl
    · rw [List.set_comm _ _ c]
theorem wipe_wipe (σ : L2.St) : ∀ vs : List Nat, L2.wipe (L2.wipe σ vs) vs = L2.wipe σ vs
  | [] => rfl
  | v :: vs => by
    show (L2.wipe ((L2.wipe σ vs).set v none) vs).set v none = (L2.wipe σ vs).set v none
    rw [wipe_comm, wipe_wipe σ vs, List.set_set]
mutual
def Tg.inb (vs : List Nat) : Tg → Bool
  | .nm i => vs.contains i
  | .tp ts => Tg.insb vs ts
def Tg.insb (vs : List Nat) : List Tg → Bool
  | [] => true
  | t :: ts => t.inb vs && Tg.insb vs ts
end
mutual
theorem Tg.in_of {vs : List Nat} : ∀ {t : Tg}, t.inb vs = true → t.in vs
  | .nm i, h => by
    simp only [Tg.inb] at h
    simp only [Tg.in]
    simpa using h
  | .tp ts, h => by
    simp only [Tg.inb] at h
    simp only [Tg.in]
    exact Tg.ins_of h
theorem Tg.ins_of {vs : List Nat} : ∀ {ts : List Tg}, Tg.insb vs ts = true → Tg.ins vs ts
  | [], _ => by simp only [Tg.ins]
  | t :: ts, h => by
    simp only [Tg.insb, Bool.and_eq_true] at h
    simp only [Tg.ins]
    exact ⟨Tg.in_of h.1, Tg.ins_of h.2⟩
end
theorem ro_lst {K : PySem.W.Frag} {H : Hp} {ds : List D} {vs : List V} (r : RVs K H ds vs) : RO K H (.lst ds) (.lst vs) := ⟨vs, rfl, r⟩
def LcW (S : MSrc) (g : Tg) (t : MTT) (e : MTE) (vs : List Nat) (env : ME) (h1 : MH) (Q : MQ) : Prop := ∀ p, h1 p = none → ∃ W : Nat → MH → Prop, W 0 (up h1 p (.lst [])) ∧ ∀ k h', k ≤ S.n → W k h' → S.ok h' ∧
  (k < S.n → ∃ env2, asg g (S.item k) (mwipe env vs) = some env2 ∧ t env2 h' fun b h3 => if b = true then e env2 h3 fun y h4 => ∃ acc, h4 p = some (.lst acc) ∧ acc.length < sizeLine ∧ W (k + 1) (up h4 p (.lst (acc ++ [y]))) else W (k + 1) h3) ∧
  (k = S.n → Q (.ref p) h')
def mLc (i : MTI) (g : Tg) (t : MTT) (e : MTE) (vs : List Nat) : MTE := fun env h Q => i env h fun S h1 => LcW S g t e vs env h1 Q
def ITs (X : Cx) (Hb : Hp) (ifs : List Expr) (m : MTT) : Prop := PTs X ifs (liftT X.K Hb m)
def mYes : MTT := fun _ h Q => Q true h
section
variable {X : Cx} {Hb : Hp} {elt tg iter : Expr} {ifs : List Expr} {scope : Scope} {pos : Pos} {mi : MTI} {g : Tg} {mt : MTT} {me : MTE}
theorem its_nil : ITs X Hb [] mYes := ⟨fun pins s σ H Q I q => by
  obtain ⟨env, h, Q0, re, rh, m, f⟩ := q
  exact pts_nil.run pins s σ H Q I (f true h m H (.refl H) rh)⟩
theorem its_one {c : Expr} (h : IT X Hb c mt) : ITs X Hb [c] mt := pts_one h
theorem lc_lift {own : List (Str × Nat)} {K : PySem.W.Frag} {σ : L2.St} {H : Hp} {Q : VK} (hin : g.inb (own.map (·.2)) = true) (q : lift K Hb (mLc mi g mt me (own.map (·.2))) σ H Q) : tLc (liftI K Hb mi) (gT K g) (liftT K Hb mt) (lift K Hb me) (own.map (·.2)) σ H Q := by
  obtain ⟨env, h, Q0, re, rh, m, f⟩ := q
  refine ⟨env, h, _, re, rh, m, fun S h1 m1 J H1 t1 r1 so Dl hD => ?_⟩
  obtain ⟨W, w0, turn⟩ := m1 Dl (r1.free hD)
  have tD : TL H1 (upd H1 Dl (.lst [])) := .new hD
  refine ⟨fun i m H' => m = S.n - i ∧ i ≤ S.n ∧ TL H1 H' ∧ ∃ h', HR K h' H' ∧ W i h', ⟨S.n, rfl, Nat.zero_le _, tD, _, r1.new hD (ro_lst .nil), w0⟩, ?_⟩
  rintro i m H2 ⟨rfl, hi, t2, h2, r2, w2⟩
  obtain ⟨ok, q1, q2⟩ := turn i h2 hi w2
  by_cases c : i < S.n
  · obtain ⟨env2, e2, q⟩ := q1 c
    refine .inr ⟨so.go i h2 H2 t2 r2 ok c, fun H' => TL H1 H' ∧ ∃ h', HR K h' H' ∧ W (i + 1) h', ?_, fun x H3 hy => ?_⟩
    · rintro H' ⟨t, h', rh', w⟩
      exact ⟨_, by omega, rfl, c, t, h', rh', w⟩
    · obtain ⟨t3, r3, rx⟩ := so.yld i h2 H2 t2 r2 ok c x H3 hy
      have t13 := t1.trans (t2.trans t3)
      obtain ⟨σ3, k1, k2, k3⟩ := gT_ok e2 rx ((re.mono t13).wipe (own.map (·.2)))
      refine k1 _ ⟨(k3 _ (Tg.in_of hin)).trans (wipe_wipe _ _), env2, h2, _, k2, r3, q, fun b h4 q4 H4 t4 r4 => ?_⟩
      cases b with
      | true =>
        refine ⟨env2, h4, _, k2.mono t4, r4, q4, ?_⟩
        rintro y h5 ⟨acc, ea, z, w⟩ v H5 t5 r5 ry
        obtain ⟨vs, E, rs⟩ := r5.lst ea
        have tp : TL H5 (upd H5 Dl (.lst (vs ++ [v]))) := .put E (fun _ z => by cases z) (fun _ _ z => by cases z)
        refine ⟨vs, E, by rw [← rs.length]; exact z, t2.trans (t3.trans (t4.trans (t5.trans tp))), _, r5.put tp (ro_lst ((rs.append (.cons ry .nil)).mono tp)), w⟩
      | false => exact ⟨t2.trans (t3.trans t4), h4, r4, q4⟩
  · have e : i = S.n := by omega
    subst e
    exact .inl ⟨so.stop h2 H2 t2 r2 ok, f _ h2 (q2 rfl) _ H2 (t1.trans t2) r2 rv_ref⟩
theorem ie_lc {own : List (Str × Nat)} (hc : X.calm = true) (hN : X.N.Nodup) (hin : g.inb (own.map (·.2)) = true) (hi : II X Hb tg iter mi) (ok : BlkOk X.N X.env.scope scope own)
    (hg : ∀ (s : Shared) (H : Hp) (C : Addr) (cl : List (Str × Addr)) (fp : List Addr), IG (X.blk s H scope (compEnvC scope cl C X.env) fp) tg g) (ht : ∀ (s : Shared) (H : Hp) (C : Addr) (cl : List (Str × Addr)) (fp : List Addr), ITs (X.blk s H scope (compEnvC scope cl C X.env) fp) Hb ifs mt)
    (he : ∀ (s : Shared) (H : Hp) (C : Addr) (cl : List (Str × Addr)) (fp : List Addr), IE (X.blk s H scope (compEnvC scope cl C X.env) fp) Hb elt me) (hs : ∀ x, foldedSetIterable iter X.env x = pure x := by intro _; rfl) :
    IE X Hb (.ListComp elt [⟨tg, iter, ifs, 0⟩] scope pos) (mLc mi g mt me (own.map (·.2))) :=
  pe_w (pe_lc (g := gT X.K g) (tt := liftT X.K Hb mt) (te := lift X.K Hb me) hc hN hi ok hg ht he hs) fun σ H Q q => lc_lift hin q
theorem is_setLc (i : Nat) {y : Str} {py spos : Pos} {own : List (Str × Nat)} (hc : X.calm = true) (hN : X.N.Nodup) (hin : g.inb (own.map (·.2)) = true) (hy : X.N[i]? = some y) (hyl : X.env.scope.names.lookup y = some .local)
    (hsw : swapsWith (.ListComp elt [⟨tg, iter, ifs, 0⟩] scope pos) (some (.Name y py)) spos.line X.env = pure true) (hi : II X Hb tg iter mi) (ok : BlkOk X.N X.env.scope scope own)
    (hg : ∀ (s : Shared) (H : Hp) (C : Addr) (cl : List (Str × Addr)) (fp : List Addr), IG (X.blk s H scope (compEnvC scope cl C X.env) fp) tg g) (ht : ∀ (s : Shared) (H : Hp) (C : Addr) (cl : List (Str × Addr)) (fp : List Addr), ITs (X.blk s H scope (compEnvC scope cl C X.env) fp) Hb ifs mt)
    (he : ∀ (s : Shared) (H : Hp) (C : Addr) (cl : List (Str × Addr)) (fp : List Addr), IE (X.blk s H scope (compEnvC scope cl C X.env) fp) Hb elt me) (hs : ∀ x, foldedSetIterable iter X.env x = pure x := by intro _; rfl) :
    IS X Hb (.Assign [.Name y py] (.ListComp elt [⟨tg, iter, ifs, 0⟩] scope pos) spos) (mSet i (mLc mi g mt me (own.map (·.2)))) := by
  refine is_of (ps_setLc (g := gT X.K g) (tt := liftT X.K Hb mt) (te := lift X.K Hb me) hc hN hy hyl hsw hi ok hg ht he hs) fun D' σ H env h D0 re rh m f => ?_
  refine lc_lift (Hb := Hb) hin ⟨env, h, _, re, rh, m, fun d h1 q v H1 t1 r1 rv => ?_⟩
  exact f.nx _ h1 q _ H1 t1 ((re.mono t1).set i rv) r1
end
/-! ### built-in methods -/
def tyM (T : String) (x : D) (h : MH) : Prop := match x with
  | .ref a => T = "list" ∧ ∃ ds, h a = some (.lst ds)
  | .str _ => T = "str"
  | .rl _ => T = "list"
  | _ => False
abbrev MRM := D → List D → MH → MQ → Prop
def MtI (X : Cx) (id : String) (r : MRM) : Prop := ∃ R : V → List V → Hp → VK → Prop, MtR X id R ∧ ∀ (x : D) (xs : List D) (h : MH) (Q0 : MQ) (vx : V) (vs : List V) (H : Hp) (Q : VK), r x xs h Q0 → HR X.K h H → RV X.K H x vx → RVs X.K H xs vs → Fin X.K H Q0 Q → R vx vs H Q
def mBM (T : String) (r : MRM) (o : MTE) (t : MTA) : MTE := fun env h Q => o env h fun x h1 => tyM T x h1 ∧ t env h1 fun xs h2 => r x xs h2 Q
section
variable {X : Cx} {Hb : Hp} {o e : Expr} {es : List Expr} {mo : MTE} {ms : MTA} {name : Str} {apos cpos : Pos} {T id : String} {r : MRM}
theorem tyV_of {K : PySem.W.Frag} {x : D} {h : MH} {H : Hp} {v : V} (t : tyM T x h) (rh : HR K h H) (rx : RV K H x v) : tyV K T v H := by
  cases x <;> first | exact False.elim t | skip
  · obtain rfl : T = "str" := t
    rw [rx.str]; rfl
  · obtain rfl : T = "list" := t
    obtain ⟨a, vs, rfl, ta, _⟩ := rx.rl
    exact .inl ⟨rfl, vs, ta.l⟩
  · obtain ⟨rfl, ds, e⟩ := t
    rw [rx.ref]
    obtain ⟨vs, E, _⟩ := rh.lst e
    exact .inl ⟨rfl, vs, .of E⟩
theorem ie_bm (pa : PlainAttrs T) (slot : Slot T name id) (hty : typeOf (.builtin id) = pure (.type "method_descriptor")) (hm : MtI X id r) (ho : IE X Hb o mo) (ha : IA X Hb (e :: es) ms)
    (hbase : attributeBase o name X.env (eval o X.env) = eval o X.env := by rfl)
    (hfew : ((backTo cpos (starEach (e :: es) X.env)).all (fun x => !x.1) && (backToKw cpos (keywordEach [] X.env)).all (fun x => x.1.isSome)
      && decide ((e :: es).length + ([] : List Keyword).length + (if ([] : List Keyword).isEmpty then 0 else 1) < 30)) = true := by rfl)
    (hline : (apos.endLine == cpos.line) = true := by rfl) (hs : starEach (e :: es) X.env = (false, eval e X.env) :: starEach es X.env := by rfl) (hplain : (backTo cpos (starEach es X.env)).any (·.1) = false := by rfl) :
    IE X Hb (.Call (.Attribute o name apos) (e :: es) [] cpos) (mBM T r mo ms) := by
  obtain ⟨R, hR, hi⟩ := hm
  refine pe_w (pe_bm pa slot hty hR ho ha hbase hfew hline hs hplain) fun σ H Q ⟨env, h, Q0, re, rh, m, f⟩ => ?_
  refine ⟨env, h, _, re, rh, m, fun x h1 ⟨ty, q⟩ vx H1 t1 r1 rx => ⟨tyV_of ty r1 rx, ?_⟩⟩
  refine ⟨env, h1, _, re.mono t1, r1, q, fun ds h2 q2 vs H2 t2 r2 rs => ?_⟩
  exact hi x ds h2 Q0 vx vs H2 Q q2 r2 (rx.mono t2) rs (Fin.mono (t1.trans t2) f)
theorem ie_bm0 (pa : PlainAttrs T) (slot : Slot T name id) (hty : typeOf (.builtin id) = pure (.type "method_descriptor")) (hm : MtI X id r) (ho : IE X Hb o mo)
    (hbase : attributeBase o name X.env (eval o X.env) = eval o X.env := by rfl) (hline : (apos.endLine == cpos.line) = true := by rfl) : IE X Hb (.Call (.Attribute o name apos) [] [] cpos) (mBM T r mo mNil) := by
  obtain ⟨R, hR, hi⟩ := hm
  refine pe_w (pe_bm0 pa slot hty hR ho hbase hline) fun σ H Q ⟨env, h, Q0, re, rh, m, f⟩ => ?_
  refine ⟨env, h, _, re, rh, m, fun x h1 ⟨ty, q⟩ vx H1 t1 r1 rx => ⟨tyV_of ty r1 rx, ?_⟩⟩
  exact hi x [] h1 Q0 vx [] H1 Q q r1 rx .nil (Fin.mono t1 f)
def rAppend : MRM := fun x xs h Q => match x, xs with
  | .ref a, [y] => ∃ ds, h a = some (.lst ds) ∧ ds.length < sizeLine ∧ Q .non (up h a (.lst (ds ++ [y])))
  | _, _ => False
theorem mi_append : MtI X "list.append" rAppend := by
  refine ⟨_, mt_append, fun x xs h Q0 vx vs H Q q rh rx rs f => ?_⟩
  unfold rAppend at q
  split at q
  · obtain ⟨ds, e, z, q⟩ := q
    obtain ⟨v, rfl, ry⟩ := rs.one
    obtain ⟨ws, E, rt⟩ := rh.lst e
    rw [rx.ref]
    have t : TL H (upd H _ (.lst (ws ++ [v]))) := .put E (fun _ z => by cases z) (fun _ _ z => by cases z)
    exact ⟨_, ws, v, rfl, rfl, E, by rw [← rt.length]; exact z, f _ _ q _ _ t (rh.put t ⟨_, rfl, (rt.append (.cons ry .nil)).mono t⟩) rv_non⟩
  · exact q.elim
def rExtend : MRM := fun x xs h Q => match x, xs with
  | .ref a, [.ref b] => ∃ ds es, h a = some (.lst ds) ∧ h b = some (.lst es) ∧ ds.length + es.length ≤ sizeLine ∧ Q .non (up h a (.lst (ds ++ es)))
  | _, _ => False
theorem mi_extend : MtI X "list.extend" rExtend := by
  refine ⟨_, mt_extend, fun x xs h Q0 vx vs H Q q rh rx rs f => ?_⟩
  unfold rExtend at q
  split at q
  · obtain ⟨ds, es, e, e2, z, q⟩ := q
    obtain ⟨v, rfl, ry⟩ := rs.one
    obtain ⟨ws, E, rt⟩ := rh.lst e
    obtain ⟨us, E2, ru⟩ := rh.lst e2
    rw [rx.ref, ry.ref]
    have t : TL H (upd H _ (.lst (ws ++ us))) := .put E (fun _ z => by cases z) (fun _ _ z => by cases z)
    exact ⟨_, _, ws, us, rfl, rfl, E, E2, by rw [← rt.length, ← ru.length]; exact z, f _ _ q _ _ t (rh.put t ⟨_, rfl, (rt.append ru).mono t⟩) rv_non⟩
  · exact q.elim
end
/-! ### defs -/
abbrev MXE := Addr → MH → Prop
abbrev MSp := List D → MH → MQ → MXE → Prop
def FinE (K : PySem.W.Frag) (H : Hp) (E0 : MXE) (E : XK) : Prop := ∀ C h', E0 C h' → ∀ od H', TL H H' → HR K h' H' → E (.ref C) od H'
theorem FinE.mono {K : PySem.W.Frag} {H H' : Hp} {E0 : MXE} {E : XK} (t : TL H H') (f : FinE K H E0 E) : FinE K H' E0 E := fun C h' q od H2 t2 => f C h' q od H2 (t.trans t2)
def liftSp (K : PySem.W.Frag) (sp : MSp) : Sp := fun vs H Q E => ∃ ds h, ∃ Q0 : MQ, ∃ E0 : MXE, RVs K H ds vs ∧ HR K h H ∧ sp ds h Q0 E0 ∧ Fin K H Q0 Q ∧ FinE K H E0 E
abbrev noE : MXE := fun _ _ => False
def mCall (sp : MSp) (E : MXE) (t : MTA) : MTE := fun env h Q => t env h fun xs h1 => sp xs h1 Q E
def mstart (N : List Str) (ds : List D) : ME := ds.map some ++ List.replicate (N.length - ds.length) none
theorem renv_start {K : PySem.W.Frag} {H : Hp} {N : List Str} {ds : List D} {vs : List V} (r : RVs K H ds vs) : REnv K H H (mstart N ds) (L2.start N vs) := by
  refine ⟨.refl H, ?_, fun i d e => ?_⟩
  · unfold mstart L2.start
    simp [r.length]
  · unfold mstart at e
    unfold L2.start
    by_cases c : i < ds.length
    · rw [List.getElem?_append_left (by rw [List.length_map]; exact c), List.getElem?_map] at e
      cases q : ds[i]? with
      | none => rw [q] at e; cases e
      | some d' =>
        rw [q] at e
        cases e
        obtain ⟨v, e1, rv⟩ := r.get q
        refine ⟨v, ?_, rv⟩
        rw [List.getElem?_append_left (by rw [List.length_map, ← r.length]; exact c), List.getElem?_map, e1]
        rfl
    · rw [List.getElem?_append_right (by rw [List.length_map]; omega), List.getElem?_replicate] at e
      split at e <;> cases e
section
variable {X : Cx} {Hb : Hp} {CX : CXT} {k : Nat} {f C : Addr} {fd : FuncData} {ps : List Str} {sp : MSp} {x m : Str} {p pos apos : Pos} {e o : Expr} {es : List Expr} {mo : MTE} {ms : MTA}
theorem ie_callX {E : XK} {E0 : MXE} (F : FnOk X.prog X.w X.K X.mg X.base CX k f fd ps (liftSp X.K sp)) (hr : Room k X.A) (hm : X.mg x = some (.ref f)) (hk : PySem.W.keepIn X.K (.ref f) = true) (hb : Binds X.K fd ps []) (hx : Passes CX X E) (fe : FinE X.K Hb E0 E)
    (ha : IA X Hb (e :: es) ms) (hg : Gl X x := by rfl) (hdb : (x == ("__debug__" : Str)) = false := by decide) (he : starEach (e :: es) X.env = (false, eval e X.env) :: starEach es X.env := by rfl) (hpl : (backTo pos (starEach es X.env)).any (·.1) = false := by rfl) :
    IE X Hb (.Call (.Name x p) (e :: es) [] pos) (mCall sp E0 ms) := by
  refine pe_w (pe_call F hr hg hm hk hb .nil hx ha hdb he hpl) fun σ H Q ⟨env, h, Q0, re, rh, m, fq⟩ => ?_
  refine ⟨env, h, _, re, rh, m, fun ds h1 q vs H1 t1 r1 rs => ?_⟩
  show liftSp X.K sp (vs ++ []) H1 Q E
  rw [List.append_nil]
  exact ⟨ds, h1, Q0, E0, rs, r1, q, Fin.mono t1 fq, fe.mono (re.1.trans t1)⟩
theorem ie_call (F : FnOk X.prog X.w X.K X.mg X.base CX0 k f fd ps (liftSp X.K sp)) (hr : Room k X.A) (hm : X.mg x = some (.ref f)) (hk : PySem.W.keepIn X.K (.ref f) = true) (hb : Binds X.K fd ps [])
    (ha : IA X Hb (e :: es) ms) (hg : Gl X x := by rfl) (hdb : (x == ("__debug__" : Str)) = false := by decide) (he : starEach (e :: es) X.env = (false, eval e X.env) :: starEach es X.env := by rfl) (hpl : (backTo pos (starEach es X.env)).any (·.1) = false := by rfl) :
    IE X Hb (.Call (.Name x p) (e :: es) [] pos) (mCall sp noE ms) := ie_callX F hr hm hk hb pass0 (fun _ _ q => q.elim) ha hg hdb he hpl
theorem ie_call0 (F : FnOk X.prog X.w X.K X.mg X.base CX0 k f fd ps (liftSp X.K sp)) (hr : Room k X.A) (hm : X.mg x = some (.ref f)) (hk : PySem.W.keepIn X.K (.ref f) = true) (hb : Binds X.K fd ps [])
    (hg : Gl X x := by rfl) (hdb : (x == ("__debug__" : Str)) = false := by decide) : IE X Hb (.Call (.Name x p) [] [] pos) (mCall sp noE mNil) := by
  refine pe_w (pe_call0 F hr hg hm hk hb .nil pass0 hdb) fun σ H Q ⟨env, h, Q0, re, rh, m, fq⟩ => ?_
  exact ⟨[], h, Q0, noE, .nil, rh, m, fq, fun _ _ q => q.elim⟩
end
section
variable {P : Program} {w : World} {K : PySem.W.Frag} {mg : Str → Option Value} {base : Heap}
/-- a def that lets nothing out -/
theorem fnM {x qual : Str} {st : Stmt} {f : Addr} {fd : FuncData} {N ps : List Str} {k : Nat} {sp : MSp} {m : MTS} (F : Fun K x qual st f fd) (S : FnScope N ps (defScope st))
    (len : ∀ ds h Q E, sp ds h Q E → ds.length = ps.length)
    (d : ∀ (cdv : Value) (A : Around) (outer : List Env) (s : Shared) (H : Hp) (E : XK), Room k (A.deeper (PyProof.Rows.envOfC qual (defScope st) s.heap.objs.size f cdv)) → ISs (cxOf CX0 P w K mg base N qual (defScope st) f cdv A outer s H E).nox H (defBody st) m)
    (hm : ∀ ds h Q E, sp ds h Q E → m { nx := fun _ h' => Q .non h', rt := Q } (mstart N ds) h) : FnOk P w K mg base CX0 (k + 1) f fd ps (liftSp K sp) := by
  refine F.ok S (fun vs H Q E ⟨ds, h, Q0, E0, rs, rh, q, fq, fe⟩ => by rw [← rs.length]; exact len ds h Q0 E0 q) fun cdv A outer s H vs Q E hr ⟨ds, h, Q0, E0, rs, rh, q, fq, fe⟩ => ?_
  refine ⟨_, d cdv A outer s H E hr, ?_⟩
  refine liftS_iff.mpr ⟨mstart N ds, h, _, renv_start rs, rh, hm ds h Q0 E0 q, ?_, ?_, ?_, ?_⟩
  · exact fun env' h' q σ' H' t re' rh' => fq _ h' q _ H' t rh' rv_non
  · exact fun d h' q v H' t rv rh' => fq d h' q v H' t rh' rv
  · exact fun _ _ q => q.elim
  · exact fun _ _ q => q.elim
end
end M

namespace M
open PySem L2
/-! ### == -/
def isSc : D → D → Bool
  | .non, .non => true | .non, .int _ => true | .int _, .non => true | .non, .bl _ => true | .bl _, .non => true | .non, .str _ => true | .str _, .non => true
  | .int _, .int _ => true | .bl _, .bl _ => true | .str _, .str _ => true
  | .int _, .str _ => true | .str _, .int _ => true | .bl _, .str _ => true | .str _, .bl _ => true
  | _, _ => false
def eqS : D → D → Bool
  | .non, .non => true
  | .int i, .int j => decide (i = j)
  | .bl i, .bl j => decide (i = j)
  | .str i, .str j => decide (i = j)
  | _, _ => false
mutual
inductive DP (h : MH) : D → PyData → Prop
  | non : DP h .non .none
  | bl (b : Bool) : DP h (.bl b) (.bool b)
  | int (i : Int) : DP h (.int i) (.int i)
  | str (x : Str) : DP h (.str x) (.str x)
  | lst {a : Addr} {ds : List D} {ps : List PyData} : h a = some (.lst ds) → DPs h ds ps → DP h (.ref a) (.list ps)
  | rl {ds : List D} {ps : List PyData} : DPs h ds ps → DP h (.rl ds) (.list ps)
  | tup {ds : List D} {ps : List PyData} : DPs h ds ps → DP h (.tup ds) (.tuple ps)
inductive DPs (h : MH) : List D → List PyData → Prop
  | nil : DPs h [] []
  | cons {d : D} {ds : List D} {p : PyData} {ps : List PyData} : DP h d p → DPs h ds ps → DPs h (d :: ds) (p :: ps)
end
section
variable {K : PySem.W.Frag} {h : MH} {H : Hp}
mutual
theorem DP.dp (rh : HR K h H) : ∀ {d : D} {p : PyData} {v : V}, DP h d p → RV K H d v → Dp K H v p
  | _, _, _, .non, r => by rw [r.non]; exact .non
  | _, _, _, .bl b, r => by rw [r.bl]; exact .bl b
  | _, _, _, .int i, r => by rw [r.int]; exact .int i
  | _, _, _, .str x, r => by rw [r.str]; exact .str x
  | _, _, _, .lst e s, r => by
    rw [r.ref]
    obtain ⟨vs, E, rs⟩ := rh.lst e
    exact .lst (.of E) (DPs.dp rh s rs)
  | _, _, _, .rl s, r => by
    obtain ⟨a, vs, rfl, ta, rs⟩ := r.rl
    exact .lst ta.l (DPs.dp rh s rs)
  | _, _, _, .tup s, r => by
    obtain ⟨a, vs, rfl, ta, rs⟩ := r.tup
    exact .tup ta (DPs.dp rh s rs)
theorem DPs.dp (rh : HR K h H) : ∀ {ds : List D} {ps : List PyData} {vs : List V}, DPs h ds ps → RVs K H ds vs → DpAll K H vs ps
  | _, _, _, .nil, r => by rw [r.inv0]; exact .nil
  | _, _, _, .cons a b, r => by
    obtain ⟨v, ws, rfl, q, t⟩ := r.inv
    exact .cons (DP.dp rh a q) (DPs.dp rh b t)
end
end
def rEqD (x y : D) (h : MH) (Q : MQ) : Prop := ∃ p q, DP h x p ∧ DP h y q ∧ SeqAt.shaped p = true ∧ SeqAt.shaped q = true ∧ Q (.bl (PyData.eqv p q)) h
def rNeD (x y : D) (h : MH) (Q : MQ) : Prop := ∃ p q, DP h x p ∧ DP h y q ∧ SeqAt.shaped p = true ∧ SeqAt.shaped q = true ∧ Q (.bl (!PyData.eqv p q)) h
def rEq : MR2 := fun x y h Q => if isSc x y = true then Q (.bl (eqS x y)) h else rEqD x y h Q
def rNe : MR2 := fun x y h Q => if isSc x y = true then Q (.bl (!eqS x y)) h else rNeD x y h Q
section
variable {X : Cx}
theorem sc_of {K : PySem.W.Frag} {H : Hp} {x y : D} {vx vy : V} (c : isSc x y = true) (rx : RV K H x vx) (ry : RV K H y vy) : scal vx vy = true ∧ decide (vx = vy) = eqS x y := by
  cases x <;> cases y <;> first | (cases c; done) | skip
  all_goals simp only [RV] at rx ry
  all_goals subst rx ry
  all_goals refine ⟨rfl, ?_⟩
  all_goals (first | rfl | (simp only [eqS, decide_eq_decide, V.int.injEq, V.bl.injEq, V.str.injEq]) | (simp [eqS]))
theorem om_eq (hu : X.A.units + 64 < cLine) : OpM X (compareOp .Eq) rEq := by
  refine ⟨_, op_eq.or (op_eqD hu), fun x y h Q0 vx vy H Q q rh rx ry f => ?_⟩
  unfold rEq at q
  split at q
  · rename_i c
    obtain ⟨c1, c2⟩ := sc_of c rx ry
    exact .inl ⟨c1, by rw [c2]; exact fin_at f q rh rv_bl⟩
  · obtain ⟨p, p', d1, d2, s1, s2, q⟩ := q
    exact .inr ⟨p, p', d1.dp rh rx, d2.dp rh ry, s1, s2, fin_at f q rh rv_bl⟩
theorem om_ne (hu : X.A.units + 64 < cLine) : OpM X (compareOp .NotEq) rNe := by
  refine ⟨_, op_ne.or (op_neD hu), fun x y h Q0 vx vy H Q q rh rx ry f => ?_⟩
  unfold rNe at q
  split at q
  · rename_i c
    obtain ⟨c1, c2⟩ := sc_of c rx ry
    exact .inl ⟨c1, by rw [c2]; exact fin_at f q rh rv_bl⟩
  · obtain ⟨p, p', d1, d2, s1, s2, q⟩ := q
    exact .inr ⟨p, p', d1.dp rh rx, d2.dp rh ry, s1, s2, fin_at f q rh rv_bl⟩
/-! ### in: flat things -/
def flatD : D → Bool
  | .non => true
  | .bl _ => true
  | .int _ => true
  | .str _ => true
  | _ => false
def eqF : D → D → Bool
  | .non, .non => true
  | .bl a, .bl b => a == b
  | .bl a, .int b => (if a then 1 else 0) == b
  | .int a, .bl b => a == (if b then 1 else 0)
  | .int a, .int b => a == b
  | .str a, .str b => a == b
  | _, _ => false
def inF (x : D) (ds : List D) : Bool := ds.any fun y => eqF y x
def rIn (neg : Bool) : MR2 := fun x y h Q => match y with
  | .tup ds => flatD x = true ∧ ds.all flatD = true ∧ Q (.bl (if neg then !inF x ds else inF x ds)) h
  | .rl ds => flatD x = true ∧ ds.all flatD = true ∧ Q (.bl (if neg then !inF x ds else inF x ds)) h
  | .ref a => ∃ ds, h a = some (.lst ds) ∧ flatD x = true ∧ ds.all flatD = true ∧ Q (.bl (if neg then !inF x ds else inF x ds)) h
  | .str z => ∃ w, x = .str w ∧ Q (.bl (if neg then !(!(Builtin.Str.occurrences z w 0 z.length 1).isEmpty) else !(Builtin.Str.occurrences z w 0 z.length 1).isEmpty)) h
  | _ => False
theorem flat_of {K : PySem.W.Frag} {H : Hp} {x : D} {v : V} (c : flatD x = true) (r : RV K H x v) : flatV v = true := by
  cases x <;> first | (cases c; done) | skip
  all_goals simp only [RV] at r
  all_goals subst r
  all_goals rfl
theorem eqF_of {K : PySem.W.Frag} {H : Hp} {x y : D} {v w : V} (c : flatD x = true) (r : RV K H x v) (c2 : flatD y = true) (r2 : RV K H y w) : eqV v w = eqF x y := by
  cases x <;> first | (cases c; done) | skip
  all_goals (cases y <;> first | (cases c2; done) | skip)
  all_goals simp only [RV] at r r2
  all_goals subst r r2
  all_goals rfl
theorem flats_of {K : PySem.W.Frag} {H : Hp} : ∀ {ds : List D} {vs : List V}, ds.all flatD = true → RVs K H ds vs → vs.all flatV = true
  | [], _, _, r => by rw [r.inv0]; rfl
  | d :: ds, _, c, r => by
    obtain ⟨v, ws, rfl, q, t⟩ := r.inv
    rw [List.all_cons, Bool.and_eq_true] at c ⊢
    exact ⟨flat_of c.1 q, flats_of c.2 t⟩
theorem inF_of {K : PySem.W.Frag} {H : Hp} {x : D} {v : V} (c : flatD x = true) (r : RV K H x v) : ∀ {ds : List D} {vs : List V}, ds.all flatD = true → RVs K H ds vs → inV v vs = inF x ds
  | [], _, _, q => by rw [q.inv0]; rfl
  | d :: ds, _, c2, q => by
    obtain ⟨w, ws, rfl, q1, t⟩ := q.inv
    rw [List.all_cons, Bool.and_eq_true] at c2
    have ih := inF_of c r c2.2 t
    unfold inV inF at ih ⊢
    rw [List.any_cons, List.any_cons, ih, eqF_of c2.1 q1 c r]
theorem om_in : OpM X (compareOp .In) (rIn false) := by
  refine ⟨_, op_in_seq.or op_in_str, fun x y h Q0 vx vy H Q q rh rx ry f => ?_⟩
  cases y <;> first | exact q.elim | skip
  · obtain ⟨w, rfl, q⟩ := q
    rw [rx.str, ry.str]
    exact .inr ⟨_, _, rfl, rfl, fin_at f q rh rv_bl⟩
  · obtain ⟨c1, c2, q⟩ := q
    obtain ⟨a, vs, rfl, ta, rs⟩ := ry.tup
    exact .inl ⟨a, vs, rfl, .inr ta, flat_of c1 rx, flats_of c2 rs, by rw [inF_of c1 rx c2 rs]; exact fin_at f q rh rv_bl⟩
  · obtain ⟨c1, c2, q⟩ := q
    obtain ⟨a, vs, rfl, ta, rs⟩ := ry.rl
    exact .inl ⟨a, vs, rfl, .inl ta.l, flat_of c1 rx, flats_of c2 rs, by rw [inF_of c1 rx c2 rs]; exact fin_at f q rh rv_bl⟩
  · obtain ⟨ds, e, c1, c2, q⟩ := q
    rw [ry.ref]
    obtain ⟨vs, E, rs⟩ := rh.lst e
    exact .inl ⟨_, vs, rfl, .inl (.of E), flat_of c1 rx, flats_of c2 rs, by rw [inF_of c1 rx c2 rs]; exact fin_at f q rh rv_bl⟩
theorem om_notIn : OpM X (compareOp .NotIn) (rIn true) := by
  refine ⟨_, op_notIn_seq.or op_notin_str, fun x y h Q0 vx vy H Q q rh rx ry f => ?_⟩
  cases y <;> first | exact q.elim | skip
  · obtain ⟨w, rfl, q⟩ := q
    rw [rx.str, ry.str]
    exact .inr ⟨_, _, rfl, rfl, fin_at f q rh rv_bl⟩
  · obtain ⟨c1, c2, q⟩ := q
    obtain ⟨a, vs, rfl, ta, rs⟩ := ry.tup
    exact .inl ⟨a, vs, rfl, .inr ta, flat_of c1 rx, flats_of c2 rs, by rw [inF_of c1 rx c2 rs]; exact fin_at f q rh rv_bl⟩
  · obtain ⟨c1, c2, q⟩ := q
    obtain ⟨a, vs, rfl, ta, rs⟩ := ry.rl
    exact .inl ⟨a, vs, rfl, .inl ta.l, flat_of c1 rx, flats_of c2 rs, by rw [inF_of c1 rx c2 rs]; exact fin_at f q rh rv_bl⟩
  · obtain ⟨ds, e, c1, c2, q⟩ := q
    rw [ry.ref]
    obtain ⟨vs, E, rs⟩ := rh.lst e
    exact .inl ⟨_, vs, rfl, .inl (.of E), flat_of c1 rx, flats_of c2 rs, by rw [inF_of c1 rx c2 rs]; exact fin_at f q rh rv_bl⟩
/-! ### is -/
def isN : D → Bool | .non => true | _ => false
def rIs (neg : Bool) : MR2 := fun x y h Q => match y with
  | .non => Q (.bl (if neg then !isN x else isN x)) h
  | .bl b => ∃ a, x = .bl a ∧ Q (.bl (if neg then !decide (a = b) else decide (a = b))) h
  | _ => False
theorem isN_of {K : PySem.W.Frag} {H : Hp} {x : D} {v : V} (r : RV K H x v) : decide (v = .non) = isN x := by
  cases x <;> simp only [RV] at r <;> first | (subst r; rfl) | (obtain ⟨a, vs, e, _⟩ := r; subst e; rfl)
theorem om_is : OpM X (compareOp .Is) (rIs false) := by
  refine ⟨_, op_isN.or op_isBl, fun x y h Q0 vx vy H Q q rh rx ry f => ?_⟩
  cases y <;> first | exact q.elim | skip
  · exact .inl ⟨ry.non, by rw [isN_of rx]; exact fin_at f q rh rv_bl⟩
  · obtain ⟨a, rfl, q⟩ := q
    rw [rx.bl, ry.bl]
    exact .inr ⟨_, _, rfl, rfl, fin_at f q rh rv_bl⟩
theorem om_isnot : OpM X (compareOp .IsNot) (rIs true) := by
  refine ⟨_, op_notN.or op_notBl, fun x y h Q0 vx vy H Q q rh rx ry f => ?_⟩
  cases y <;> first | exact q.elim | skip
  · exact .inl ⟨ry.non, by rw [isN_of rx]; exact fin_at f q rh rv_bl⟩
  · obtain ⟨a, rfl, q⟩ := q
    rw [rx.bl, ry.bl]
    exact .inr ⟨_, _, rfl, rfl, fin_at f q rh rv_bl⟩
/-! ### max, min, sorted of ints in a list -/
def rMaxL : MRA := fun xs h Q => match xs with
  | [.ref a] => ∃ ns : List Int, h a = some (.lst (ns.map .int)) ∧ 0 < ns.length ∧ ∀ m, m ∈ ns → (∀ y, y ∈ ns → y ≤ m) → Q (.int m) h
  | _ => False
def rMinL : MRA := fun xs h Q => match xs with
  | [.ref a] => ∃ ns : List Int, h a = some (.lst (ns.map .int)) ∧ 0 < ns.length ∧ ∀ m, m ∈ ns → (∀ y, y ∈ ns → m ≤ y) → Q (.int m) h
  | _ => False
theorem cm_maxL (hc : X.calm = true) : CaM X (.builtin "max") rMaxL := by
  refine ⟨_, cr_max hc, fun xs h Q0 vs H Q q rh rs f => ?_⟩
  unfold rMaxL at q
  split at q
  · obtain ⟨v, rfl, rx⟩ := rs.one
    rw [rx.ref]
    obtain ⟨ns, e, l, q⟩ := q
    obtain ⟨vs, E, rs⟩ := rh.lst e
    rw [rs.ints] at E
    exact ⟨_, ns, rfl, .of E, l, fun m h1 h2 => fin_at f (q m h1 h2) rh rv_int⟩
  · exact q.elim
theorem cm_minL (hc : X.calm = true) : CaM X (.builtin "min") rMinL := by
  refine ⟨_, cr_min hc, fun xs h Q0 vs H Q q rh rs f => ?_⟩
  unfold rMinL at q
  split at q
  · obtain ⟨v, rfl, rx⟩ := rs.one
    rw [rx.ref]
    obtain ⟨ns, e, l, q⟩ := q
    obtain ⟨vs, E, rs⟩ := rh.lst e
    rw [rs.ints] at E
    exact ⟨_, ns, rfl, .of E, l, fun m h1 h2 => fin_at f (q m h1 h2) rh rv_int⟩
  · exact q.elim
end
end M

namespace M
open PySem L2
/-! ### isinstance -/
def tyD (h : MH) : D → String
  | .non => "NoneType"
  | .bl _ => "bool"
  | .int _ => "int"
  | .str _ => "str"
  | .tup _ => "tuple"
  | .rl _ => "list"
  | .ref a => match h a with
    | some (.lst _) => "list"
    | some (.dK _) => "dict"
    | some (.dT _) => "dict"
    | _ => "?"
def isTy (t c : String) : Bool := t == c || (t == "bool" && c == "int")
structure Kt (c : String) : Prop where
  yes : ∀ (K : PySem.W.Frag) (t : String), t = "NoneType" ∨ t = "bool" ∨ t = "int" ∨ t = "str" ∨ t = "tuple" ∨ t = "list" ∨ t = "dict" → PySem.W.kitOne K (.type t) (.type c) = some (isTy t c)
theorem kt_int : Kt "int" := ⟨fun K t h => by rcases h with e | e | e | e | e | e | e <;> subst e <;> exact kit_ty (by decide +kernel)⟩
theorem kt_bool : Kt "bool" := ⟨fun K t h => by rcases h with e | e | e | e | e | e | e <;> subst e <;> exact kit_ty (by decide +kernel)⟩
theorem kt_str : Kt "str" := ⟨fun K t h => by rcases h with e | e | e | e | e | e | e <;> subst e <;> exact kit_ty (by decide +kernel)⟩
theorem kt_tuple : Kt "tuple" := ⟨fun K t h => by rcases h with e | e | e | e | e | e | e <;> subst e <;> exact kit_ty (by decide +kernel)⟩
theorem kt_list : Kt "list" := ⟨fun K t h => by rcases h with e | e | e | e | e | e | e <;> subst e <;> exact kit_ty (by decide +kernel)⟩
theorem kt_dict : Kt "dict" := ⟨fun K t h => by rcases h with e | e | e | e | e | e | e <;> subst e <;> exact kit_ty (by decide +kernel)⟩
theorem bt_int : bootBuiltins "int" = some (.type "int") := PyProof.Rows.boot_int
theorem bt_bool : bootBuiltins "bool" = some (.type "bool") := PyProof.Rows.boot_bool
theorem bt_str : bootBuiltins "str" = some (.type "str") := PyProof.Rows.boot_str
theorem bt_tuple : bootBuiltins "tuple" = some (.type "tuple") := PyProof.Rows.boot_tuple
theorem bt_list : bootBuiltins "list" = some (.type "list") := PyProof.Rows.boot_list
theorem bt_dict : bootBuiltins "dict" = some (.type "dict") := PyProof.Rows.boot_dict
def mIsi (c : String) (a : MTE) : MTE := fun env h Q => a env h fun x h1 => tyD h1 x ≠ "?" ∧ Q (.bl (isTy (tyD h1 x) c)) h1
theorem tyX_of {K : PySem.W.Frag} {h : MH} {H : Hp} {x : D} {v : V} (n : tyD h x ≠ "?") (rh : HR K h H) (r : RV K H x v) :
    TyX K H v (.type (tyD h x)) ∧ (tyD h x = "NoneType" ∨ tyD h x = "bool" ∨ tyD h x = "int" ∨ tyD h x = "str" ∨ tyD h x = "tuple" ∨ tyD h x = "list" ∨ tyD h x = "dict") := by
  cases x with
  | non => rw [r.non]; exact ⟨.base .non, .inl rfl⟩
  | bl b => rw [r.bl]; exact ⟨.base (.bl b), .inr (.inl rfl)⟩
  | int b => rw [r.int]; exact ⟨.base (.int b), .inr (.inr (.inl rfl))⟩
  | str b => rw [r.str]; exact ⟨.base (.str b), .inr (.inr (.inr (.inl rfl)))⟩
  | tup ds =>
    obtain ⟨a, vs, rfl, ta, _⟩ := r.tup
    refine ⟨?_, .inr (.inr (.inr (.inr (.inl rfl))))⟩
    rcases ta with (e | ⟨o, e⟩) | ⟨o, its, n, e, c, _⟩
    · exact .base (.tup e)
    · exact .fTuple e
    · exact .kTuple e c
  | rl ds =>
    obtain ⟨a, vs, rfl, ta, _⟩ := r.rl
    refine ⟨?_, .inr (.inr (.inr (.inr (.inr (.inl rfl)))))⟩
    rcases ta with ⟨o, e⟩ | ⟨o, its, n, e, c, _⟩
    · exact .base (.frz e)
    · exact .kList e c
  | ref a =>
    rw [r.ref]
    cases e : h a with
    | none => exact absurd (by show (match h a with | some (.lst _) => "list" | some (.dK _) => "dict" | some (.dT _) => "dict" | _ => "?") = "?"; rw [e]) n
    | some o =>
      cases o with
      | lst ds =>
        have e1 : tyD h (.ref a) = "list" := by show (match h a with | some (.lst _) => "list" | some (.dK _) => "dict" | some (.dT _) => "dict" | _ => "?") = "list"; rw [e]
        obtain ⟨vs, E, _⟩ := rh.lst e
        rw [e1]
        exact ⟨.base (.lst E), .inr (.inr (.inr (.inr (.inr (.inl rfl)))))⟩
      | dK ds =>
        have e1 : tyD h (.ref a) = "dict" := by show (match h a with | some (.lst _) => "list" | some (.dK _) => "dict" | some (.dT _) => "dict" | _ => "?") = "dict"; rw [e]
        obtain ⟨vs, E, _⟩ := rh.dK e
        rw [e1]
        exact ⟨.base (.dK E), .inr (.inr (.inr (.inr (.inr (.inr rfl)))))⟩
      | dT ds =>
        have e1 : tyD h (.ref a) = "dict" := by show (match h a with | some (.lst _) => "list" | some (.dK _) => "dict" | some (.dT _) => "dict" | _ => "?") = "dict"; rw [e]
        obtain ⟨vs, E, _⟩ := rh.dT e
        rw [e1]
        exact ⟨.base (.dT E), .inr (.inr (.inr (.inr (.inr (.inr rfl)))))⟩
      | fT fs ws od => exact absurd (by show (match h a with | some (.lst _) => "list" | some (.dK _) => "dict" | some (.dT _) => "dict" | _ => "?") = "?"; rw [e]) n
section
variable {X : Cx} {Hb : Hp} {e : Expr} {es : List Expr} {me : MTE} {pos p p2 : Pos} {c : Str} {cn : String}
theorem ie_isi (hm : X.mg "isinstance" = none) (hmc : X.mg c = none) (he : IE X Hb e me) (hv : bootBuiltins c = some (.type cn)) (k : Kt cn) (hg : Gl X "isinstance" := by rfl) (hgc : Gl X c := by rfl) (hn : c ≠ "__name__" := by decide) (hd : (c == ("__debug__" : Str)) = false := by decide)
    (hs : starEach [e, .Name c p2] X.env = (false, eval e X.env) :: starEach [.Name c p2] X.env := by rfl) (hs2 : starEach [.Name c p2] X.env = (false, eval (.Name c p2) X.env) :: starEach [] X.env := by rfl) (hpl : (backTo pos (starEach [.Name c p2] X.env)).any (·.1) = false := by rfl) :
    IE X Hb (.Call (.Name "isinstance" p) [e, .Name c p2] [] pos) (mIsi cn me) := by
  refine pe_w (pe_callB call_isi hg hm PyProof.Rows.boot_isinstance (pa_cons he (pa_cons (pe_bltn (v := .ty cn) hgc hmc hv rfl hn hd) pa_nil hs2) hs) (by decide) (by decide) hs hpl) fun σ H Q ⟨env, h, Q0, re, rh, m, f⟩ => ?_
  refine ⟨env, h, _, re, rh, m, fun x h1 q v H1 t1 r1 rx => ?_⟩
  obtain ⟨ty, cs⟩ := tyX_of q.1 r1 rx
  exact ⟨v, .ty cn, _, _, _, rfl, .ty cn, ty, k.yes _ _ cs, f _ h1 q.2 _ H1 t1 r1 rv_bl⟩
/-! ### a list unpacked -/
def mAsgL (a : MTE) (ts : List Tg) : MTS := fun D' env h => a env h fun d h1 => ∃ b ds, d = .ref b ∧ h1 b = some (.lst ds) ∧ ∃ env', asgs ts ds env = some env' ∧ D'.nx env' h1
theorem is_asgL {ts : List Tg} {k : Nat} {pt : Pos} (hc : X.calm = true) (he : IE X Hb e me) (hg : IGs X es ts) (hn : (assignEach es X.env).length = ts.length := by rfl) (hst : (assignEach es X.env).findIdx? (·.1) = none := by rfl)
    (hs : swapsWithSole [.Tuple es k pt] e pos.line X.env = pure false := by rfl) (hw : swappedStores [.Tuple es k pt] e X.env = pure none := by rfl)
    (h1 : (assignEach [.Tuple es k pt] X.env).map (·.2) = [assign (.Tuple es k pt) X.env] := by rfl) : IS X Hb (.Assign [.Tuple es k pt] e pos) (mAsgL me ts) := by
  refine is_of (ps_asg he (pg_unl (t := gTs X.K ts) (n := ts.length) hc hg hn hst) hs hw h1) fun D' σ H env h D0 re rh m f => ?_
  refine ⟨env, h, _, re, rh, m, ?_⟩
  rintro d h1 ⟨b, ds, rfl, e1, env', e2, q⟩ v H1 t1 r1 rv
  obtain ⟨vs, E, rs⟩ := r1.lst e1
  rw [rv.ref]
  obtain ⟨σ', k1, k2, _⟩ := gTs_ok e2 rs (re.mono t1)
  exact ⟨b, vs, rfl, .of E, by rw [asgs_len e2, rs.length], k1 _ (f.nx env' h1 q σ' H1 t1 k2 r1)⟩
end
/-! ### a def of the text, a constant of the text -/
structure Fd (K : PySem.W.Frag) (mg : Str → Option Value) (x qual : Str) (st : Stmt) (ps : List Str) where
  a : Addr
  fd : FuncData
  F : Fun K x qual st a fd
  b : Binds K fd ps []
  m : mg x = some (.ref a)
structure Gc (K : PySem.W.Frag) (mg : Str → Option Value) (x : Str) (d : D) where
  u : Value
  v : V
  m : mg x = some u
  r : RelV v u
  rv : ∀ H, RV K H d v
theorem Gc.ie {X : Cx} {Hb : Hp} {x : Str} {d : D} {pos : Pos} (g : Gc X.K X.mg x d) (hg : Gl X x := by rfl) (hd : (x == ("__debug__" : Str)) = false := by decide) : IE X Hb (.Name x pos) (mC d) := ie_c (pe_glob hg g.m g.r hd) g.rv
/-! ### the end -/
theorem start_law {K : PySem.W.Frag} {H : Hp} {a : Addr} {ns : List Int} {sp : MSp} (hl : ns.length ≤ 63) (hb : ∀ z ∈ ns, Builtin.Int.intBits z ≤ 1048576) (hO : Only H) (hS : SqL K H a (ns.map V.int))
    (h : sp [.rl (ns.map .int)] (fun _ => none) (fun d _ => d = .bl true) noE) : liftSp K sp [.ref a] H (fun v _ => v = .bl true) fun _ _ _ => False := by
  have hI : SqI K H a (ns.map V.int) := by
    rcases hS with (e | ⟨o, e⟩) | e
    · rcases hO a with z | ⟨o, xs, z⟩
      · rw [e] at z; cases z
      · rw [e] at z; cases z
    · exact .inl ⟨o, e⟩
    · exact .inr e
  refine ⟨_, _, _, _, .cons ?_ .nil, fun _ _ e => (by cases e), h, fun d h' q v H' t rh rv => ?_, fun _ _ q => q.elim⟩
  · simp only [RV]
    exact ⟨a, _, rfl, hI, .of_ints⟩
  · subst q
    exact rv.bl
/-! ### frames -/
def Fr (S : List Addr) (h h' : MH) : Prop := ∀ b o, b ∉ S → h b = some o → h' b = some o
theorem Fr.refl {S : List Addr} {h : MH} : Fr S h h := fun _ _ _ e => e
theorem Fr.trans {S : List Addr} {h h1 h2 : MH} (a : Fr S h h1) (b : Fr S h1 h2) : Fr S h h2 := fun c o n e => b c o n (a c o n e)
theorem Fr.mono {S S' : List Addr} {h h1 : MH} (a : Fr S h h1) (s : ∀ x ∈ S, x ∈ S') : Fr S' h h1 := fun c o n e => a c o (fun z => n (s _ z)) e
theorem Fr.new {S : List Addr} {h : MH} {p : Addr} {o : MO} (n : h p = none) : Fr S h (up h p o) := fun b u _ e => by rw [up_ne (ne_of e n)]; exact e
theorem Fr.put {S : List Addr} {h : MH} {p : Addr} {o : MO} (n : p ∈ S) : Fr S h (up h p o) := fun b u nb e => by rw [up_ne (fun z => nb (by rw [z]; exact n))]; exact e
theorem Fr.at0 {h h' : MH} (f : Fr [] h h') {a : Addr} {o : MO} (e : h a = some o) : h' a = some o := f a o (by simp) e
theorem Fr.at1 {h h' : MH} {p a : Addr} {o : MO} (f : Fr [p] h h') (e : h a = some o) (n : a ≠ p) : h' a = some o := f a o (by simpa using n) e
theorem Fr.free {h h' : MH} (f : Fr [] h h') {a : Addr} (e : h' a = none) : h a = none := by
  cases q : h a with
  | none => rfl
  | some o => rw [f.at0 q] at e; cases e
/-! ### the walk -/
theorem seq_ {a b : MTS} {D' : MEnds} {env : ME} {h : MH} (k : a { D' with nx := b D' } env h) : mSeq a b D' env h := k
theorem ite_ {c : Prop} [Decidable c] {A B : Prop} (h1 : c → A) (h2 : ¬ c → B) : if decide c = true then A else B := by
  by_cases h : c
  · rw [if_pos (decide_eq_true h)]; exact h1 h
  · rw [if_neg (by simpa using h)]; exact h2 h
theorem iteb_ {c : Bool} {A B : Prop} (h1 : c = true → A) (h2 : c = false → B) : if c = true then A else B := by
  cases c with
  | true => rw [if_pos rfl]; exact h1 rfl
  | false => rw [if_neg Bool.false_ne_true]; exact h2 rfl
end M
namespace M
open PySem L2
section
variable {D' : MEnds} {env : ME} {h : MH} {e o i : MTE} {a b : MTS} {c : MTT} {n j : Nat} {t : Tg} {ts : List Tg} {r : MR2} {rs : MRSet}
theorem set_ (k : e env h fun d h1 => D'.nx (env.set n (some d)) h1) : mSet n e D' env h := k
theorem ret_ (k : e env h D'.rt) : mRet e D' env h := k
theorem retN_ (k : D'.rt .non h) : mRetN D' env h := k
theorem drop_ (k : e env h fun _ h1 => D'.nx env h1) : mDrop e D' env h := k
theorem next_ (k : D'.nx env h) : mNext D' env h := k
theorem brk_ (k : D'.bk env h) : mBrk D' env h := k
theorem ct_ (k : D'.ct env h) : mCt D' env h := k
theorem if_ (k : c env h fun k h1 => if k = true then a D' env h1 else b D' env h1) : mIf c a b D' env h := k
theorem asg_ (k : e env h fun d h1 => ∃ env', asg t d env = some env' ∧ D'.nx env' h1) : mAsg e t D' env h := k
theorem asgL_ (k : e env h fun d h1 => ∃ b ds, d = .ref b ∧ h1 b = some (.lst ds) ∧ ∃ env', asgs ts ds env = some env' ∧ D'.nx env' h1) : mAsgL e ts D' env h := k
theorem put_ (k : e env h fun d h1 => o env h1 fun x h2 => i env h2 fun y h3 => rs x y d h3 fun h4 => D'.nx env h4) : mPut rs e o i D' env h := k
theorem for_ {i : MTI} (k : i env h fun S h1 => ForW S t a D' env h1) : mFor i t a D' env h := k
theorem while_ (W : Nat → ME → MH → Prop) (m : Nat) (w0 : W m env h) (turn : ∀ m env h, W m env h →
  c env h fun k h1 => if k = true then a { D' with nx := fun env' h' => ∃ m', m' < m ∧ W m' env' h', ct := fun env' h' => ∃ m', m' < m ∧ W m' env' h', bk := D'.nx } env h1 else D'.nx env h1) : mWhile c a D' env h := ⟨W, ⟨m, w0⟩, turn⟩
/-- the loop's word -/
theorem forW {S : MSrc} {h1 : MH} (W : Nat → ME → MH → Prop) (w0 : W 0 env h1) (ok : ∀ k env' h', W k env' h' → S.ok h') (turn : ∀ k env' h', k < S.n → W k env' h' →
    ∃ env2, asg t (S.item k) env' = some env2 ∧ a { D' with nx := W (k + 1), ct := W (k + 1), bk := D'.nx } env2 h') (fin : ∀ env' h', W S.n env' h' → D'.nx env' h') : ForW S t a D' env h1 :=
  ⟨W, w0, fun k env' h' hk w => ⟨ok k env' h' w, fun hl => turn k env' h' hl w, fun e => fin env' h' (e ▸ w)⟩⟩
/-- a comprehension whose element and test leave the heap's things as they are -/
theorem lcW {S : MSrc} {h1 : MH} {Q : MQ} {tt : MTT} {vs : List Nat} (f : Nat → Option D) (ok : ∀ h', Fr [] h1 h' → S.ok h') (hz : S.n ≤ 100000) (turn : ∀ k h', k < S.n → Fr [] h1 h' →
    ∃ env2, asg t (S.item k) (mwipe env vs) = some env2 ∧ ∀ R : Bool → MH → Prop, (∀ h3, Fr [] h' h3 → R (f k).isSome h3) → tt env2 h' R)
    (el : ∀ k h' env2 d, k < S.n → Fr [] h1 h' → asg t (S.item k) (mwipe env vs) = some env2 → f k = some d → ∀ R : MQ, (∀ h3, Fr [] h' h3 → R d h3) → e env2 h' R)
    (fin : ∀ p h', Fr [] h1 h' → h1 p = none → h' p = some (.lst ((List.range S.n).filterMap f)) → Q (.ref p) h') : LcW S t tt e vs env h1 Q := by
  intro p np
  refine ⟨fun k h' => Fr [] h1 h' ∧ h' p = some (.lst ((List.range k).filterMap f)), ⟨.new np, up_same⟩, fun k h' hk ⟨fr, ep⟩ => ⟨ok h' fr, fun hl => ?_, fun e => fin p h' fr np (e ▸ ep)⟩⟩
  obtain ⟨env2, ea, ht⟩ := turn k h' hl fr
  refine ⟨env2, ea, ht _ fun h3 f3 => ?_⟩
  have e3 := f3.at0 ep
  have sz : ((List.range k).filterMap f).length < sizeLine := by
    have := List.length_filterMap_le f (List.range k)
    rw [List.length_range] at this
    rw [sizeLine_eq]; omega
  cases q : f k with
  | none =>
    refine ⟨fr.trans f3, ?_⟩
    rw [List.range_succ, List.filterMap_append, List.filterMap_cons, q, List.filterMap_nil, List.append_nil]
    exact e3
  | some d =>
    refine el k h3 env2 d hl (fr.trans f3) ea q _ fun h4 f4 => ?_
    refine ⟨_, f4.at0 e3, sz, fun b o nb e => ?_, ?_⟩
    · rw [up_ne (ne_of e np)]
      exact f4.at0 (f3.at0 (fr.at0 e))
    · rw [up_same, List.range_succ, List.filterMap_append, List.filterMap_cons, q, List.filterMap_nil]
theorem par_ (k : e env h fun x h1 => o env h1 fun y h2 => D'.nx ((env.set n (some x)).set j (some y)) h2) : mPar n j e o D' env h := k
theorem aug_ (k : ∃ x, env[n]? = some (some x) ∧ e env h fun y h1 => r x y h1 fun z h2 => D'.nx (env.set n (some z)) h2) : mAug n r e D' env h := k
end
section
variable {α : Type} {x y z u v w : α} {xs : List α}
theorem at0 : atI (x :: xs) 0 = some x := atI_nat (j := 0) rfl
theorem at1 : atI (x :: y :: xs) 1 = some y := atI_nat (j := 1) rfl
theorem at2 : atI (x :: y :: z :: xs) 2 = some z := atI_nat (j := 2) rfl
theorem at3 : atI (x :: y :: z :: u :: xs) 3 = some u := atI_nat (j := 3) rfl
theorem at4 : atI (x :: y :: z :: u :: v :: xs) 4 = some v := atI_nat (j := 4) rfl
theorem at5 : atI (x :: y :: z :: u :: v :: w :: xs) 5 = some w := atI_nat (j := 5) rfl
end
theorem srcR_item {lo c : Int} {n k : Nat} : (srcR lo n c).item k = .int (lo + (k : Nat) * c) := rfl
theorem srcR_n {lo c : Int} {n : Nat} : (srcR lo n c).n = n := rfl
theorem srcD_n {ds : List D} {ok : MH → Prop} : (srcD ds ok).n = ds.length := rfl
theorem srcE_n {ds : List D} {ok : MH → Prop} : (srcE ds ok).n = ds.length := rfl
theorem srcZ_n {ds es : List D} {ok : MH → Prop} : (srcZ ds es ok).n = min ds.length es.length := rfl
theorem srcD_item {ds : List D} {ok : MH → Prop} {k : Nat} : (srcD ds ok).item k = ds.getD k .non := rfl
theorem srcE_item {ds : List D} {ok : MH → Prop} {k : Nat} : (srcE ds ok).item k = .tup [.int (k : Nat), ds.getD k .non] := rfl
theorem srcZ_item {ds es : List D} {ok : MH → Prop} {k : Nat} : (srcZ ds es ok).item k = .tup [ds.getD k .non, es.getD k .non] := rfl
end M

namespace M
open PySem L2
/-! ### more rules -/
def mRev (a : MTE) : MTE := fun env h Q => a env h fun x h1 => match x with
  | .rl ds => ∀ p, h1 p = none → Q (.ref p) (up h1 p (.lst ds.reverse))
  | .ref a => ∃ ds, h1 a = some (.lst ds) ∧ ∀ p, h1 p = none → Q (.ref p) (up h1 p (.lst ds.reverse))
  | _ => False
theorem RVs.reverse {K : PySem.W.Frag} {H : Hp} : ∀ {ds : List D} {vs : List V}, RVs K H ds vs → RVs K H ds.reverse vs.reverse
  | [], _, h => by rw [h.inv0]; exact .nil
  | d :: ds, _, h => by
    obtain ⟨v, r, rfl, q, t⟩ := h.inv
    rw [List.reverse_cons, List.reverse_cons]
    exact t.reverse.append (.cons q .nil)
theorem rgV_ints (a b : Int) : rgV a b = ((List.range (b - a).toNat).map fun i => a + (i : Nat)).map V.int := by
  unfold rgV; rw [List.map_map]; rfl
def rgI (a b : Int) : List Int := (List.range (b - a).toNat).map fun i => a + (i : Nat)
def mTupR1 (a : MTE) : MTE := fun env h Q => a env h fun x h1 => ∃ j, x = .int j ∧ RgOk 0 j ∧ Q (.tup ((rgI 0 j).map .int)) h1
def mLstR1 (a : MTE) : MTE := fun env h Q => a env h fun x h1 => ∃ j, x = .int j ∧ RgOk 0 j ∧ ∀ p, h1 p = none → Q (.ref p) (up h1 p (.lst ((rgI 0 j).map .int)))
section
variable {X : Cx} {Hb : Hp} {a e o i : Expr} {ma me mo mi : MTE} {pos p p2 p3 pa : Pos} {k : Nat}
theorem ie_revL (he : IE X Hb e me) : IE X Hb (.Subscript e (.Slice none none (some (.UnaryOp .USub (.Constant (.int 1) k p) p2)) p3) pos) (mRev me) := by
  refine pe_w (pe_revL he) fun σ H Q ⟨env, h, Q0, re, rh, m, f⟩ => ?_
  refine ⟨env, h, _, re, rh, m, fun x h1 q v H1 t1 r1 rx => ?_⟩
  have f1 := Fin.mono t1 f
  cases x <;> first | exact q.elim | skip
  · obtain ⟨a, vs, rfl, ta, rs⟩ := rx.rl
    exact ⟨a, vs, rfl, ta.l, fun p np => f1 _ _ (q p (r1.free np)) _ _ (.new np) (r1.new np (ro_lst rs.reverse)) rv_ref⟩
  · obtain ⟨ds, e, q⟩ := q
    rw [rx.ref]
    obtain ⟨vs, E, rs⟩ := r1.lst e
    exact ⟨_, vs, rfl, .of E, fun p np => f1 _ _ (q p (r1.free np)) _ _ (.new np) (r1.new np (ro_lst rs.reverse)) rv_ref⟩
theorem ie_tupR1 (hm : X.mg "tuple" = none) (hr : X.mg "range" = none) (ha : IE X Hb a ma) (hc : X.calm = true := by rfl) (hg : Gl X "tuple" := by rfl) (hg2 : Gl X "range" := by rfl) (na : starEach [a] X.env = (false, eval a X.env) :: starEach [] X.env := by rfl)
    (na2 : starEach [.Call (.Name "range" p2) [a] [] pa] X.env = (false, eval (.Call (.Name "range" p2) [a] [] pa) X.env) :: starEach [] X.env := by rfl) : IE X Hb (.Call (.Name "tuple" p) [.Call (.Name "range" p2) [a] [] pa] [] pos) (mTupR1 ma) := by
  refine pe_w (pe_tupRg hc hg hm (prg_1 hg2 hr ha na) na2) fun σ H Q ⟨env, h, Q0, re, rh, m, f⟩ => ?_
  refine ⟨env, h, _, re, rh, m, ?_⟩
  rintro d h1 ⟨j, rfl, ok, q⟩ v H1 t1 r1 rx
  rw [rx.int]
  refine ⟨j, rfl, ok, fun p np => ?_⟩
  rw [rgV_ints]
  exact f _ h1 q _ _ (t1.trans (.new np)) (r1.skip np) (rv_tup (.of upd_same) .of_ints)
theorem ie_lstR1 (hm : X.mg "list" = none) (hr : X.mg "range" = none) (ha : IE X Hb a ma) (hc : X.calm = true := by rfl) (hg : Gl X "list" := by rfl) (hg2 : Gl X "range" := by rfl) (na : starEach [a] X.env = (false, eval a X.env) :: starEach [] X.env := by rfl)
    (na2 : starEach [.Call (.Name "range" p2) [a] [] pa] X.env = (false, eval (.Call (.Name "range" p2) [a] [] pa) X.env) :: starEach [] X.env := by rfl) : IE X Hb (.Call (.Name "list" p) [.Call (.Name "range" p2) [a] [] pa] [] pos) (mLstR1 ma) := by
  refine pe_w (pe_listRg hc hg hm (prg_1 hg2 hr ha na) na2) fun σ H Q ⟨env, h, Q0, re, rh, m, f⟩ => ?_
  refine ⟨env, h, _, re, rh, m, ?_⟩
  rintro d h1 ⟨j, rfl, ok, q⟩ v H1 t1 r1 rx
  rw [rx.int]
  refine ⟨j, rfl, ok, fun p np => ?_⟩
  rw [rgV_ints]
  exact f _ _ (q p (r1.free np)) _ _ (t1.trans (.new np)) (r1.new np (ro_lst .of_ints)) rv_ref
def rPopAt : MRM := fun x xs h Q => match x, xs with
  | .ref a, [.int i] => ∃ ds, h a = some (.lst ds) ∧ 0 ≤ i ∧ i < ds.length ∧ ds.length < 2 ^ 62 ∧ ∃ y, ds[i.toNat]? = some y ∧ Q y (up h a (.lst (ds.eraseIdx i.toNat)))
  | _, _ => False
theorem RVs.eraseIdx {K : PySem.W.Frag} {H : Hp} : ∀ {ds : List D} {vs : List V} (n : Nat), RVs K H ds vs → RVs K H (ds.eraseIdx n) (vs.eraseIdx n)
  | [], _, _, h => by rw [h.inv0]; exact .nil
  | d :: ds, _, 0, h => by
    obtain ⟨v, r, rfl, q, t⟩ := h.inv
    exact t
  | d :: ds, _, n + 1, h => by
    obtain ⟨v, r, rfl, q, t⟩ := h.inv
    exact .cons q (t.eraseIdx n)
theorem mi_popAt : MtI X "list.pop" rPopAt := by
  refine ⟨_, mt_popAt, fun x xs h Q0 vx vs H Q q rh rx rs f => ?_⟩
  unfold rPopAt at q
  split at q
  · rename_i a i
    obtain ⟨ds, e, i0, i1, i2, y, ey, q⟩ := q
    obtain ⟨v, rfl, ry⟩ := rs.one
    obtain ⟨ws, E, rt⟩ := rh.lst e
    rw [rx.ref, ry.int]
    obtain ⟨u, eu, ru⟩ := rt.get ey
    have t : TL H (upd H _ (.lst (ws.eraseIdx i.toNat))) := .put E (fun _ z => by cases z) (fun _ _ z => by cases z)
    have hl := rt.length
    have e2 : ixN ws.length i = some i.toNat := by
      unfold ixN
      rw [if_pos i0, if_pos (by omega)]
    exact ⟨_, ws, i, i.toNat, u, rfl, rfl, E, by omega, by omega, (ixN_seq e2).1, eu, f _ _ q _ _ t (rh.put t (ro_lst ((rt.eraseIdx _).mono t))) (ru.mono t)⟩
  · exact q.elim
def rPop : MRM := fun x xs h Q => match x, xs with
  | .ref a, [] => ∃ ds, h a = some (.lst ds) ∧ ∃ y, ds[ds.length - 1]? = some y ∧ Q y (up h a (.lst ds.dropLast))
  | _, _ => False
theorem RVs.dropLast {K : PySem.W.Frag} {H : Hp} {ds : List D} {vs : List V} (h : RVs K H ds vs) : RVs K H ds.dropLast vs.dropLast := by
  rw [List.dropLast_eq_take, List.dropLast_eq_take, h.length]; exact h.take _
theorem mi_pop : MtI X "list.pop" rPop := by
  refine ⟨_, mt_pop, fun x xs h Q0 vx vs H Q q rh rx rs f => ?_⟩
  unfold rPop at q
  split at q
  · obtain ⟨ds, e, y, ey, q⟩ := q
    obtain ⟨ws, E, rt⟩ := rh.lst e
    rw [rx.ref, rs.inv0]
    obtain ⟨u, eu, ru⟩ := rt.get ey
    have t : TL H (upd H _ (.lst ws.dropLast)) := .put E (fun _ z => by cases z) (fun _ _ z => by cases z)
    exact ⟨_, ws, u, rfl, rfl, E, by rw [← rt.length]; exact eu, f _ _ q _ _ t (rh.put t (ro_lst (rt.dropLast.mono t))) (ru.mono t)⟩
  · exact q.elim
/-! ### sorted ints of a list -/
def rSorted : MRA := fun xs h Q => match xs with
  | [.ref a] => ∃ ns : List Int, h a = some (.lst (ns.map .int)) ∧ ∀ (ns' : List Int) p, ns'.Perm ns → ns'.Pairwise (· ≤ ·) → h p = none → Q (.ref p) (up h p (.lst (ns'.map .int)))
  | _ => False
theorem cm_sorted : CaM X (.builtin "sorted") rSorted := by
  refine ⟨_, cr_sortedI, fun xs h Q0 vs H Q q rh rs f => ?_⟩
  unfold rSorted at q
  split at q
  · obtain ⟨v, rfl, rx⟩ := rs.one
    rw [rx.ref]
    obtain ⟨ns, e, q⟩ := q
    obtain ⟨vs, E, rs⟩ := rh.lst e
    rw [rs.ints] at E
    exact ⟨_, ns, rfl, .of E, fun ns' p h1 h2 np => f _ _ (q ns' p h1 h2 (rh.free np)) _ _ (.new np) (rh.new np (ro_lst .of_ints)) rv_ref⟩
  · exact q.elim
/-! ### xs[i] op= e -/
def mAugS (r : MR2) (o i e : MTE) : MTS := fun D' env h => o env h fun x h1 => i env h1 fun y h2 => rIx x y h2 (fun z h3 => e env h3 fun w h4 => r z w h4 fun u h5 => rSetL x y u h5 fun h6 => D'.nx env h6) ∧ ∃ a, x = .ref a
theorem pget_list : PGet X (rIxL X.K) := by
  intro pins s σ H x y v u Q I rx ry h
  obtain ⟨p, xs, i, z, rfl, rfl, hq, he, q⟩ := h
  cases rx
  obtain ⟨t, rfl⟩ := ry
  obtain ⟨its, r, pl, hz⟩ := I.list hq
  obtain ⟨j, h1, h2, h3, h4, h5⟩ := atI_get he
  obtain ⟨w, ew, rw'⟩ := r.get h2
  have hl := r.length
  have hn := L2.line63
  have fin : EP X pins σ Q w s := ⟨z, H, I, rw', q⟩
  by_cases h0 : 0 ≤ i
  · have hj : i.toNat = j := by
      rw [seqIndex_of h0 h5] at h1
      exact Option.some.inj h1
    exact wpAny_getItem_list pl.isList h0 (by omega) (by rw [hj]; simpa using ew) fin
  · have hj : (i + (its.toArray.size : Int)).toNat = j := by
      rw [seqIndex_neg (by omega) h4] at h1
      rw [List.size_toArray, ← hl]
      exact Option.some.inj h1
    exact wpAny_getItem_list_neg pl.isList (by omega) (by rw [List.size_toArray] <;> omega) (by omega) (by rw [hj]; simpa using ew) fin
theorem is_augS {op : Operator} {r : MR2} {tpos : Pos} (hp : IpM X op r) (ho : IE X Hb o mo) (hi : IE X Hb i mi) (he : IE X Hb e me)
    (ha : ∀ ov iv new, augStore i ov iv new = (do holding [new, ov, iv] (setItem ov iv new); release [new, ov, iv] []; pure .next) := by intros; rfl) : IS X Hb (.AugAssign (.Subscript o i tpos) op e pos) (mAugS r mo mi me) := by
  obtain ⟨R, hR, hr⟩ := hp
  obtain ⟨RS, hRS, hs⟩ := se_list (X := X)
  refine is_of (ps_augS ho hi pget_list he hR hRS ha) fun D' σ H env h D0 re rh m f => ?_
  refine ⟨env, h, _, re, rh, m, fun x h1 q1 vx H1 t1 r1 rx => ?_⟩
  refine ⟨env, h1, _, re.mono t1, r1, q1, fun y h2 q2 vy H2 t2 r2 ry => ?_⟩
  have q2 : rIx x y h2 _ ∧ ∃ a, x = .ref a := q2
  obtain ⟨q2, a, rfl⟩ := q2
  cases y <;> first | exact q2.elim | skip
  rename_i k _z
  obtain ⟨ds, e0, d, ed, q2⟩ := q2
  obtain ⟨vs, E, rs⟩ := r2.lst e0
  obtain ⟨v, e1, rv⟩ := rs.atI ed
  have rx2 := rx.mono t2
  rw [rx2.ref, ry.int]
  refine ⟨a, vs, k, v, rfl, rfl, .of E, e1, ?_⟩
  refine ⟨env, h2, _, (re.mono t1).mono t2, r2, q2, fun w h4 q4 vw H4 t4 r4 rw' => ?_⟩
  refine hr d w h4 _ v vw H4 _ q4 r4 (rv.mono t4) rw' fun u h5 q5 vu H5 t5 r5 ru => ?_
  refine hs (.ref a) (.int k) u h5 _ _ _ vu H5 _ q5 r5 rv_ref rv_int ru fun h6 q6 H6 t6 r6 => ?_
  have tt := t1.trans (t2.trans (t4.trans (t5.trans t6)))
  exact f.nx env h6 q6 σ H6 tt (re.mono tt) r6
end
end M

namespace M
open PySem L2
/-- a promise of nothing (the foot of a recursion) -/
theorem fnNone {P : Program} {w : World} {K : PySem.W.Frag} {mg : Str → Option Value} {base : Heap} {CX : CXT} {k : Nat} {f : Addr} {fd : FuncData} {ps : List Str} {sp : MSp} (h : ∀ ds h Q E, ¬ sp ds h Q E) : FnOk P w K mg base CX k f fd ps (liftSp K sp) :=
  ⟨fun vs H Q E ⟨ds, hh, Q0, E0, _, _, q, _⟩ => absurd q (h _ _ _ _), fun A outer s H args us vs Q E _ _ _ _ ⟨ds, hh, Q0, E0, _, _, q, _⟩ => absurd q (h _ _ _ _)⟩
section
variable {D' : MEnds} {env : ME} {h : MH} {e o i : MTE} {a b : MTS} {c : MTT} {n j : Nat} {t : Tg} {ts : List Tg} {r : MR2} {rs : MRSet}
/-- a comprehension that changes the things at L: I tells what holds behind each item -/
theorem lcS {S : MSrc} {h1 : MH} {Q : MQ} {tt : MTT} {vs : List Nat} (L : List Addr) (I : Nat → List D → MH → Prop) (hL : ∀ a ∈ L, h1 a ≠ none)
    (stab : ∀ k acc h' p o, h1 p = none → I k acc h' → I k acc (up h' p o)) (i0 : I 0 [] h1) (ok : ∀ h', Fr L h1 h' → S.ok h') (hz : S.n ≤ 100000)
    (turn : ∀ k acc h', k < S.n → Fr L h1 h' → I k acc h' → acc.length ≤ k → ∃ env2, asg t (S.item k) (mwipe env vs) = some env2 ∧ ∀ R : Option D → MH → Prop,
      (∀ h3, Fr L h' h3 → I (k + 1) acc h3 → R none h3) → (∀ y h4, Fr L h' h4 → I (k + 1) (acc ++ [y]) h4 → R (some y) h4) →
      tt env2 h' fun b h3 => if b = true then e env2 h3 fun y h4 => R (some y) h4 else R none h3)
    (fin : ∀ p h' acc, Fr L h1 h' → h1 p = none → h' p = some (.lst acc) → I S.n acc h' → Q (.ref p) h') : LcW S t tt e vs env h1 Q := by
  intro p np
  have pL : p ∉ L := fun z => hL p z np
  refine ⟨fun k h' => Fr L h1 h' ∧ ∃ acc, h' p = some (.lst acc) ∧ acc.length ≤ k ∧ I k acc h', ⟨.new np, [], up_same, Nat.le_refl _, stab _ _ _ _ _ np i0⟩, ?_⟩
  rintro k h' hk ⟨fr, acc, ea, la, ia⟩
  refine ⟨ok h' fr, fun hl => ?_, fun e => fin p h' acc fr np ea (e ▸ ia)⟩
  obtain ⟨env2, eg, ht⟩ := turn k acc h' hl fr ia la
  refine ⟨env2, eg, ?_⟩
  have key := ht (fun d h3 => match d with
    | some y => ∃ acc, h3 p = some (.lst acc) ∧ acc.length < sizeLine ∧ (Fr L h1 (up h3 p (.lst (acc ++ [y]))) ∧ ∃ acc2, (up h3 p (.lst (acc ++ [y]))) p = some (.lst acc2) ∧ acc2.length ≤ k + 1 ∧ I (k + 1) acc2 (up h3 p (.lst (acc ++ [y]))))
    | none => Fr L h1 h3 ∧ ∃ acc, h3 p = some (.lst acc) ∧ acc.length ≤ k + 1 ∧ I (k + 1) acc h3) ?_ ?_
  · exact key
  · exact fun h3 f3 i3 => ⟨fr.trans f3, acc, f3 _ _ pL ea, by omega, i3⟩
  · intro y h4 f4 i4
    have e4 := f4 _ _ pL ea
    refine ⟨acc, e4, by rw [sizeLine_eq]; omega, fun b o nb e => ?_, _, up_same, by rw [List.length_append, List.length_singleton]; omega, stab _ _ _ _ _ np i4⟩
    rw [up_ne (ne_of e np)]
    exact f4 _ _ nb (fr _ _ nb e)
end
theorem inF_ints {x : Int} {xs : List Int} : inF (.int x) (xs.map .int) = decide (x ∈ xs) := by
  unfold inF
  rw [List.any_map]
  induction xs with
  | nil => rfl
  | cons y ys ih =>
    rw [List.any_cons, ih]
    show (y == x || _) = _
    rw [show (y == x) = decide (y = x) from rfl, ← Bool.decide_or]
    refine decide_eq_decide.mpr ?_
    rw [List.mem_cons, eq_comm]
theorem flat_ints {xs : List Int} : (xs.map D.int).all flatD = true := by
  rw [List.all_map]
  exact List.all_eq_true.mpr fun _ _ => rfl
theorem atI_ints {xs : List Int} {i : Nat} {x : Int} (h : xs[i]? = some x) : atI (xs.map D.int) (i : Int) = some (.int x) := atI_nat (by rw [List.getElem?_map, h]; rfl)
theorem atI_map {α : Type} {f : α → D} {xs : List α} {i : Nat} {x : α} (h : xs[i]? = some x) : atI (xs.map f) (i : Int) = some (f x) := atI_nat (by rw [List.getElem?_map, h]; rfl)
theorem atI_lt {ds : List D} {r : Int} (h0 : 0 ≤ r) (h1 : r < ds.length) : ∃ d, atI ds r = some d ∧ d ∈ ds := by
  have e : r = (r.toNat : Int) := by omega
  have hl : r.toNat < ds.length := by omega
  have h := atI_nat (List.getElem?_eq_getElem hl)
  rw [← e] at h
  exact ⟨ds[r.toNat], h, List.getElem_mem hl⟩
theorem ints_inj : ∀ {xs ys : List Int}, xs.map D.int = ys.map D.int → xs = ys
  | [], [], _ => rfl
  | [], _ :: _, h => by cases h
  | _ :: _, [], h => by cases h
  | x :: xs, y :: ys, h => by
    rw [List.map_cons, List.map_cons] at h
    injection h with h1 h2
    injection h1 with h1
    rw [h1, ints_inj h2]
theorem Fr.lst1 {L : List Addr} {h h' : MH} {a : Addr} {o : MO} (f : Fr L h h') (e : h a = some o) (n : a ∉ L) : h' a = some o := f a o n e

section
variable {env : ME} {e : MTE} {t : Tg}
/-- a comprehension that changes nothing that stood -/
theorem lcP {S : MSrc} {h1 : MH} {Q : MQ} {tt : MTT} {vs : List Nat} (f : Nat → Option D) (ok : ∀ h', Fr [] h1 h' → S.ok h') (hz : S.n ≤ 100000)
    (turn : ∀ k h', k < S.n → Fr [] h1 h' → ∃ env2, asg t (S.item k) (mwipe env vs) = some env2 ∧ ∀ R : Option D → MH → Prop,
      (∀ h3, Fr [] h' h3 → R (f k) h3) → tt env2 h' fun b h3 => if b = true then e env2 h3 fun y h4 => R (some y) h4 else R none h3)
    (fin : ∀ p h', Fr [] h1 h' → h1 p = none → h' p = some (.lst ((List.range S.n).filterMap f)) → Q (.ref p) h') : LcW S t tt e vs env h1 Q := by
  refine lcS [] (fun k acc _ => acc = (List.range k).filterMap f) (by simp) (fun _ _ _ _ _ _ i => i) rfl ok hz (fun k acc h' hk fr ia _ => ?_) (fun p h' acc fr np ep ia => fin p h' fr np (ia ▸ ep))
  obtain ⟨env2, ea, ht⟩ := turn k h' hk fr
  refine ⟨env2, ea, fun R r0 r1 => ht R fun h3 f3 => ?_⟩
  have e1 : (List.range (k + 1)).filterMap f = (List.range k).filterMap f ++ (match f k with | some d => [d] | none => []) := by
    rw [List.range_succ, List.filterMap_append, List.filterMap_cons]
    cases f k <;> rfl
  cases q : f k with
  | none => exact r0 h3 f3 (by rw [e1, q, List.append_nil]; exact ia)
  | some d => exact r1 d h3 f3 (by rw [e1, q, ia])
theorem range_fm {α β : Type} (xs : List α) (g : α → Option β) : (List.range xs.length).filterMap (fun k => (xs[k]?).bind g) = xs.filterMap g := by
  induction xs with
  | nil => rfl
  | cons x xs ih =>
    rw [List.length_cons, List.range_succ_eq_map, List.filterMap_cons, List.filterMap_map]
    show (match g x with | none => _ | some b => _) = _
    rw [List.filterMap_cons]
    have e : (List.range xs.length).filterMap ((fun k => ((x :: xs)[k]?).bind g) ∘ Nat.succ) = xs.filterMap g := by
      rw [← ih]; rfl
    rw [e]; cases g x <;> rfl
theorem getD_map {α : Type} {f : α → D} {xs : List α} {k : Nat} (h : k < xs.length) : (xs.map f).getD k .non = f xs[k] := by
  rw [List.getD_eq_getElem?_getD, List.getElem?_map, List.getElem?_eq_getElem h]; rfl
theorem lcL {α : Type} (xs : List α) (enc : α → D) (g : α → Option D) {okk : MH → Prop} {h1 : MH} {Q : MQ} {tt : MTT} {vs : List Nat} (ok : ∀ h', Fr [] h1 h' → okk h') (hz : xs.length ≤ 100000)
    (turn : ∀ x h', x ∈ xs → Fr [] h1 h' → ∃ env2, asg t (enc x) (mwipe env vs) = some env2 ∧ ∀ R : Option D → MH → Prop,
      (∀ h3, Fr [] h' h3 → R (g x) h3) → tt env2 h' fun b h3 => if b = true then e env2 h3 fun y h4 => R (some y) h4 else R none h3)
    (fin : ∀ p h', Fr [] h1 h' → h1 p = none → h' p = some (.lst (xs.filterMap g)) → Q (.ref p) h') : LcW (srcD (xs.map enc) okk) t tt e vs env h1 Q := by
  have hn : (srcD (xs.map enc) okk).n = xs.length := List.length_map ..
  refine lcP (fun k => (xs[k]?).bind g) ok (by rw [hn]; exact hz) (fun k h' hk fr => ?_) (fun p h' fr np ep => fin p h' fr np ?_)
  · rw [hn] at hk
    have e1 : (srcD (xs.map enc) okk).item k = enc xs[k] := getD_map hk
    rw [e1, List.getElem?_eq_getElem hk]
    exact turn xs[k] h' (List.getElem_mem hk) fr
  · rw [hn, range_fm] at ep
    exact ep
theorem fm_some {α : Type} (xs : List α) (g : α → D) : xs.filterMap (fun x => some (g x)) = xs.map g := by
  induction xs with
  | nil => rfl
  | cons x xs ih => rw [List.filterMap_cons, List.map_cons, ih]
theorem fm_if {α : Type} (xs : List α) (c : α → Bool) (g : α → D) : xs.filterMap (fun x => if c x = true then some (g x) else none) = (xs.filter c).map g := by
  induction xs with
  | nil => rfl
  | cons x xs ih =>
    rw [List.filterMap_cons, List.filter_cons]
    cases c x with
    | true => rw [if_pos rfl, if_pos rfl, List.map_cons, ih]
    | false => rw [if_neg Bool.false_ne_true, if_neg Bool.false_ne_true, ih]
end
/-! ### the operators at what they take -/
section
variable {i j : Int} {k : Nat} {h : MH} {Q : MQ} {a b : Addr} {xs ys : List D} {x y z : D} {s u : Str} {c : Bool}
theorem q_add1 : rAdd (.int i) (.int j) h Q = Q (.int (i + j)) h := rfl
theorem q_add2 : rAdd (.str s) (.str u) h Q = (s.length + u.length ≤ sizeLine ∧ Q (.str (s ++ u)) h) := rfl
theorem q_add3 : rAdd (.tup xs) (.tup ys) h Q = (xs.length + ys.length ≤ sizeLine ∧ Q (.tup (xs ++ ys)) h) := rfl
theorem q_add4 : rAdd (.ref a) (.ref b) h Q = (∃ xs ys, h a = some (.lst xs) ∧ h b = some (.lst ys) ∧ xs.length + ys.length ≤ sizeLine ∧ ∀ p, h p = none → Q (.ref p) (up h p (.lst (xs ++ ys)))) := rfl
theorem q_sub : rSub (.int i) (.int j) h Q = Q (.int (i - j)) h := rfl
theorem q_mul1 : rMul (.int i) (.int j) h Q = (MulOk i j ∧ Q (.int (i * j)) h) := rfl
theorem q_mul2 : rMul (.ref a) (.int i) h Q = (∃ xs, h a = some (.lst xs) ∧ -(2 ^ 63) ≤ i ∧ i < 2 ^ 63 ∧ xs.length * i.toNat ≤ sizeLine ∧ ∀ p, h p = none → Q (.ref p) (up h p (.lst (List.replicate i.toNat xs).flatten))) := rfl
theorem q_fdiv : rFdiv (.int i) (.int j) h Q = (DivOk j ∧ Q (.int (i / j)) h) := rfl
theorem q_fdivN : rFdivN (.int i) (.int j) h Q = (DivOkN j ∧ Q (.int (i.fdiv j)) h) := rfl
theorem q_mod : rMod (.int i) (.int j) h Q = (0 < j ∧ Q (.int (i % j)) h) := rfl
theorem q_modN : rModN (.int i) (.int j) h Q = (j ≠ 0 ∧ Q (.int (i.fmod j)) h) := rfl
theorem q_pow : rPow (.int i) (.int j) h Q = (CPow i j ∧ Q (.int (i ^ j.toNat)) h) := rfl
theorem q_shl : rShl (.int i) (.int j) h Q = (CPow i j ∧ Q (.int (i * 2 ^ j.toNat)) h) := rfl
theorem q_neg : rNeg (.int i) h Q = Q (.int (-i)) h := rfl
theorem q_lt : rLtI (.int i) (.int j) h Q = Q (.bl (decide (i < j))) h := rfl
theorem q_le : rLeI (.int i) (.int j) h Q = Q (.bl (decide (i ≤ j))) h := rfl
theorem q_gt : rGtI (.int i) (.int j) h Q = Q (.bl (decide (j < i))) h := rfl
theorem q_ge : rGeI (.int i) (.int j) h Q = Q (.bl (decide (j ≤ i))) h := rfl
theorem q_eq1 : rEq (.int i) (.int j) h Q = Q (.bl (decide (i = j))) h := rfl
theorem q_eq2 {d : Bool} : rEq (.bl c) (.bl d) h Q = Q (.bl (decide (c = d))) h := rfl
theorem q_eq3 : rEq (.str s) (.str u) h Q = Q (.bl (decide (s = u))) h := rfl
theorem q_eq4 : rEq .non .non h Q = Q (.bl true) h := rfl
theorem q_eq5 : rEq .non (.int i) h Q = Q (.bl false) h := rfl
theorem q_eq6 : rEq (.int i) .non h Q = Q (.bl false) h := rfl
theorem q_eq7 : rEq (.tup xs) y h Q = rEqD (.tup xs) y h Q := by cases y <;> rfl
theorem q_eq8 : rEq (.ref a) y h Q = rEqD (.ref a) y h Q := by cases y <;> rfl
theorem q_eq9 : rEq (.rl xs) y h Q = rEqD (.rl xs) y h Q := by cases y <;> rfl
theorem q_ne1 : rNe (.int i) (.int j) h Q = Q (.bl (!decide (i = j))) h := rfl
theorem q_ne2 {d : Bool} : rNe (.bl c) (.bl d) h Q = Q (.bl (!decide (c = d))) h := rfl
theorem q_ne3 : rNe (.str s) (.str u) h Q = Q (.bl (!decide (s = u))) h := rfl
theorem q_ne4 : rNe .non .non h Q = Q (.bl false) h := rfl
theorem q_ne5 : rNe .non (.int i) h Q = Q (.bl true) h := rfl
theorem q_ne6 : rNe (.int i) .non h Q = Q (.bl true) h := rfl
theorem q_ne7 : rNe (.tup xs) y h Q = rNeD (.tup xs) y h Q := by cases y <;> rfl
theorem q_ne8 : rNe (.ref a) y h Q = rNeD (.ref a) y h Q := by cases y <;> rfl
theorem q_ne9 : rNe (.rl xs) y h Q = rNeD (.rl xs) y h Q := by cases y <;> rfl
theorem q_iadd : rIAdd (.int i) (.int j) h Q = Q (.int (i + j)) h := rfl
theorem q_ix1 : rIx (.tup xs) (.int i) h Q = (∃ d, atI xs i = some d ∧ Q d h) := rfl
theorem q_ix2 : rIx (.rl xs) (.int i) h Q = (∃ d, atI xs i = some d ∧ Q d h) := rfl
theorem q_ix3 : rIx (.ref a) (.int i) h Q = (∃ ds, h a = some (.lst ds) ∧ ∃ d, atI ds i = some d ∧ Q d h) := rfl
theorem q_ix4 : rIx (.str s) (.int i) h Q = (s.length ≤ sizeLine ∧ ∃ c, atI s.cps.toList i = some c ∧ Q (.str ⟨#[c]⟩) h) := rfl
theorem q_sl1 {lo hi : Option Int} : rSl (.tup xs) lo hi h Q = Q (.tup (cutD xs lo hi)) h := rfl
theorem q_sl2 {lo hi : Option Int} : rSl (.rl xs) lo hi h Q = ∀ p, h p = none → Q (.ref p) (up h p (.lst (cutD xs lo hi))) := rfl
theorem q_sl3 {lo hi : Option Int} : rSl (.ref a) lo hi h Q = (∃ ds, h a = some (.lst ds) ∧ ∀ p, h p = none → Q (.ref p) (up h p (.lst (cutD ds lo hi)))) := rfl
theorem q_len1 : rLen [.tup xs] h Q = Q (.int xs.length) h := rfl
theorem q_len2 : rLen [.rl xs] h Q = Q (.int xs.length) h := rfl
theorem q_len3 : rLen [.ref a] h Q = (∃ ds, h a = some (.lst ds) ∧ Q (.int ds.length) h) := rfl
theorem q_len4 : rLen [.str s] h Q = (s.length ≤ sizeLine ∧ Q (.int s.length) h) := rfl
theorem q_abs : rAbs [.int i] h Q = Q (.int (if i < 0 then -i else i)) h := rfl
theorem q_max2 : rMax2 [.int i, .int j] h Q = Q (.int (if j > i then j else i)) h := rfl
theorem q_min2 : rMin2 [.int i, .int j] h Q = Q (.int (if j < i then j else i)) h := rfl
theorem q_int1 : rInt1 [.int i] h Q = Q (.int i) h := rfl
theorem q_int2 : rInt1 [.bl c] h Q = Q (.int (if c then 1 else 0)) h := rfl
theorem q_tuple1 : rTuple [.tup xs] h Q = Q (.tup xs) h := rfl
theorem q_tuple2 : rTuple [.rl xs] h Q = Q (.tup xs) h := rfl
theorem q_tuple3 : rTuple [.ref a] h Q = (∃ ds, h a = some (.lst ds) ∧ Q (.tup ds) h) := rfl
theorem q_list1 : rList [.tup xs] h Q = ∀ p, h p = none → Q (.ref p) (up h p (.lst xs)) := rfl
theorem q_list2 : rList [.rl xs] h Q = ∀ p, h p = none → Q (.ref p) (up h p (.lst xs)) := rfl
theorem q_list3 : rList [.ref a] h Q = (∃ ds, h a = some (.lst ds) ∧ ∀ p, h p = none → Q (.ref p) (up h p (.lst ds))) := rfl
theorem q_sum : rSum [.ref a] h Q = (∃ ns : List Int, h a = some (.lst (ns.map .int)) ∧ Q (.int ns.sum) h) := rfl
theorem q_all : rAll [.ref a] h Q = (∃ ns : List Bool, h a = some (.lst (ns.map .bl)) ∧ Q (.bl (ns.all id)) h) := rfl
theorem q_any : rAny [.ref a] h Q = (∃ ns : List Bool, h a = some (.lst (ns.map .bl)) ∧ Q (.bl (ns.any id)) h) := rfl
theorem q_maxL : rMaxL [.ref a] h Q = (∃ ns : List Int, h a = some (.lst (ns.map .int)) ∧ 0 < ns.length ∧ ∀ m, m ∈ ns → (∀ y, y ∈ ns → y ≤ m) → Q (.int m) h) := rfl
theorem q_minL : rMinL [.ref a] h Q = (∃ ns : List Int, h a = some (.lst (ns.map .int)) ∧ 0 < ns.length ∧ ∀ m, m ∈ ns → (∀ y, y ∈ ns → m ≤ y) → Q (.int m) h) := rfl
theorem q_sorted : rSorted [.ref a] h Q = (∃ ns : List Int, h a = some (.lst (ns.map .int)) ∧ ∀ (ns' : List Int) p, ns'.Perm ns → ns'.Pairwise (· ≤ ·) → h p = none → Q (.ref p) (up h p (.lst (ns'.map .int)))) := rfl
theorem q_is1 : rIs false x .non h Q = Q (.bl (isN x)) h := rfl
theorem q_is2 : rIs true x .non h Q = Q (.bl (!isN x)) h := rfl
theorem q_is3 : rIs false x (.bl c) h Q = (∃ a, x = .bl a ∧ Q (.bl (decide (a = c))) h) := rfl
theorem q_is4 : rIs true x (.bl c) h Q = (∃ a, x = .bl a ∧ Q (.bl (!decide (a = c))) h) := rfl
theorem q_in1 : rIn false x (.tup ys) h Q = (flatD x = true ∧ ys.all flatD = true ∧ Q (.bl (inF x ys)) h) := rfl
theorem q_in2 : rIn false x (.rl ys) h Q = (flatD x = true ∧ ys.all flatD = true ∧ Q (.bl (inF x ys)) h) := rfl
theorem q_in3 : rIn false x (.ref a) h Q = (∃ ds, h a = some (.lst ds) ∧ flatD x = true ∧ ds.all flatD = true ∧ Q (.bl (inF x ds)) h) := rfl
theorem q_nin1 : rIn true x (.tup ys) h Q = (flatD x = true ∧ ys.all flatD = true ∧ Q (.bl (!inF x ys)) h) := rfl
theorem q_nin2 : rIn true x (.rl ys) h Q = (flatD x = true ∧ ys.all flatD = true ∧ Q (.bl (!inF x ys)) h) := rfl
theorem q_nin3 : rIn true x (.ref a) h Q = (∃ ds, h a = some (.lst ds) ∧ flatD x = true ∧ ds.all flatD = true ∧ Q (.bl (!inF x ds)) h) := rfl
theorem q_setL {q : MH → Prop} : rSetL (.ref a) (.int i) y h q = (∃ ds, h a = some (.lst ds) ∧ ∃ j, ixN ds.length i = some j ∧ q (up h a (.lst (ds.set j y)))) := rfl
theorem q_app : rAppend (.ref a) [y] h Q = (∃ ds, h a = some (.lst ds) ∧ ds.length < sizeLine ∧ Q .non (up h a (.lst (ds ++ [y])))) := rfl
theorem q_ext : rExtend (.ref a) [.ref b] h Q = (∃ ds es, h a = some (.lst ds) ∧ h b = some (.lst es) ∧ ds.length + es.length ≤ sizeLine ∧ Q .non (up h a (.lst (ds ++ es)))) := rfl
theorem q_popAt : rPopAt (.ref a) [.int i] h Q = (∃ ds, h a = some (.lst ds) ∧ 0 ≤ i ∧ i < ds.length ∧ ds.length < 2 ^ 62 ∧ ∃ y, ds[i.toNat]? = some y ∧ Q y (up h a (.lst (ds.eraseIdx i.toNat)))) := rfl
theorem q_pop : rPop (.ref a) [] h Q = (∃ ds, h a = some (.lst ds) ∧ ∃ y, ds[ds.length - 1]? = some y ∧ Q y (up h a (.lst ds.dropLast))) := rfl
theorem q_ty1 : tyD h (.int i) = "int" := rfl
theorem q_ty2 : tyD h (.bl c) = "bool" := rfl
theorem q_ty3 : tyD h .non = "NoneType" := rfl
theorem q_ty4 : tyD h (.str s) = "str" := rfl
theorem q_ty5 : tyD h (.tup xs) = "tuple" := rfl
theorem q_ty6 : tyD h (.rl xs) = "list" := rfl
theorem q_ty7 (e : h a = some (.lst xs)) : tyD h (.ref a) = "list" := by show (match h a with | some (.lst _) => "list" | some (.dK _) => "dict" | some (.dT _) => "dict" | _ => "?") = "list"; rw [e]
theorem q_tym1 : tyM "list" (.ref a) h = ∃ ds, h a = some (.lst ds) := propext ⟨fun ⟨_, b⟩ => b, fun b => ⟨rfl, b⟩⟩
theorem q_isN1 : isN .non = true := rfl
theorem q_isN2 : isN (.int i) = false := rfl
theorem q_isN3 : isN (.tup xs) = false := rfl
theorem q_isN4 : isN (.ref a) = false := rfl
theorem q_isN5 : isN (.bl c) = false := rfl
theorem q_isN6 : isN (.str s) = false := rfl
end
end M

/-! t[::-1] -/
namespace HT
open PySem PySem.Spec PyProof PyProof.Rows
section
variable {prog : Program} {w : World} {A : Around} {E : Value → Shared → Prop} {s : Shared}
theorem places_rev (n : Nat) : Builtin.Slice.slicePlaces ((n : Int) - 1) (-1) (-1) = n := by
  unfold Builtin.Slice.slicePlaces
  have h1 : ¬ ((-1 : Int) > 0) := by omega
  simp only [h1, if_false]
  by_cases h : (n : Int) - 1 > -1
  · rw [if_pos h, show (- -1 : Int) = 1 by decide, Int.ediv_one]; omega
  · rw [if_neg h]; omega
theorem sliceApplied_rev {sl : Addr} {vs : Value} {n : Nat} {Q : Int × Int × Nat → Shared → Prop} (hs : s.heap.IsSliceOf sl .none .none vs) (ps : IsPart vs (some (-1)))
    (h : Q ((n : Int) - 1, -1, n) s) : wpAny (model prog w) A (Builtin.Slice.sliceApplied (.ref sl) (pure (n : Int))) Q E s := by
  obtain ⟨os, hos, hcs, hds⟩ := id hs
  unfold Builtin.Slice.sliceApplied Builtin.Slice.sliceFields
  refine wpAny_bind (wpAny_bind (wpAny_field hos hds (x := .none) rfl (wpAny_bind (wpAny_field hos hds (x := .none) rfl (wpAny_bind (wpAny_field hos hds (x := vs) rfl (wpAny_pure ?_)))))))
  refine wpAny_bind (slicePart_ ps ?_)
  show wpAny _ _ (if ((-1 : Int) == 0) = true then _ else _) _ _ s
  rw [if_neg (by decide)]
  refine wpAny_bind (slicePart_ .none (wpAny_bind (slicePart_ .none (wpAny_bind (wpAny_pure ?_)))))
  show wpAny _ _ (pure (((n : Int) - 1), (-1 : Int), Builtin.Slice.slicePlaces ((n : Int) - 1) (-1) (-1))) _ _ s
  rw [places_rev]
  exact wpAny_pure h
theorem fm_congr {α β : Type} {f g : α → Option β} : ∀ {l : List α}, (∀ x ∈ l, f x = g x) → l.filterMap f = l.filterMap g
  | [], _ => rfl
  | x :: l, h => by rw [List.filterMap_cons, List.filterMap_cons, h x (List.mem_cons_self ..), fm_congr fun y hy => h y (List.mem_cons_of_mem _ hy)]
theorem pick_rev (xs : Array Value) : ((List.range xs.size).filterMap fun (m : Nat) => xs[(((xs.size : Int) - 1) + (m : Int) * (-1)).toNat]?).toArray = xs.toList.reverse.toArray := by
  have e : (List.range xs.size).filterMap (fun (m : Nat) => xs[(((xs.size : Int) - 1) + (m : Int) * (-1)).toNat]?) = (List.range xs.size).filterMap ((fun k => xs[k]?) ∘ fun k => xs.size - 1 - k) := by
    refine fm_congr fun m hm => ?_
    have := List.mem_range.mp hm
    show xs[_]? = xs[xs.size - 1 - m]?
    rw [show (((xs.size : Int) - 1) + (m : Int) * (-1)).toNat = xs.size - 1 - m from by omega]
  rw [e, ← List.filterMap_map, PySem.W.krv_range, List.filterMap_reverse, PySem.W.krv_all]
theorem getItem_tuple_rev {t sl : Addr} {items : Array Value} {vs : Value} {Q : Value → Shared → Prop} (ht : IsTup s.heap t items) (hs : s.heap.IsSliceOf sl .none .none vs) (ps : IsPart vs (some (-1)))
    (h : Q (.ref s.heap.objs.size) { s with heap := s.heap.push { cls := .type "tuple", data := .seq items.toList.reverse.toArray } })
    (hsz : items.size ≤ sizeLine) : wpAny (model prog w) A (getItem (.ref t) (.ref sl)) Q E s := by
  have htake : sizeOk (.seq items.toList.reverse.toArray) := by
    show items.toList.reverse.toArray.size ≤ sizeLine
    rw [List.size_toArray, List.length_reverse, Array.length_toList]
    omega
  obtain ⟨os, hos, hcs, hds⟩ := id hs
  have hTs : s.TypeIs (.ref sl) "slice" := ⟨os, hos, hcs⟩
  unfold getItem
  try with_reducible refine wpAny_holding ?_
  first | refine wpAny_bind (wpAny_pure ?_) | skip
  refine wpAny_bind (wpAny_sequenceKey ht.typeIs (by decide) ?_)
  refine wpAny_bind (wpAny_callSpecial?_slot (name := Str.ofString "__getitem__") ht.typeIs PyProof.Rows.slot_tuple_getitem
    (wpAny_call_entry PyProof.Rows.slot_tuple_getitem ht.typeIs entry_tuple_getitem ?_ (args_tuple_getitem _ _)))
  show wpAny _ _ (Builtin.Tuple.tupleItemsOf (.ref t) >>= _) _ _ s
  refine wpAny_bind (tupleItemsOf_ ht ?_)
  refine wpAny_bind (wpAny_typeOf hTs ?_)
  rw [if_pos (by decide)]
  refine wpAny_bind (sliceApplied_rev hs ps ?_)
  have hno : ¬ ((((items.size : Int) - 1) == 0 && (-1 : Int) == 1 && items.size == items.size) = true) := by
    intro q
    rw [Bool.and_eq_true, Bool.and_eq_true] at q
    exact absurd (eq_of_beq q.1.2) (by decide)
  show wpAny _ _ (if (((items.size : Int) - 1) == 0 && (-1 : Int) == 1 && items.size == items.size) = true then _ else _) _ _ s
  rw [if_neg hno, pick_rev]
  first
    | exact wpAny_bind (m := Builtin.Tuple.tupleExact _) (wpAny_newObj_type (wpAny_pure ⟨_, rfl, wpAny_pure h⟩) htake)
    | exact wpAny_bind (m := Builtin.Tuple.tupleExact _) (wpAny_newObj_type (wpAny_bind (wpAny_pure (wpAny_pure ⟨_, rfl, wpAny_pure h⟩))) htake)
    | exact wpAny_bind (wpAny_bind (m := Builtin.Tuple.tupleExact _) (wpAny_newObj_type (wpAny_pure (wpAny_pure ⟨_, rfl, wpAny_pure h⟩)) htake))
    | exact wpAny_bind (wpAny_bind (m := Builtin.Tuple.tupleExact _) (wpAny_newObj_type (wpAny_pure ⟨_, rfl, wpAny_pure h⟩) htake))
end
end HT

namespace L2
open PySem PySem.Spec PyProof PyProof.Rows
/-- xs[::e], e being 1 or -1: a list, or with -1 a tuple -/
def rStepL (K : PySem.W.Frag) (x : V) (o : Option Int) (H2 : Hp) (Q : VK) : Prop :=
  (∃ a xs, x = .ref a ∧ SqL K H2 a xs ∧ ((o = some (-1) ∧ ∀ p, H2 p = none → Q (.ref p) (upd H2 p (.lst xs.reverse))) ∨ (o = some 1 ∧ ∀ p, H2 p = none → Q (.ref p) (upd H2 p (.lst xs))))) ∨
  (∃ a xs, x = .ref a ∧ SqT K H2 a xs ∧ o = some (-1) ∧ ∀ p, H2 p = none → Q (.ref p) (upd H2 p (.tup xs.reverse)))
def tStep (K : PySem.W.Frag) (te ts : TE) : TE := fun σ H Q => te σ H fun x H1 => tPart ts σ H1 fun o H2 => rStepL K x o H2 Q
theorem pick_one (items : Array Value) : slicePick items none none (some 1) = items := by
  have e : slicePick items none none (some 1) = ((List.range items.size).filterMap (items[·]?)).toArray := by
    unfold slicePick
    have hb : sliceBounds none none (some 1) items.size = (0, (items.size : Int), 1) := by first | rfl | simp [sliceBounds]
    rw [hb]
    have hr : sliceRange 0 (items.size : Int) 1 = List.range items.size := by
      unfold sliceRange
      have h1 : ((1 : Int) > 0) := by decide
      simp only [h1, if_true]
      have e : (if (0 : Int) < items.size then ((items.size : Int) - 0 + 1 - 1) / 1 else 0).toNat = items.size := by
        split
        · rw [Int.ediv_one]; omega
        · omega
      simp [e]
      congr 1
      split <;> omega
    rw [hr]
  rw [e, PySem.W.krv_all]
theorem pe_step {X : Cx} {e se : Expr} {te ts : TE} {p3 pos : Pos} (he : PE X e te) (hse : PE X se ts) : PE X (.Subscript e (.Slice none none (some se) p3) pos) (tStep X.K te ts) := by
  refine ⟨fun pins s σ H Q I h => ?_⟩
  refine Subscript_ (thn (he.run pins s σ H _ I h) fun v s1 ⟨x, H1, I1, r1, q1⟩ => ?_)
  have hst : PO X (some se) (tPart ts) := po_some hse
  refine wpAny_Slice (thn (po_none.run pins s1 σ H1 (fun o H2 => o = none ∧ H2 = H1) I1 ⟨rfl, rfl⟩) fun vl s2 ⟨l, H2, I2, pl, el, e2⟩ => ?_)
  subst el e2
  refine thn (po_none.run pins s2 σ H2 (fun o H3 => o = none ∧ H3 = H2) I2 ⟨rfl, rfl⟩) fun vu s3 ⟨u, H3, I3, pu, eu, e3⟩ => ?_
  subst eu e3
  refine thn (hst.run pins s3 σ H3 _ I3 q1) fun vs s4 ⟨o, H4, I4, ps, hq⟩ => ?_
  have I5 : Inv X pins σ H4 { s4 with heap := s4.heap.push { cls := .type "slice", data := .fields #[vl, vu, vs] } } := I4.kept (t' := s4.toks) fun b ob q => Heap.get?_push_of_some _ q
  rcases hq with ⟨a, xs, rfl, hx, hq⟩ | ⟨a, xs, rfl, hx, rfl, q⟩
  · cases r1
    obtain ⟨its, r, ht, hz⟩ := I5.list hx
    have hlen := r.length
    refine tail_any (ops := [.ref a, .ref s4.heap.objs.size]) ht.isList.typeIs (PySem.slot_list_getitem.lookup) ?_ (by with_unfolding_all rfl)
    rcases hq with ⟨rfl, q⟩ | ⟨rfl, q⟩
    · refine wpAny_getItem_list_slice ht.isList (Heap.IsSliceOf.new _ vl vu vs) pl pu ps (by decide) ?_ (by rw [List.size_toArray]; omega)
      rw [PySem.W.krv_pick]
      refine ⟨.ref _, _, I5.laid (t' := s4.toks) (o := .lst xs.reverse) (fun b ob q => Heap.get?_push_of_some _ q) (Nat.le_refl _) ?_, rfl, q _ (I5.hok.fresh (Nat.le_refl _))⟩
      exact ⟨by rw [List.length_reverse]; exact hz, _, 0, r.reverse, Heap.get?_push_size _ rfl⟩
    · refine wpAny_getItem_list_slice ht.isList (Heap.IsSliceOf.new _ vl vu vs) pl pu ps (by decide) ?_ (by rw [List.size_toArray]; omega)
      rw [pick_one]
      refine ⟨.ref _, _, I5.laid (t' := s4.toks) (o := .lst xs) (fun b ob q => Heap.get?_push_of_some _ q) (Nat.le_refl _) ?_, rfl, q _ (I5.hok.fresh (Nat.le_refl _))⟩
      exact ⟨hz, _, 0, r, Heap.get?_push_size _ rfl⟩
  · cases r1
    obtain ⟨its, r, ht, hz⟩ := I5.tuple hx
    have hlen := r.length
    refine tail_any (ops := [.ref a, .ref s4.heap.objs.size]) ht.typeIs PyProof.Rows.slot_tuple_getitem.lookup ?_ (by with_unfolding_all rfl)
    cases pl
    cases pu
    refine HT.getItem_tuple_rev ht (Heap.IsSliceOf.new _ _ _ vs) ps ?_ (by rw [List.size_toArray]; omega)
    refine ⟨.ref _, _, I5.laid (t' := s4.toks) (o := .tup xs.reverse) (fun b ob q => Heap.get?_push_of_some _ q) (Nat.le_refl _) ?_, rfl, q _ (I5.hok.fresh (Nat.le_refl _))⟩
    exact ⟨by rw [List.length_reverse]; exact hz, _, r.reverse, IsTup.new _ _⟩
end L2
namespace M
open PySem L2
def rStep : MR2 := fun x y h2 Q => match x, y with
  | .rl ds, .int i => (i = -1 ∨ i = 1) ∧ ∀ p, h2 p = none → Q (.ref p) (up h2 p (.lst (if i = -1 then ds.reverse else ds)))
  | .ref a, .int i => (i = -1 ∨ i = 1) ∧ ∃ ds, h2 a = some (.lst ds) ∧ ∀ p, h2 p = none → Q (.ref p) (up h2 p (.lst (if i = -1 then ds.reverse else ds)))
  | .tup ds, .int i => i = -1 ∧ Q (.tup ds.reverse) h2
  | _, _ => False
theorem q_step1 {xs : List D} {h : MH} {Q : MQ} : rStep (.tup xs) (.int (-1)) h Q = Q (.tup xs.reverse) h := propext ⟨fun q => q.2, fun q => ⟨rfl, q⟩⟩
theorem q_step2 {a : Addr} {h : MH} {Q : MQ} : rStep (.ref a) (.int (-1)) h Q = (∃ ds, h a = some (.lst ds) ∧ ∀ p, h p = none → Q (.ref p) (up h p (.lst ds.reverse))) := propext ⟨fun q => q.2, fun q => ⟨.inl rfl, q⟩⟩
section
variable {X : Cx} {Hb : Hp} {e se : Expr} {me ms : MTE} {pos p3 : Pos}
theorem ie_step (he : IE X Hb e me) (hs : IE X Hb se ms) : IE X Hb (.Subscript e (.Slice none none (some se) p3) pos) (mOp rStep me ms) := by
  refine pe_w (pe_step he hs) fun σ H Q ⟨env, h, Q0, re, rh, m, f⟩ => ?_
  refine ⟨env, h, _, re, rh, m, fun x h1 q1 vx H1 t1 r1 rx => ?_⟩
  refine ⟨env, h1, _, re.mono t1, r1, q1, fun y h2 q vy H2 t2 r2 ry => ?_⟩
  have f1 := Fin.mono (t1.trans t2) f
  have rx2 := rx.mono t2
  cases x <;> cases y <;> first | exact q.elim | skip
  · obtain ⟨rfl, q⟩ := q
    obtain ⟨a, vs, rfl, ta, rs⟩ := rx2.tup
    rw [ry.int]
    exact ⟨_, rfl, .inr ⟨a, vs, rfl, ta, rfl, fun p np => f1 _ _ q _ _ (.new np) (r2.skip np) (rv_tup (.of upd_same) (rs.reverse.mono (.new np)))⟩⟩
  · obtain ⟨hi, q⟩ := q
    obtain ⟨a, vs, rfl, ta, rs⟩ := rx2.rl
    rw [ry.int]
    refine ⟨_, rfl, .inl ⟨a, vs, rfl, ta.l, ?_⟩⟩
    rcases hi with rfl | rfl
    · exact .inl ⟨rfl, fun p np => f1 _ _ (q p (r2.free np)) _ _ (.new np) (r2.new np (ro_lst rs.reverse)) rv_ref⟩
    · exact .inr ⟨rfl, fun p np => f1 _ _ (q p (r2.free np)) _ _ (.new np) (r2.new np (ro_lst rs)) rv_ref⟩
  · obtain ⟨hi, ds, e, q⟩ := q
    rw [rx2.ref, ry.int]
    obtain ⟨vs, E, rs⟩ := r2.lst e
    refine ⟨_, rfl, .inl ⟨_, vs, rfl, .of E, ?_⟩⟩
    rcases hi with rfl | rfl
    · exact .inl ⟨rfl, fun p np => f1 _ _ (q p (r2.free np)) _ _ (.new np) (r2.new np (ro_lst rs.reverse)) rv_ref⟩
    · exact .inr ⟨rfl, fun p np => f1 _ _ (q p (r2.free np)) _ _ (.new np) (r2.new np (ro_lst rs)) rv_ref⟩
end
end M

namespace M
open PySem L2
/-! ### lists and tuples of ints compared -/
theorem dps_ints {h : MH} : ∀ xs : List Int, DPs h (xs.map .int) (xs.map PyData.int)
  | [] => .nil
  | x :: xs => .cons (.int x) (dps_ints xs)
theorem canLay_ints : ∀ xs : List Int, PyData.canLayAll0 (xs.map PyData.int) = true
  | [] => rfl
  | x :: xs => by
    rw [List.map_cons, PyData.canLayAll0, canLay_ints xs]
    rfl
theorem depth_ints : ∀ xs : List Int, PyData.depthAll (xs.map PyData.int) = 0
  | [] => rfl
  | x :: xs => by
    rw [List.map_cons, PyData.depthAll, depth_ints xs]
    rfl
theorem shaped_list (xs : List Int) : SeqAt.shaped (.list (xs.map PyData.int)) = true := by
  unfold SeqAt.shaped
  rw [Bool.and_eq_true, decide_eq_true_eq]
  refine ⟨by rw [PyData.canLay0]; exact canLay_ints xs, ?_⟩
  rw [PyData.depth, depth_ints]; decide
theorem shaped_tup (xs : List Int) : SeqAt.shaped (.tuple (xs.map PyData.int)) = true := by
  unfold SeqAt.shaped
  rw [Bool.and_eq_true, decide_eq_true_eq]
  refine ⟨by rw [PyData.canLay0]; exact canLay_ints xs, ?_⟩
  rw [PyData.depth, depth_ints]; decide
theorem eqvAll_ints : ∀ xs ys : List Int, PyData.eqvAll (xs.map PyData.int) (ys.map PyData.int) = decide (xs = ys)
  | [], [] => by simp [PyData.eqvAll]
  | [], _ :: _ => by simp [PyData.eqvAll]
  | _ :: _, [] => by simp [PyData.eqvAll]
  | x :: xs, y :: ys => by
    rw [List.map_cons, List.map_cons, PyData.eqvAll, eqvAll_ints xs ys, PyData.eqv, show (x == y) = decide (x = y) from rfl, ← Bool.decide_and]
    exact decide_eq_decide.mpr (by rw [List.cons.injEq])
theorem eqv_list (xs ys : List Int) : PyData.eqv (.list (xs.map PyData.int)) (.list (ys.map PyData.int)) = decide (xs = ys) := by rw [PyData.eqv, eqvAll_ints]
theorem eqv_tup (xs ys : List Int) : PyData.eqv (.tuple (xs.map PyData.int)) (.tuple (ys.map PyData.int)) = decide (xs = ys) := by rw [PyData.eqv, eqvAll_ints]
section
variable {h : MH} {Q : MQ} {a b : Addr} {xs ys : List Int}
theorem eqD_tt (q : Q (.bl (decide (xs = ys))) h) : rEqD (.tup (xs.map .int)) (.tup (ys.map .int)) h Q := ⟨_, _, .tup (dps_ints xs), .tup (dps_ints ys), shaped_tup xs, shaped_tup ys, by rw [eqv_tup]; exact q⟩
theorem neD_tt (q : Q (.bl (!decide (xs = ys))) h) : rNeD (.tup (xs.map .int)) (.tup (ys.map .int)) h Q := ⟨_, _, .tup (dps_ints xs), .tup (dps_ints ys), shaped_tup xs, shaped_tup ys, by rw [eqv_tup]; exact q⟩
theorem eqD_ll (ea : h a = some (.lst (xs.map .int))) (eb : h b = some (.lst (ys.map .int))) (q : Q (.bl (decide (xs = ys))) h) : rEqD (.ref a) (.ref b) h Q := ⟨_, _, .lst ea (dps_ints xs), .lst eb (dps_ints ys), shaped_list xs, shaped_list ys, by rw [eqv_list]; exact q⟩
theorem neD_ll (ea : h a = some (.lst (xs.map .int))) (eb : h b = some (.lst (ys.map .int))) (q : Q (.bl (!decide (xs = ys))) h) : rNeD (.ref a) (.ref b) h Q := ⟨_, _, .lst ea (dps_ints xs), .lst eb (dps_ints ys), shaped_list xs, shaped_list ys, by rw [eqv_list]; exact q⟩
end
/-! ### as many unlike ones among fewer -/
theorem nodup_le {α : Type} [DecidableEq α] : ∀ {xs ys : List α}, xs.Nodup → (∀ x ∈ xs, x ∈ ys) → xs.length ≤ ys.length
  | [], _, _, _ => Nat.zero_le _
  | x :: xs, ys, hn, hs => by
    have hx := hs x (List.mem_cons_self ..)
    have h2 := nodup_le (ys := ys.erase x) (List.nodup_cons.mp hn).2 fun y hy => (List.mem_erase_of_ne (fun e : y = x => (List.nodup_cons.mp hn).1 (by rw [← e]; exact hy))).mpr (hs y (List.mem_cons_of_mem _ hy))
    rw [List.length_erase_of_mem hx] at h2
    have := List.length_pos_of_mem hx
    rw [List.length_cons]; omega
/-- from c on, one of the first length + 1 steps round m comes to what is not there -/
theorem free_step {ys : List Int} {m c : Int} (hm : (ys.length : Int) < m) : ∃ j : Nat, j ≤ ys.length ∧ (c + j) % m ∉ ys := by
  apply Classical.byContradiction
  intro hno
  have h1 : ∀ j : Nat, j ≤ ys.length → (c + j) % m ∈ ys := fun j hj => Classical.byContradiction fun h => hno ⟨j, hj, h⟩
  have h2 : ((List.range (ys.length + 1)).map fun j : Nat => (c + j) % m).Nodup := by
    rw [List.nodup_iff_pairwise_ne, List.pairwise_map]
    refine List.Pairwise.imp_of_mem ?_ (List.nodup_range (n := ys.length + 1))
    intro a b ha hb hne e
    have ha := List.mem_range.mp ha
    have hb := List.mem_range.mp hb
    have e2 : ((c + a) - (c + b)) % m = 0 := Int.emod_eq_emod_iff_emod_sub_eq_zero.mp e
    have e3 : m ∣ ((a : Int) - b) := by
      have := Int.dvd_of_emod_eq_zero e2
      rwa [show (c + (a : Int)) - (c + b) = (a : Int) - b from by omega] at this
    obtain ⟨q, hq⟩ := e3
    have : q = 0 := by
      apply Classical.byContradiction
      intro hq0
      have : m ≤ (m * q).natAbs := by
        rw [Int.natAbs_mul]
        have h3 : 1 ≤ q.natAbs := by omega
        have h4 : m.natAbs * 1 ≤ m.natAbs * q.natAbs := Nat.mul_le_mul_left _ h3
        omega
      omega
    subst this
    rw [Int.mul_zero] at hq
    exact hne (by omega)
  have h3 := nodup_le h2 (ys := ys) fun x hx => by
    obtain ⟨j, hj, rfl⟩ := List.mem_map.mp hx
    exact h1 j (by have := List.mem_range.mp hj; omega)
  rw [List.length_map, List.length_range] at h3
  omega
end M

/-! max, min of a tuple of ints -/
namespace L2
open PySem PySem.Spec PyProof PyProof.Rows
section
variable {prog : Program} {w : World} {A : Around} {E : Value → Shared → Prop} {s : Shared} {l : Addr} {its : List Value} {ns : List Int} {Q : Value → Shared → Prop}
theorem iter_intTup {xs : Array (Int × Tok)} {Q : Value → Shared → Prop} (hl : s.heap.IsTuple l (intItems xs))
    (h : ∀ s₂ : Shared, s₂ = { s with heap := s.heap.push { cls := .type "tuple_iterator", data := .fields #[.ref l, .int 0 0] } } →
      (s₂.heap.IsTupleIter s.heap.objs.size l 0 ∧ s₂.heap.IsTuple l (intItems xs)) → (∀ b ∈ [s.heap.objs.size, l], b < s₂.heap.objs.size) → l ≠ s.heap.objs.size → Q (.ref s.heap.objs.size) s₂) :
    wpAny (model prog w) A (pyIter (.ref l)) Q E s := by
  have hlt : l < s.heap.objs.size := by obtain ⟨_, e, _⟩ := hl; exact Heap.lt_size e
  refine wpAny_pyIter_tuple hl (h _ rfl ⟨⟨_, Heap.get?_push_size _ rfl, rfl, rfl⟩, ?_⟩ (fun b hb => ?_) (Nat.ne_of_lt hlt))
  · obtain ⟨o, e, r⟩ := hl
    exact ⟨o, Heap.get?_push_of_some _ e, r⟩
  · show b < (s.heap.push _).objs.size
    rw [Heap.size_push]
    simp only [List.mem_cons, List.not_mem_nil, or_false] at hb
    rcases hb with e | e
    · rw [e]; exact Nat.lt_succ_self _
    · rw [e]; exact Nat.lt_succ_of_lt hlt
theorem maxT_raw (hh : A.handled = none) (hl : s.heap.IsTuple l its.toArray) (hi : IntsAre its ns) (hne : 0 < ns.length)
    (h : ∀ h' tk M t', (∀ b o, s.heap.get? b = some o → h'.get? b = some o) → M ∈ ns → (∀ a, a ∈ ns → a ≤ M) → Q (.int M t') { s with heap := h', toks := tk }) : wpAny (model prog w) A (call (.builtin "max") [.ref l]) Q E s := by
  obtain ⟨xs, e⟩ := hi.allInts.items
  have hn : numsOf (intItems xs).toList = ns := by rw [← e]; exact hi.numsOf
  rw [nums_intItems] at hn
  subst hn
  rw [e] at hl
  have hsz : 0 < xs.size := by simpa using hne
  refine call_max_walk (iter_intTup hl fun s₂ e st hfp hlI => ?_)
  subst e
  refine ⟨_, _, _, _, _, _, _, rfl, Walks.tuple (A := A.in1) hh _ l hlI (intItems xs), st, hfp, by simpa [intItems] using hsz, CmpOf.ints_gt (numAt xs) (fun _ _ => intItems_at), fun v h' tk hP hk => ?_⟩
  have hv : (intItems xs)[argBest (fun i j => decide (numAt xs i > numAt xs j)) (xs.size - 1)]? = some v := by simpa [intItems] using hP
  obtain ⟨t, rfl⟩ := intItems_at hv
  obtain ⟨h1, h2⟩ := argBest_gt (numAt xs) (xs.size - 1)
  refine h h' tk _ t (fun b o e => hk b o (fun z => Nat.lt_irrefl _ (by have := Heap.lt_size e; rw [List.mem_singleton.mp z] at this; exact this)) (Heap.get?_push_of_some _ e)) ?_ fun a ha => ?_
  · rw [numAt_eq]; exact PySem.getD_mem (by rw [List.length_map, Array.length_toList]; omega)
  · obtain ⟨j, hj, rfl⟩ := mem_getD ha
    rw [List.length_map, Array.length_toList] at hj
    rw [← numAt_eq]; exact h2 j (by omega)
theorem minT_raw (hh : A.handled = none) (hl : s.heap.IsTuple l its.toArray) (hi : IntsAre its ns) (hne : 0 < ns.length)
    (h : ∀ h' tk M t', (∀ b o, s.heap.get? b = some o → h'.get? b = some o) → M ∈ ns → (∀ a, a ∈ ns → M ≤ a) → Q (.int M t') { s with heap := h', toks := tk }) : wpAny (model prog w) A (call (.builtin "min") [.ref l]) Q E s := by
  obtain ⟨xs, e⟩ := hi.allInts.items
  have hn : numsOf (intItems xs).toList = ns := by rw [← e]; exact hi.numsOf
  rw [nums_intItems] at hn
  subst hn
  rw [e] at hl
  have hsz : 0 < xs.size := by simpa using hne
  refine call_min_walk (iter_intTup hl fun s₂ e st hfp hlI => ?_)
  subst e
  refine ⟨_, _, _, _, _, _, _, rfl, Walks.tuple (A := A.in1) hh _ l hlI (intItems xs), st, hfp, by simpa [intItems] using hsz, CmpOf.ints_lt (numAt xs) (fun _ _ => intItems_at), fun v h' tk hP hk => ?_⟩
  have hv : (intItems xs)[argBest (fun i j => decide (numAt xs i < numAt xs j)) (xs.size - 1)]? = some v := by simpa [intItems] using hP
  obtain ⟨t, rfl⟩ := intItems_at hv
  obtain ⟨h1, h2⟩ := argBest_lt (numAt xs) (xs.size - 1)
  refine h h' tk _ t (fun b o e => hk b o (fun z => Nat.lt_irrefl _ (by have := Heap.lt_size e; rw [List.mem_singleton.mp z] at this; exact this)) (Heap.get?_push_of_some _ e)) ?_ fun a ha => ?_
  · rw [numAt_eq]; exact PySem.getD_mem (by rw [List.length_map, Array.length_toList]; omega)
  · obtain ⟨j, hj, rfl⟩ := mem_getD ha
    rw [List.length_map, Array.length_toList] at hj
    rw [← numAt_eq]; exact h2 j (by omega)
end
section
variable {X : Cx}
def rMaxT (K : PySem.W.Frag) : List V → Hp → VK → Prop := fun vs H Q => ∃ (a : Addr) (ns : List Int), vs = [V.ref a] ∧ SqT K H a (ns.map V.int) ∧ 0 < ns.length ∧ ∀ m, m ∈ ns → (∀ y, y ∈ ns → y ≤ m) → Q (.int m) H
def rMinT (K : PySem.W.Frag) : List V → Hp → VK → Prop := fun vs H Q => ∃ (a : Addr) (ns : List Int), vs = [V.ref a] ∧ SqT K H a (ns.map V.int) ∧ 0 < ns.length ∧ ∀ m, m ∈ ns → (∀ y, y ∈ ns → m ≤ y) → Q (.int m) H
theorem cr_maxT (hc : X.calm = true) : CallR X (.builtin "max") (rMaxT X.K) := by
  intro pins s σ H vs us Q I r h
  obtain ⟨a, ns, rfl, hs, hne, q⟩ := h
  obtain ⟨its, rv, hl, _⟩ := I.tuple hs
  rw [Vals.ref1 r]
  exact maxT_raw (I.ok.hd hc) (show s.heap.IsTuple a its.toArray from hl) rv.ints hne fun h' tk m t' hk h1 h2 => ⟨.int _, H, I.kept hk, ⟨_, rfl⟩, q m h1 h2⟩
theorem cr_minT (hc : X.calm = true) : CallR X (.builtin "min") (rMinT X.K) := by
  intro pins s σ H vs us Q I r h
  obtain ⟨a, ns, rfl, hs, hne, q⟩ := h
  obtain ⟨its, rv, hl, _⟩ := I.tuple hs
  rw [Vals.ref1 r]
  exact minT_raw (I.ok.hd hc) (show s.heap.IsTuple a its.toArray from hl) rv.ints hne fun h' tk m t' hk h1 h2 => ⟨.int _, H, I.kept hk, ⟨_, rfl⟩, q m h1 h2⟩
end
end L2
namespace M
open PySem L2
/-- max(xs), min(xs) of ints: a list or a tuple -/
def rMaxA : MRA := fun xs h Q => match xs with
  | [.ref a] => ∃ ns : List Int, h a = some (.lst (ns.map .int)) ∧ 0 < ns.length ∧ ∀ m, m ∈ ns → (∀ y, y ∈ ns → y ≤ m) → Q (.int m) h
  | [.tup ds] => ∃ ns : List Int, ds = ns.map .int ∧ 0 < ns.length ∧ ∀ m, m ∈ ns → (∀ y, y ∈ ns → y ≤ m) → Q (.int m) h
  | _ => False
def rMinA : MRA := fun xs h Q => match xs with
  | [.ref a] => ∃ ns : List Int, h a = some (.lst (ns.map .int)) ∧ 0 < ns.length ∧ ∀ m, m ∈ ns → (∀ y, y ∈ ns → m ≤ y) → Q (.int m) h
  | [.tup ds] => ∃ ns : List Int, ds = ns.map .int ∧ 0 < ns.length ∧ ∀ m, m ∈ ns → (∀ y, y ∈ ns → m ≤ y) → Q (.int m) h
  | _ => False
section
variable {X : Cx}
theorem cm_maxA (hc : X.calm = true) : CaM X (.builtin "max") rMaxA := by
  refine ⟨_, (cr_max hc).or (cr_maxT hc), fun xs h Q0 vs H Q q rh rs f => ?_⟩
  unfold rMaxA at q
  split at q
  · obtain ⟨v, rfl, rx⟩ := rs.one
    rw [rx.ref]
    obtain ⟨ns, e, l, q⟩ := q
    obtain ⟨vs, E, rs⟩ := rh.lst e
    rw [rs.ints] at E
    exact .inl ⟨_, ns, rfl, .of E, l, fun m h1 h2 => fin_at f (q m h1 h2) rh rv_int⟩
  · obtain ⟨v, rfl, rx⟩ := rs.one
    obtain ⟨ns, rfl, l, q⟩ := q
    obtain ⟨a, vs, rfl, ta, rs⟩ := rx.tup
    rw [rs.ints] at ta
    exact .inr ⟨a, ns, rfl, ta, l, fun m h1 h2 => fin_at f (q m h1 h2) rh rv_int⟩
  · exact q.elim
theorem cm_minA (hc : X.calm = true) : CaM X (.builtin "min") rMinA := by
  refine ⟨_, (cr_min hc).or (cr_minT hc), fun xs h Q0 vs H Q q rh rs f => ?_⟩
  unfold rMinA at q
  split at q
  · obtain ⟨v, rfl, rx⟩ := rs.one
    rw [rx.ref]
    obtain ⟨ns, e, l, q⟩ := q
    obtain ⟨vs, E, rs⟩ := rh.lst e
    rw [rs.ints] at E
    exact .inl ⟨_, ns, rfl, .of E, l, fun m h1 h2 => fin_at f (q m h1 h2) rh rv_int⟩
  · obtain ⟨v, rfl, rx⟩ := rs.one
    obtain ⟨ns, rfl, l, q⟩ := q
    obtain ⟨a, vs, rfl, ta, rs⟩ := rx.tup
    rw [rs.ints] at ta
    exact .inr ⟨a, ns, rfl, ta, l, fun m h1 h2 => fin_at f (q m h1 h2) rh rv_int⟩
  · exact q.elim
section
variable {i j : Int} {h : MH} {Q : MQ} {a : Addr} {xs : List D}
theorem q_maxA1 : rMaxA [.ref a] h Q = (∃ ns : List Int, h a = some (.lst (ns.map .int)) ∧ 0 < ns.length ∧ ∀ m, m ∈ ns → (∀ y, y ∈ ns → y ≤ m) → Q (.int m) h) := rfl
theorem q_maxA2 : rMaxA [.tup xs] h Q = (∃ ns : List Int, xs = ns.map .int ∧ 0 < ns.length ∧ ∀ m, m ∈ ns → (∀ y, y ∈ ns → y ≤ m) → Q (.int m) h) := rfl
theorem q_minA1 : rMinA [.ref a] h Q = (∃ ns : List Int, h a = some (.lst (ns.map .int)) ∧ 0 < ns.length ∧ ∀ m, m ∈ ns → (∀ y, y ∈ ns → m ≤ y) → Q (.int m) h) := rfl
theorem q_minA2 : rMinA [.tup xs] h Q = (∃ ns : List Int, xs = ns.map .int ∧ 0 < ns.length ∧ ∀ m, m ∈ ns → (∀ y, y ∈ ns → m ≤ y) → Q (.int m) h) := rfl
end
end
end M

namespace M
open PySem L2
/-! ### dicts made -/
def mDisp0 : MTE := fun _ h Q => ∀ p, h p = none → Q (.ref p) (up h p (.dK []))
def mDisp1 (k : Key) (d : D) : MTE := fun _ h Q => ∀ p, h p = none → Q (.ref p) (up h p (.dK [(k, d)]))
section
variable {X : Cx} {Hb : Hp} {pos : Pos}
theorem ie_disp0 : IE X Hb (.Dict [] [] pos) mDisp0 := by
  refine pe_w pe_dnewK fun σ H Q ⟨env, h, Q0, re, rh, m, f⟩ => fun p np => ?_
  exact f _ _ (m p (rh.free np)) _ _ (.new np) (rh.new np ⟨[], rfl, rfl, .nil⟩) rv_ref
theorem ie_disp1 {i : Int} {j : Nat} {kp : Pos} {v : Expr} {t : V} {d : D} (hv : PE X v (tC t)) (r : ∀ H, RV X.K H d t) : IE X Hb (.Dict [some (.Constant (.int i) j kp)] [v] pos) (mDisp1 (.inl i) d) := by
  refine pe_w (pe_disp (pps_cons pe_int hv pps_nil) rfl rfl (by simp) (by simp)) fun σ H Q ⟨env, h, Q0, re, rh, m, f⟩ => fun p np => ?_
  refine ⟨upd_same, [(.inl i, t)], rfl, Nat.le_of_ble_eq_true rfl, ?_⟩
  have e : upd (upd H p (.dK [])) p (.dK (mergeK [] [(Sum.inl i, t)])) = upd H p (.dK [(Sum.inl i, t)]) := by
    funext b
    unfold upd
    split <;> rfl
  rw [e]
  exact f _ _ (m p (rh.free np)) _ _ (.new np) (rh.new np ⟨[(.inl i, t)], rfl, rfl, .cons (r H) .nil⟩) rv_ref
theorem ie_disp1b {i : Int} {j j2 : Nat} {kp vp : Pos} {b : Bool} : IE X Hb (.Dict [some (.Constant (.int i) j kp)] [.Constant (.bool b) j2 vp] pos) (mDisp1 (.inl i) (.bl b)) := ie_disp1 pe_bl fun _ => rv_bl
theorem ie_disp1i {i v : Int} {j j2 : Nat} {kp vp : Pos} : IE X Hb (.Dict [some (.Constant (.int i) j kp)] [.Constant (.int v) j2 vp] pos) (mDisp1 (.inl i) (.int v)) := ie_disp1 pe_int fun _ => rv_int
theorem q_ty8 {h : MH} {a : Addr} {kv : List (Key × D)} (e : h a = some (.dK kv)) : tyD h (.ref a) = "dict" := by show (match h a with | some (.lst _) => "list" | some (.dK _) => "dict" | some (.dT _) => "dict" | _ => "?") = "dict"; rw [e]
end
end M

/-! max of a list of tuples of ints -/
namespace L2
open PySem PySem.Spec PyProof PyProof.Rows PySem.SeqAt PySem.W
theorem argBest_all {lt : Nat → Nat → Prop} (bt : Nat → Nat → Bool) (hb : ∀ i j, bt i j = true ↔ lt j i) (irr : ∀ i, ¬ lt i i) (tr : ∀ i j k, lt i j → lt j k → lt i k) : ∀ k, argBest bt k ≤ k ∧ ∀ j, j ≤ k → ¬ lt (argBest bt k) j
  | 0 => ⟨Nat.le_refl _, fun j hj => by
    have : j = 0 := by omega
    subst this; exact irr _⟩
  | k + 1 => by
    obtain ⟨h1, h2⟩ := argBest_all bt hb irr tr k
    unfold argBest
    by_cases c : bt (k + 1) (argBest bt k) = true
    · rw [if_pos c]
      refine ⟨Nat.le_refl _, fun j hj => ?_⟩
      by_cases e : j = k + 1
      · subst e; exact irr _
      · exact fun z => h2 j (by omega) (tr _ _ _ ((hb _ _).mp c) z)
    · rw [if_neg c]
      refine ⟨by omega, fun j hj => ?_⟩
      by_cases e : j = k + 1
      · subst e; exact fun z => c ((hb _ _).mpr z)
      · exact h2 j (by omega)

theorem alike_ints : ∀ xs ys : List Int, alikeAll (xs.map PyData.int) (ys.map PyData.int) = true
  | [], _ => by rw [List.map_nil, alikeAll]
  | _ :: _, [] => by rw [List.map_nil, List.map_cons, alikeAll]
  | x :: xs, y :: ys => by rw [List.map_cons, List.map_cons, alikeAll, alike_ints xs ys]; rfl
abbrev tuD (xs : List Int) : PyData := .tuple (xs.map .int)
theorem dlt_tup (xs ys : List Int) : dataLt (tuD xs) (tuD ys) = decide (xs < ys) := by
  rw [dataLt_tuple]
  exact dataLt_ints xs ys
theorem depth_tup (xs : List Int) : (tuD xs).depth ≤ 1 := by
  rw [PyData.depth, M.depth_ints]; decide
section
variable {X : Cx}
theorem dpAll_get {K : PySem.W.Frag} {H : Hp} : ∀ {ws : List V} {ds : List PyData} {i : Nat} {w : V}, DpAll K H ws ds → ws[i]? = some w → ∃ d, ds[i]? = some d ∧ Dp K H w d
  | _, _, _, _, .nil, e => by simp at e
  | _, _, 0, _, .cons a b, e => ⟨_, rfl, by simp at e; subst e; exact a⟩
  | _, _, i + 1, _, .cons a b, e => by
    obtain ⟨d, e1, q⟩ := dpAll_get b (i := i) (by simpa using e)
    exact ⟨d, by simpa using e1, q⟩
def rMaxTT (K : PySem.W.Frag) : List V → Hp → VK → Prop := fun vs H Q => ∃ (a : Addr) (ws : List V) (xss : List (List Int)), vs = [V.ref a] ∧ SqL K H a ws ∧ DpAll K H ws (xss.map tuD) ∧ 0 < xss.length ∧ xss.length = ws.length ∧
  ∀ k w, ws[k]? = some w → (∀ j, j < xss.length → ¬ (xss.getD k [] < xss.getD j [])) → Q w H
theorem cr_maxTT (hc : X.calm = true) (hu : X.A.in1.units + 1 < cLine) : CallR X (.builtin "max") (rMaxTT X.K) := by
  intro pins s σ H vs us Q I r h
  obtain ⟨a, ws, xss, rfl, hs, hd, hne, hll, q⟩ := h
  obtain ⟨its, rv, hl, _⟩ := I.list hs
  have hlen := rv.length
  rw [Vals.ref1 r]
  have hlt : a < s.heap.objs.size := by obtain ⟨_, _, e, _⟩ := hl; exact Heap.lt_size e
  refine call_max_walkH (wpAny_pyIter_list hl.isList ?_)
  have it : ∀ i v, its.toArray[i]? = some v → ∃ w, ws[i]? = some w ∧ RelV w v ∧ ∃ as, Reads s.heap v (tuD (xss.getD i [])) as := fun i v e => by
    have e' : its[i]? = some v := by simpa using e
    have hi : i < its.length := (List.getElem?_eq_some_iff.mp e').1
    have ew : ws[i]? = some ws[i] := List.getElem?_eq_getElem (by omega)
    obtain ⟨u, eu, ru⟩ := rv.get ew
    rw [eu] at e'
    cases e'
    obtain ⟨d, ed, dp⟩ := dpAll_get hd ew
    rw [List.getElem?_map, List.getElem?_eq_getElem (show i < xss.length by omega)] at ed
    cases ed
    obtain ⟨as, ra⟩ := Dp.reads I _ _ _ dp ru
    refine ⟨_, ew, ru, as, ?_⟩
    rw [List.getD_eq_getElem?_getD, List.getElem?_eq_getElem (show i < xss.length by omega)]
    exact ra
  refine ⟨_, _, _, _, _, _, _, s.heap, fun i j => decide (xss.getD j [] < xss.getD i []), rfl, (Walks.list (A := X.A.in1) (I.ok.hd hc) s.heap.objs.size a (Nat.ne_of_lt hlt) its.toArray).toS, ⟨⟨_, Heap.get?_push_size _ rfl, rfl, rfl⟩, hl.isList.push _⟩, fun b hb => ?_, by rw [List.size_toArray]; omega, fun b o e z => ?_, fun b o e => Heap.get?_push_of_some _ e, ?_, ?_⟩
  · show b < (s.heap.push _).objs.size
    rw [Heap.size_push]
    simp only [List.mem_cons, List.not_mem_nil, or_false] at hb
    rcases hb with e | e
    · rw [e]; exact Nat.lt_succ_self _
    · rw [e]; exact Nat.lt_succ_of_lt hlt
  · have := Heap.lt_size e
    rw [List.mem_singleton.mp z] at this
    exact Nat.lt_irrefl _ this
  · intro i j vi vj s' Q' E' hk hi hj hq
    obtain ⟨_, _, _, as, ra⟩ := it i vi hi
    obtain ⟨_, _, _, bs, rb⟩ := it j vj hj
    refine rcGt_alike (tuD (xss.getD i [])) (tuD (xss.getD j [])) X.A.in1 s' vi vj as bs (PyProof.Rows.Reads.keeps hk ra) (PyProof.Rows.Reads.keeps hk rb) (by rw [alike]; exact alike_ints _ _) (fun z => by cases z) ?_ _ _ _ _ ?_
    · have := depth_tup (xss.getD i [])
      omega
    · rw [dlt_tup]; exact hq
  · intro v s' hP hm
    obtain ⟨w, ew, rw', _⟩ := it _ v hP
    have best := (argBest_all (lt := fun i j => xss.getD i [] < xss.getD j []) (fun i j => decide (xss.getD j [] < xss.getD i [])) (fun i j => decide_eq_true_iff) (fun i => List.lt_irrefl _) (fun i j k => List.lt_trans) (its.toArray.size - 1)).2
    obtain ⟨m1, m2, m3, m4, m5⟩ := hm
    obtain ⟨hp, g, d, tk, os⟩ := s'
    simp only at m1 m2 m3 m4
    subst m2 m3 m4
    refine ⟨w, H, I.kept (t' := tk) (h' := hp) fun b o e => m1 b o ?_ (Heap.get?_push_of_some _ e), rw', q _ w ew fun j hj => best j (by rw [List.size_toArray]; omega)⟩
    intro z
    have := Heap.lt_size e
    rw [List.mem_singleton.mp z] at this
    exact Nat.lt_irrefl _ this
end
end L2

namespace L2
open PySem PySem.Spec PyProof PyProof.Rows
open AutoSeq1 (wpAny_loadPart')
/-! t * 1 is t -/
theorem tuple_mul1 (l : Addr) (items : Array Value) (n : Nat) (dd : Option Addr) (sl : Array (Option Value)) (u : Tok) (c1 : (items.isEmpty || (1 : Int) == 1) = true) :
    Meets (Builtin.«tuple.__mul__» ⟨[.ref l, .int 1 u], []⟩) (fun _ R s => s.heap.get? l = some { cls := .type "tuple", dict := dd, data := .seq items n, slots := sl } ∧
      R (.ok (.ret (Value.ref l))) s) :=
  .of_wp fun prog w A R s h => by
    obtain ⟨hp, g, d, tk, os⟩ := s
    obtain ⟨hl, h⟩ := h
    have f1 := AutoSeq1.idx_int
    have c0 : (decide ((1 : Int) < -(2 ^ 63)) || decide ((1 : Int) ≥ 2 ^ 63)) = false := by decide
    wp_walk using wpAny_loadPart' hl
    repeat (first
      | (refine wpAny_ite_false (decide_eq_false (by rw [c0]; exact Bool.false_ne_true)) ?_; wp_walk using wpAny_loadPart' hl)
      | (refine wpAny_ite_true (decide_eq_true c1) ?_; wp_walk using wpAny_loadPart' hl))
    exact ⟨_, rfl, h⟩

def rRepT1 (K : PySem.W.Frag) : R2 := fun x y H Q => ∃ l xs, x = .ref l ∧ y = .int 1 ∧ SqT K H l xs ∧ Q (.ref l) H
theorem op_repT1 {X : Cx} : OpR X (binaryOp .Mult) (rRepT1 X.K) := by
  intro pins s σ H x y v u Q I rx ry h
  obtain ⟨l, xs, rfl, rfl, hT, q⟩ := h
  cases rx
  obtain ⟨t, rfl⟩ := ry
  obtain ⟨its, r, ⟨⟨cls, dd, data, sl⟩, ho, hc, n, hd⟩, hs⟩ := I.tuple hT
  simp only at hc hd
  subst hc hd
  exact wpAny_binaryOp_repeat_ref (T := "tuple") (U := "int") (by decide) ⟨_, ho, rfl⟩ (fun s' => typeIs_int s' 1 t) noFill_tuple_mul F.fills_int_mul F.slot_int_rmul repeat_tuple F.slot_int_index.lookup
    (call_meets F.slot_int_rmul (typeIs_int s 1 t) F.entry_int_rmul (F.args_int_rmul_2 _ _) (int_rmul_tuple 1 t l its.toArray n dd sl)
      ⟨ho, rfl, ⟨_, ho, rfl⟩, call_meets F.slot_tuple_mul ⟨_, ho, rfl⟩ F.entry_tuple_mul (F.args_tuple_mul_2 _ _) (tuple_mul1 l its.toArray n dd sl t (by simp)) ⟨ho, ⟨.ref l, H, I, rfl, q⟩⟩⟩)
end L2
namespace M
open PySem L2
def rMulT : MR2 := fun x y h Q => match x, y with
  | .tup ds, .int k => ds ≠ [] ∧ 1 ≤ k ∧ k ≤ 1000 ∧ ds.length ≤ 1000 ∧ Q (.tup (List.replicate k.toNat ds).flatten) h
  | _, _ => False
section
variable {X : Cx}
theorem om_mulT : OpM X (binaryOp .Mult) rMulT := by
  refine ⟨_, op_repT.or op_repT1, fun x y h Q0 vx vy H Q q rh rx ry f => ?_⟩
  cases x <;> cases y <;> first | exact q.elim | skip
  rename_i ds k
  obtain ⟨n0, k1, k2, l1, q⟩ := q
  obtain ⟨a, vs, rfl, ta, rs⟩ := rx.tup
  rw [ry.int]
  by_cases e : k = 1
  · subst e
    refine .inr ⟨a, vs, rfl, rfl, ta, ?_⟩
    have e2 : (List.replicate (1 : Int).toNat ds).flatten = ds := by
      show (ds ++ []) = ds
      exact List.append_nil _
    rw [e2] at q
    exact fin_at f q rh (rv_tup ta rs)
  · refine .inl ⟨a, k, vs, rfl, rfl, ta, ?_, by omega, k2, by rw [← rs.length]; exact l1, fun p np => ?_⟩
    · intro z
      subst z
      exact n0 (List.eq_nil_of_length_eq_zero rs.length)
    · exact f _ h q _ _ (.new np) (rh.skip np) (rv_tup (.of upd_same) ((rs.rep _).mono (.new np)))
/-- max of a list of tuples of ints -/
def rMaxTup : MRA := fun xs h Q => match xs with
  | [.ref a] => ∃ xss : List (List Int), h a = some (.lst (xss.map fun xs => .tup (xs.map .int))) ∧ 0 < xss.length ∧ ∀ m, m ∈ xss → (∀ y, y ∈ xss → ¬ m < y) → Q (.tup (m.map .int)) h
  | _ => False
theorem dpAll_tups {K : PySem.W.Frag} {h : MH} {H : Hp} (rh : HR K h H) : ∀ {xss : List (List Int)} {ws : List V}, RVs K H (xss.map fun xs => D.tup (xs.map .int)) ws → DpAll K H ws (xss.map tuD)
  | [], _, r => by rw [r.inv0]; exact .nil
  | xs :: xss, _, r => by
    obtain ⟨v, ws, rfl, q, t⟩ := r.inv
    exact .cons (DP.dp rh (.tup (dps_ints xs)) q) (dpAll_tups rh t)
theorem units1 {a : Nat} {c : Nat} (h : a + 64 < c) : a + 1 + 1 < c := by omega
theorem cm_maxTup (hc : X.calm = true) (hu : X.A.units + 64 < cLine) : CaM X (.builtin "max") rMaxTup := by
  refine ⟨_, cr_maxTT hc (units1 hu), fun xs h Q0 vs H Q q rh rs f => ?_⟩
  unfold rMaxTup at q
  split at q
  · obtain ⟨v, rfl, rx⟩ := rs.one
    rw [rx.ref]
    obtain ⟨xss, e, l, q⟩ := q
    obtain ⟨ws, E, rw'⟩ := rh.lst e
    have hl : xss.length = ws.length := by have := rw'.length; rwa [List.length_map] at this
    refine ⟨_, ws, xss, rfl, .of E, dpAll_tups rh rw', l, hl, fun k w ew hk => ?_⟩
    have hki : k < xss.length := by rw [hl]; exact (List.getElem?_eq_some_iff.mp ew).1
    obtain ⟨d, ed, rd⟩ := rw'.get' ew
    rw [List.getElem?_map, List.getElem?_eq_getElem hki] at ed
    cases ed
    refine fin_at f (q xss[k] (List.getElem_mem hki) fun y hy => ?_) rh rd
    obtain ⟨j, hj, rfl⟩ := List.mem_iff_getElem.mp hy
    have := hk j hj
    rw [List.getD_eq_getElem?_getD, List.getD_eq_getElem?_getD, List.getElem?_eq_getElem hki, List.getElem?_eq_getElem hj] at this
    exact this
  · exact q.elim
section
variable {k : Int} {h : MH} {Q : MQ} {a : Addr} {xs : List D}
theorem q_mulT : rMulT (.tup xs) (.int k) h Q = (xs ≠ [] ∧ 1 ≤ k ∧ k ≤ 1000 ∧ xs.length ≤ 1000 ∧ Q (.tup (List.replicate k.toNat xs).flatten) h) := rfl
theorem q_maxTup : rMaxTup [.ref a] h Q = (∃ xss : List (List Int), h a = some (.lst (xss.map fun xs => .tup (xs.map .int))) ∧ 0 < xss.length ∧ ∀ m, m ∈ xss → (∀ y, y ∈ xss → ¬ m < y) → Q (.tup (m.map .int)) h) := rfl
end
end
end M

namespace M
open PySem L2
/-! ### dicts with keys ints and texts -/
def keyD : Key → D
  | .inl i => .int i
  | .inr x => .str x
def dV (kvs : List (Key × D)) (k : Key) : Option D := (kvs.find? fun kv => decide (kv.1 = k)).map (·.2)
def dPutK (kvs : List (Key × D)) (k : Key) (v : D) : List (Key × D) :=
  if (kvs.any fun kv => decide (kv.1 = k)) = true then kvs.map (fun kv => if kv.1 = k then (kv.1, v) else kv) else kvs ++ [(k, v)]
section
variable {K : PySem.W.Frag} {H : Hp}
theorem rkv_inv {p : Key × D} {kvs : List (Key × D)} {ws : List (Key × V)} (h : RKV K H (p :: kvs) ws) : ∃ v rs, ws = (p.1, v) :: rs ∧ RV K H p.2 v ∧ RKV K H kvs rs := by
  obtain ⟨h1, h2⟩ := h
  cases ws with
  | nil => cases h1
  | cons w rs =>
    rw [List.map_cons, List.map_cons] at h1
    injection h1 with a b
    rw [List.map_cons] at h2
    obtain ⟨v, r, e, q, t⟩ := h2.inv
    rw [List.map_cons] at e
    injection e with e1 e2
    subst e1 e2
    refine ⟨w.2, rs, ?_, q, b, t⟩
    rw [a]
theorem rkv_get {k : Key} {d : D} : ∀ {kvs : List (Key × D)} {ws : List (Key × V)}, RKV K H kvs ws → dV kvs k = some d → ∃ v, valV ws k = some v ∧ RV K H d v
  | [], _, _, e => by cases e
  | p :: kvs, _, h, e => by
    obtain ⟨v, rs, rfl, q, t⟩ := rkv_inv h
    by_cases c : p.1 = k
    · have e' : dV (p :: kvs) k = some p.2 := by simp [dV, List.find?_cons, c]
      rw [e'] at e
      cases e
      exact ⟨v, by rw [valV_pos (p := (p.1, v)) c], q⟩
    · have e' : dV (p :: kvs) k = dV kvs k := by simp [dV, List.find?_cons, c]
      rw [e'] at e
      obtain ⟨u, eu, ru⟩ := rkv_get t e
      exact ⟨u, by rw [valV_neg (p := (p.1, v)) c]; exact eu, ru⟩
theorem keyD_rv {k : Key} {v : V} (h : RV K H (keyD k) v) : v = kV k := by
  cases k with
  | inl i => exact h.int
  | inr x => exact h.str
end
def mDGet (o i : MTE) : MTE := fun env h Q => o env h fun x h1 => i env h1 fun y h2 => ∃ a kvs k d, x = .ref a ∧ h2 a = some (.dK kvs) ∧ y = keyD k ∧ dV kvs k = some d ∧ Q d h2
section
variable {X : Cx} {Hb : Hp} {o i : Expr} {mo mi : MTE} {pos : Pos}
theorem ie_dget (hu : X.A.units + 64 < cLine) (ho : IE X Hb o mo) (hi : IE X Hb i mi) (hs : NoSl i) : IE X Hb (.Subscript o i pos) (mDGet mo mi) := by
  refine pe_w (pe_dget (by omega) ho hi hs) fun σ H Q ⟨env, h, Q0, re, rh, m, f⟩ => ?_
  refine ⟨env, h, _, re, rh, m, fun x h1 q1 vx H1 t1 r1 rx => ?_⟩
  refine ⟨env, h1, _, re.mono t1, r1, q1, fun y h2 q vy H2 t2 r2 ry => ?_⟩
  obtain ⟨a, kvs, k, d, rfl, e, rfl, ed, q⟩ := q
  obtain ⟨ws, E, rk⟩ := r2.dK e
  obtain ⟨v, ev, rv⟩ := rkv_get rk ed
  refine ⟨a, v, (rx.mono t2).ref, ?_, f d h2 q v H2 (t1.trans t2) r2 rv⟩
  rw [keyD_rv ry, ← ev]
  exact DGet.k E
end
section
variable {K : PySem.W.Frag} {H : Hp}
theorem rkv_any {k : Key} : ∀ {kvs : List (Key × D)} {ws : List (Key × V)}, RKV K H kvs ws → (kvs.any fun kv => decide (kv.1 = k)) = (ws.any fun kv => decide (kv.1 = k))
  | [], ws, h => by
    have : ws = [] := by
      cases ws with
      | nil => rfl
      | cons _ _ => cases h.1
    rw [this]; rfl
  | p :: kvs, _, h => by
    obtain ⟨v, rs, rfl, q, t⟩ := rkv_inv h
    rw [List.any_cons, List.any_cons, rkv_any t]
theorem rkv_map {k : Key} {d : D} {v : V} (r : RV K H d v) : ∀ {kvs : List (Key × D)} {ws : List (Key × V)}, RKV K H kvs ws → RKV K H (kvs.map fun kv => if kv.1 = k then (kv.1, d) else kv) (ws.map fun kv => if kv.1 = k then (kv.1, v) else kv)
  | [], ws, h => by
    have : ws = [] := by
      cases ws with
      | nil => rfl
      | cons _ _ => cases h.1
    rw [this]; exact ⟨rfl, .nil⟩
  | p :: kvs, _, h => by
    obtain ⟨u, rs, rfl, q, t⟩ := rkv_inv h
    have ih := rkv_map (k := k) r t
    rw [List.map_cons, List.map_cons]
    by_cases c : p.1 = k
    · rw [if_pos c, if_pos (show (p.1, u).1 = k from c)]
      exact ⟨by rw [List.map_cons, List.map_cons, ih.1], by rw [List.map_cons, List.map_cons]; exact .cons r ih.2⟩
    · rw [if_neg c, if_neg (show ¬ (p.1, u).1 = k from c)]
      exact ⟨by rw [List.map_cons, List.map_cons, ih.1], by rw [List.map_cons, List.map_cons]; exact .cons q ih.2⟩
theorem rkv_put {k : Key} {d : D} {v : V} {kvs : List (Key × D)} {ws : List (Key × V)} (h : RKV K H kvs ws) (r : RV K H d v) : RKV K H (dPutK kvs k d) (putK ws k v) := by
  unfold dPutK putK
  rw [rkv_any h]
  split
  · exact rkv_map r h
  · exact ⟨by rw [List.map_append, List.map_append, h.1]; rfl, by rw [List.map_append, List.map_append]; exact h.2.append (.cons r .nil)⟩
theorem rkv_len {kvs : List (Key × D)} {ws : List (Key × V)} (h : RKV K H kvs ws) : kvs.length = ws.length := by
  have := congrArg List.length h.1
  rwa [List.length_map, List.length_map] at this
end
def mPutD (e o i : MTE) : MTS := fun D' env h => e env h fun d h1 => o env h1 fun x h2 => i env h2 fun y h3 => ∃ a kvs k, x = .ref a ∧ h3 a = some (.dK kvs) ∧ y = keyD k ∧ kvs.length < sizeLine ∧ D'.nx env (up h3 a (.dK (dPutK kvs k d)))
section
variable {X : Cx} {Hb : Hp} {e o i : Expr} {me mo mi : MTE} {pos pos' : Pos}
theorem is_dput (hu : X.A.units + 64 < cLine) (he : IE X Hb e me) (ho : IE X Hb o mo) (hi : IE X Hb i mi) (hs : swapsWith e (some (.Subscript o i pos')) pos.line X.env = pure false := by rfl) : IS X Hb (.Assign [.Subscript o i pos'] e pos) (mPutD me mo mi) := by
  refine is_of (ps_dput (by omega) ho hi he hs) fun D' σ H env h D0 re rh m f => ?_
  refine ⟨env, h, _, re, rh, m, fun d h1 q1 v H1 t1 r1 rv => ?_⟩
  refine ⟨env, h1, _, re.mono t1, r1, q1, fun x h2 q2 vx H2 t2 r2 rx => ?_⟩
  refine ⟨env, h2, _, (re.mono t1).mono t2, r2, q2, fun y h3 q3 vy H3 t3 r3 ry => ?_⟩
  obtain ⟨a, kvs, k, rfl, ea, rfl, lk, q⟩ := q3
  obtain ⟨ws, E, rk⟩ := r3.dK ea
  have rv3 := rv.mono (t2.trans t3)
  have t : TL H3 (upd H3 a (.dK (putK ws k v))) := .put E (fun _ z => by cases z) (fun _ _ z => by cases z)
  have tt := t1.trans (t2.trans (t3.trans t))
  refine ⟨a, _, (rx.mono t3).ref, ?_, f.nx env _ q σ _ tt (re.mono tt) (r3.put t ⟨_, rfl, (rkv_put rk rv3).mono t⟩)⟩
  rw [keyD_rv ry]
  exact DPut.k E (by rw [← rkv_len rk]; exact lk)
end
end M

namespace M
open PySem L2
/-! ### a dict of some pairs, its keys constants -/
def mPairs : List (Key × MTE) → ME → MH → (List (Key × D) → MH → Prop) → Prop
  | [], _, h, Q => Q [] h
  | (k, m) :: r, env, h, Q => m env h fun d h1 => mPairs r env h1 fun ps h2 => Q ((k, d) :: ps) h2
def mDispN (kes : List (Key × MTE)) : MTE := fun env h Q => ∀ p, h p = none → mPairs kes env (up h p (.dK [])) fun ps h2 => h2 p = some (.dK []) ∧ Q (.ref p) (up h2 p (.dK ps))
theorem put_new {k : Key} {v : V} : ∀ {kvs : List (Key × V)}, (∀ p ∈ kvs, p.1 ≠ k) → putK kvs k v = kvs ++ [(k, v)] := fun {kvs} h => by
  unfold putK
  rw [if_neg]
  intro z
  obtain ⟨p, hp, e⟩ := List.any_eq_true.mp z
  exact h p hp (of_decide_eq_true e)
theorem merge_new : ∀ (more kvs : List (Key × V)), (more.map (·.1)).Nodup → (∀ p ∈ kvs, ∀ q ∈ more, p.1 ≠ q.1) → mergeK kvs more = kvs ++ more
  | [], kvs, _, _ => by rw [List.append_nil]; rfl
  | p :: r, kvs, hn, hd => by
    rw [List.map_cons, List.nodup_cons] at hn
    show mergeK (putK kvs p.1 p.2) r = _
    rw [put_new fun q hq => hd q hq p (List.mem_cons_self ..), merge_new r _ hn.2, List.append_assoc]; · rfl
    intro a ha b hb e
    rcases List.mem_append.mp ha with z | z
    · exact hd a z b (List.mem_cons_of_mem _ hb) e
    · rw [List.mem_singleton.mp z] at e
      exact hn.1 (List.mem_map.mpr ⟨b, hb, e.symm⟩)
theorem pairs_lift {K : PySem.W.Frag} {Hb : Hp} : ∀ {kes : List (Key × MTE)} {env : ME} {h : MH} {Q0 : List (Key × D) → MH → Prop} {σ : L2.St} {H : Hp} {Q : List (V × V) → Hp → Prop}, REnv K Hb H env σ → HR K h H → mPairs kes env h Q0 →
    (∀ ps h', Q0 ps h' → ps.map (·.1) = kes.map (·.1) → ∀ ws H', TL H H' → HR K h' H' → RKV K H' ps ws → Q (ws.map fun w => (kV w.1, w.2)) H') → tPairs (kes.map fun p => (tC (kV p.1), lift K Hb p.2)) σ H Q
  | [], env, h, Q0, σ, H, Q, re, rh, m, f => f [] h m rfl [] H (.refl H) rh ⟨rfl, .nil⟩
  | (k, m1) :: r, env, h, Q0, σ, H, Q, re, rh, m, f => by
    show tC (kV k) σ H fun x H1 => lift K Hb m1 σ H1 fun y H2 => tPairs (r.map fun p => (tC (kV p.1), lift K Hb p.2)) σ H2 fun ps H3 => Q ((x, y) :: ps) H3
    refine ⟨env, h, _, re, rh, m, fun d h1 q v H1 t1 r1 rv => ?_⟩
    refine pairs_lift (re.mono t1) r1 q fun ps h2 q2 ek ws H2 t2 r2 rk => ?_
    exact f _ h2 q2 (by rw [List.map_cons, List.map_cons, ek]) ((k, v) :: ws) H2 (t1.trans t2) r2 ⟨by rw [List.map_cons, List.map_cons, rk.1], by rw [List.map_cons, List.map_cons]; exact .cons (rv.mono t2) rk.2⟩
section
variable {X : Cx} {Hb : Hp} {pos : Pos} {keys : List (Option Expr)} {values : List Expr} {kes : List (Key × MTE)}
theorem ie_dispN (h : PPs X pos keys values (kes.map fun p => (tC (kV p.1), lift X.K Hb p.2))) (hn : (kes.map (·.1)).Nodup) (h15 : kes.length ≤ 15) (hall : keys.all (·.isSome) = true) (hl : keys.length = values.length) (h0 : keys ≠ []) (hk : keys.length ≤ 15) : IE X Hb (.Dict keys values pos) (mDispN kes) := by
  refine pe_w (pe_disp h hall hl h0 hk) fun σ H Q ⟨env, h, Q0, re, rh, m, f⟩ => fun p np => ?_
  have t0 : TL H (upd H p (.dK [])) := .new np
  refine pairs_lift (re.mono t0) (rh.new (m := .dK []) np ⟨[], rfl, rfl, .nil⟩) (m p (rh.free np)) fun ps h2 ⟨e, q⟩ ek ws H2 t2 r2 rk => ?_
  obtain ⟨ws0, E, r0⟩ := r2.dK e
  have e0 : ws0 = [] := by
    cases ws0 with
    | nil => rfl
    | cons _ _ => cases r0.1
  subst e0
  refine ⟨E, ws, rfl, ?_, ?_⟩
  · rw [← rkv_len rk]
    have := congrArg List.length ek
    rw [List.length_map, List.length_map] at this
    omega
  · rw [merge_new ws [] (by rw [← rk.1, ek]; exact hn) (by simp), List.nil_append]
    have t3 : TL H2 (upd H2 p (.dK ws)) := .put E (fun _ z => by cases z) (fun _ _ z => by cases z)
    exact f _ _ q _ _ (t0.trans (t2.trans t3)) (r2.put t3 ⟨_, rfl, rk.mono t3⟩) rv_ref
end
end M

namespace L2
open PySem PySem.Spec PyProof PyProof.Rows PySem.SeqAt PySem.W
/-! tuples of ints compared -/
def rGtD (K : PySem.W.Frag) : R2 := fun x y H Q => ∃ ns ms : List Int, Dp K H x (tuD ns) ∧ Dp K H y (tuD ms) ∧ Q (.bl (decide (ms < ns))) H
def rLtD (K : PySem.W.Frag) : R2 := fun x y H Q => ∃ ns ms : List Int, Dp K H x (tuD ns) ∧ Dp K H y (tuD ms) ∧ Q (.bl (decide (ns < ms))) H
section
variable {X : Cx}
theorem op_gtD (hu : X.A.units + 64 < cLine) : OpR X (compareOp .Gt) (rGtD X.K) := by
  intro pins s σ H x y v u Q I rx ry h
  obtain ⟨ns, ms, hd, he, q⟩ := h
  obtain ⟨as, r1⟩ := Dp.reads I _ x v hd rx
  obtain ⟨bs, r2⟩ := Dp.reads I _ y u he ry
  refine gt_data r1 r2 (by rw [alike]; exact alike_ints _ _) (fun z => by cases z) (by have := depth_tup ns; omega) ?_
  rw [dlt_tup]
  exact ⟨.bl _, H, I, rfl, q⟩
theorem op_ltD (hu : X.A.units + 64 < cLine) : OpR X (compareOp .Lt) (rLtD X.K) := by
  intro pins s σ H x y v u Q I rx ry h
  obtain ⟨ns, ms, hd, he, q⟩ := h
  obtain ⟨as, r1⟩ := Dp.reads I _ x v hd rx
  obtain ⟨bs, r2⟩ := Dp.reads I _ y u he ry
  refine lt_data r1 r2 (by rw [alike]; exact alike_ints _ _) (fun z => by cases z) (by have := depth_tup ns; omega) ?_
  rw [dlt_tup]
  exact ⟨.bl _, H, I, rfl, q⟩
end
end L2
namespace M
open PySem L2
def rGtT : MR2 := fun x y h Q => match x, y with
  | .int i, .int j => Q (.bl (decide (j < i))) h
  | .tup xs, .tup ys => ∃ ns ms : List Int, xs = ns.map .int ∧ ys = ms.map .int ∧ Q (.bl (decide (ms < ns))) h
  | _, _ => False
def rLtT : MR2 := fun x y h Q => match x, y with
  | .int i, .int j => Q (.bl (decide (i < j))) h
  | .tup xs, .tup ys => ∃ ns ms : List Int, xs = ns.map .int ∧ ys = ms.map .int ∧ Q (.bl (decide (ns < ms))) h
  | _, _ => False
section
variable {X : Cx}
theorem om_gtT (hu : X.A.units + 64 < cLine) : OpM X (compareOp .Gt) rGtT := by
  refine ⟨_, op_gt.or (op_gtD hu), fun x y h Q0 vx vy H Q q rh rx ry f => ?_⟩
  cases x <;> cases y <;> first | exact q.elim | skip
  · rw [rx.int, ry.int]
    exact .inl ⟨_, _, rfl, rfl, fin_at f q rh rv_bl⟩
  · obtain ⟨ns, ms, rfl, rfl, q⟩ := q
    exact .inr ⟨ns, ms, DP.dp rh (.tup (dps_ints ns)) rx, DP.dp rh (.tup (dps_ints ms)) ry, fin_at f q rh rv_bl⟩
theorem om_ltT (hu : X.A.units + 64 < cLine) : OpM X (compareOp .Lt) rLtT := by
  refine ⟨_, op_lt.or (op_ltD hu), fun x y h Q0 vx vy H Q q rh rx ry f => ?_⟩
  cases x <;> cases y <;> first | exact q.elim | skip
  · rw [rx.int, ry.int]
    exact .inl ⟨_, _, rfl, rfl, fin_at f q rh rv_bl⟩
  · obtain ⟨ns, ms, rfl, rfl, q⟩ := q
    exact .inr ⟨ns, ms, DP.dp rh (.tup (dps_ints ns)) rx, DP.dp rh (.tup (dps_ints ms)) ry, fin_at f q rh rv_bl⟩
section
variable {i j : Int} {h : MH} {Q : MQ} {xs ys : List D}
theorem q_gtT1 : rGtT (.int i) (.int j) h Q = Q (.bl (decide (j < i))) h := rfl
theorem q_gtT2 : rGtT (.tup xs) (.tup ys) h Q = (∃ ns ms : List Int, xs = ns.map .int ∧ ys = ms.map .int ∧ Q (.bl (decide (ms < ns))) h) := rfl
theorem q_ltT1 : rLtT (.int i) (.int j) h Q = Q (.bl (decide (i < j))) h := rfl
theorem q_ltT2 : rLtT (.tup xs) (.tup ys) h Q = (∃ ns ms : List Int, xs = ns.map .int ∧ ys = ms.map .int ∧ Q (.bl (decide (ns < ms))) h) := rfl
end
end
/-- a list, and the empty one -/
theorem eqD_nil {h : MH} {Q : MQ} {a b : Addr} {ds : List D} {ps : List PyData} (ea : h a = some (.lst ds)) (hp : DPs h ds ps) (sp : SeqAt.shaped (.list ps) = true) (eb : h b = some (.lst [])) (q : Q (.bl ds.isEmpty) h) : rEqD (.ref a) (.ref b) h Q := by
  refine ⟨_, _, .lst ea hp, .lst eb .nil, sp, rfl, ?_⟩
  have e : PyData.eqv (.list ps) (.list []) = ds.isEmpty := by
    cases hp with
    | nil => rw [PyData.eqv, PyData.eqvAll]; rfl
    | cons _ _ => rw [PyData.eqv, PyData.eqvAll]; rfl
  rw [e]; exact q
end M

namespace M
open PySem L2
/-! ### dicts: equations for the walk -/
section
variable {a : Addr} {s s2 : Str} {i : Int} {d v : D} {h : MH} {Q : D → MH → Prop} {kvs r : List (Key × D)} {k k2 : Key}
def fDGet (x y : D) (h : MH) (Q : D → MH → Prop) : Prop := ∃ a kvs k d, x = .ref a ∧ h a = some (.dK kvs) ∧ y = keyD k ∧ dV kvs k = some d ∧ Q d h
theorem q_dget {o i : MTE} {env : ME} : mDGet o i env h Q = o env h fun x h1 => i env h1 fun y h2 => fDGet x y h2 Q := rfl
theorem key_str (e : D.str s = keyD k) : k = .inr s := by
  cases k with
  | inl j => cases e
  | inr x => cases e; rfl
theorem key_int (e : D.int i = keyD k) : k = .inl i := by
  cases k with
  | inl j => cases e; rfl
  | inr x => cases e
theorem q_dgetS : fDGet (.ref a) (.str s) h Q = ∃ kvs, h a = some (.dK kvs) ∧ ∃ d, dV kvs (.inr s) = some d ∧ Q d h := by
  refine propext ⟨fun ⟨b, kvs, k, d, e1, e2, e3, e4, q⟩ => ?_, fun ⟨kvs, e, d, e2, q⟩ => ⟨a, kvs, .inr s, d, rfl, e, rfl, e2, q⟩⟩
  cases e1
  rw [key_str e3] at e4
  exact ⟨kvs, e2, d, e4, q⟩
theorem q_dgetI : fDGet (.ref a) (.int i) h Q = ∃ kvs, h a = some (.dK kvs) ∧ ∃ d, dV kvs (.inl i) = some d ∧ Q d h := by
  refine propext ⟨fun ⟨b, kvs, k, d, e1, e2, e3, e4, q⟩ => ?_, fun ⟨kvs, e, d, e2, q⟩ => ⟨a, kvs, .inl i, d, rfl, e, rfl, e2, q⟩⟩
  cases e1
  rw [key_int e3] at e4
  exact ⟨kvs, e2, d, e4, q⟩
theorem dV_cons : dV ((k, v) :: r) k2 = if k = k2 then some v else dV r k2 := by
  unfold dV
  rw [List.find?_cons]
  by_cases c : k = k2
  · rw [if_pos c]; simp [c]
  · rw [if_neg c]; simp [c]
/-- a value put under a key that is there -/
def dSet (kvs : List (Key × D)) (k : Key) (d : D) : List (Key × D) := match kvs with
  | [] => []
  | (k2, v) :: r => (k2, if k2 = k then d else v) :: dSet r k d
theorem dSet_map : ∀ kvs : List (Key × D), (kvs.map fun kv => if kv.1 = k then (kv.1, d) else kv) = dSet kvs k d
  | [] => rfl
  | (k2, v) :: r => by
    rw [List.map_cons, dSet_map r]
    show _ = (k2, if k2 = k then d else v) :: dSet r k d
    by_cases c : k2 = k
    · rw [if_pos c, if_pos (show (k2, v).1 = k from c)]
    · rw [if_neg c, if_neg (show ¬ (k2, v).1 = k from c)]
theorem dPut_in (e : (dV kvs k).isSome = true) : dPutK kvs k d = dSet kvs k d := by
  unfold dPutK
  rw [if_pos, dSet_map]
  obtain ⟨x, hx⟩ := Option.isSome_iff_exists.mp e
  unfold dV at hx
  obtain ⟨p, hp, _⟩ := Option.map_eq_some_iff.mp hx
  exact List.any_eq_true.mpr ⟨p, List.mem_of_find?_eq_some hp, List.find?_some (p := fun kv : Key × D => decide (kv.1 = k)) hp⟩
theorem dSet_nil : dSet [] k d = [] := rfl
theorem dSet_cons : dSet ((k2, v) :: r) k d = (k2, if k2 = k then d else v) :: dSet r k d := rfl
def fPutD (x y d : D) (h : MH) (Q : MH → Prop) : Prop := ∃ a kvs k, x = .ref a ∧ h a = some (.dK kvs) ∧ y = keyD k ∧ kvs.length < sizeLine ∧ Q (up h a (.dK (dPutK kvs k d)))
theorem putD_ {e o i : MTE} {D' : MEnds} {env : ME} (q : e env h fun d h1 => o env h1 fun x h2 => i env h2 fun y h3 => fPutD x y d h3 fun h4 => D'.nx env h4) : mPutD e o i D' env h := q
/-- a text key that is there -/
theorem q_putS {Q : MH → Prop} : fPutD (.ref a) (.str s) d h Q = ∃ kvs, h a = some (.dK kvs) ∧ kvs.length < sizeLine ∧ Q (up h a (.dK (dPutK kvs (.inr s) d))) := by
  refine propext ⟨fun ⟨b, kvs, k, e1, e2, e3, e4, q⟩ => ?_, fun ⟨kvs, e, l, q⟩ => ⟨a, kvs, .inr s, rfl, e, rfl, l, q⟩⟩
  cases e1
  rw [key_str e3] at q
  exact ⟨kvs, e2, e4, q⟩
theorem q_putI {Q : MH → Prop} : fPutD (.ref a) (.int i) d h Q = ∃ kvs, h a = some (.dK kvs) ∧ kvs.length < sizeLine ∧ Q (up h a (.dK (dPutK kvs (.inl i) d))) := by
  refine propext ⟨fun ⟨b, kvs, k, e1, e2, e3, e4, q⟩ => ?_, fun ⟨kvs, e, l, q⟩ => ⟨a, kvs, .inl i, rfl, e, rfl, l, q⟩⟩
  cases e1
  rw [key_int e3] at q
  exact ⟨kvs, e2, e4, q⟩
end
/-! texts as keys: unlike -/
theorem kn_cells_at : (Str.ofString "cells" = Str.ofString "at") = False := eq_false (by decide +kernel)
theorem kn_cells_digits : (Str.ofString "cells" = Str.ofString "digits") = False := eq_false (by decide +kernel)
theorem kn_cells_turn : (Str.ofString "cells" = Str.ofString "turn") = False := eq_false (by decide +kernel)
theorem kn_at_cells : (Str.ofString "at" = Str.ofString "cells") = False := eq_false (by decide +kernel)
theorem kn_at_digits : (Str.ofString "at" = Str.ofString "digits") = False := eq_false (by decide +kernel)
theorem kn_at_turn : (Str.ofString "at" = Str.ofString "turn") = False := eq_false (by decide +kernel)
theorem kn_digits_cells : (Str.ofString "digits" = Str.ofString "cells") = False := eq_false (by decide +kernel)
theorem kn_digits_at : (Str.ofString "digits" = Str.ofString "at") = False := eq_false (by decide +kernel)
theorem kn_digits_turn : (Str.ofString "digits" = Str.ofString "turn") = False := eq_false (by decide +kernel)
theorem kn_turn_cells : (Str.ofString "turn" = Str.ofString "cells") = False := eq_false (by decide +kernel)
theorem kn_turn_at : (Str.ofString "turn" = Str.ofString "at") = False := eq_false (by decide +kernel)
theorem kn_turn_digits : (Str.ofString "turn" = Str.ofString "digits") = False := eq_false (by decide +kernel)
end M

namespace M
open PySem L2
/-! ### plain data (None, ints, tuples of these) compared -/
def Pu : Nat → D → Prop
  | 0, _ => False
  | n + 1, d => match d with
    | .non => True
    | .int _ => True
    | .tup ds => ∀ x ∈ ds, Pu n x
    | _ => False
/-- what holds of plain data d: it is p -/
structure Pd (h : MH) (n : Nat) (d : D) (p : PyData) : Prop where
  dp : DP h d p
  lay : p.canLay0 = true
  dep : p.depth ≤ n
theorem pu_dps {h : MH} {n : Nat} (ih : ∀ d, Pu n d → ∃ p, DP h d p ∧ p.canLay0 = true ∧ p.depth ≤ n) : ∀ ds : List D, (∀ x ∈ ds, Pu n x) → ∃ ps, DPs h ds ps ∧ PyData.canLayAll0 ps = true ∧ PyData.depthAll ps ≤ n
  | [], _ => ⟨[], .nil, rfl, by rw [PyData.depthAll]; omega⟩
  | d :: ds, q => by
    obtain ⟨p, a1, a2, a3⟩ := ih d (q d (List.mem_cons_self ..))
    obtain ⟨ps, b1, b2, b3⟩ := pu_dps ih ds fun x hx => q x (List.mem_cons_of_mem _ hx)
    exact ⟨p :: ps, .cons a1 b1, by rw [PyData.canLayAll0, a2, b2]; rfl, by rw [PyData.depthAll]; omega⟩
theorem pu_dp {h : MH} : ∀ (n : Nat) (d : D), Pu n d → ∃ p, DP h d p ∧ p.canLay0 = true ∧ p.depth ≤ n
  | 0, _, q => q.elim
  | n + 1, d, q => by
    cases d with
    | non => exact ⟨_, .non, rfl, by rw [PyData.depth]; omega⟩
    | int i => exact ⟨_, .int i, rfl, by rw [PyData.depth]; omega⟩
    | tup ds =>
      obtain ⟨ps, b1, b2, b3⟩ := pu_dps (pu_dp n) ds q
      exact ⟨_, .tup b1, by rw [PyData.canLay0]; exact b2, by rw [PyData.depth]; omega⟩
    | bl _ => exact q.elim
    | str _ => exact q.elim
    | rl _ => exact q.elim
    | ref _ => exact q.elim
theorem pu_eqvs {h : MH} {n : Nat} (ih : ∀ d e p q, Pu n d → Pu n e → DP h d p → DP h e q → (PyData.eqv p q = true ↔ d = e)) : ∀ (ds es : List D) (ps qs : List PyData), (∀ x ∈ ds, Pu n x) → (∀ x ∈ es, Pu n x) → DPs h ds ps → DPs h es qs → (PyData.eqvAll ps qs = true ↔ ds = es)
  | [], [], _, _, _, _, .nil, .nil => by simp [PyData.eqvAll]
  | [], _ :: _, _, _, _, _, .nil, .cons _ _ => by simp [PyData.eqvAll]
  | _ :: _, [], _, _, _, _, .cons _ _, .nil => by simp [PyData.eqvAll]
  | d :: ds, e :: es, _, _, p1, p2, .cons a1 a2, .cons b1 b2 => by
    rw [PyData.eqvAll, Bool.and_eq_true, ih d e _ _ (p1 d (List.mem_cons_self ..)) (p2 e (List.mem_cons_self ..)) a1 b1, pu_eqvs ih ds es _ _ (fun x hx => p1 x (List.mem_cons_of_mem _ hx)) (fun x hx => p2 x (List.mem_cons_of_mem _ hx)) a2 b2, List.cons.injEq]
theorem pu_eqv {h : MH} : ∀ (n : Nat) (d e : D) (p q : PyData), Pu n d → Pu n e → DP h d p → DP h e q → (PyData.eqv p q = true ↔ d = e)
  | 0, _, _, _, _, q, _, _, _ => q.elim
  | n + 1, d, e, p, q, pd, pe, a, b => by
    cases d with
    | non =>
      cases a
      cases e with
      | non => cases b; simp [PyData.eqv]
      | int _ => cases b; simp [PyData.eqv]
      | tup _ => cases b; simp [PyData.eqv]
      | bl _ => exact pe.elim
      | str _ => exact pe.elim
      | rl _ => exact pe.elim
      | ref _ => exact pe.elim
    | int i =>
      cases a
      cases e with
      | non => cases b; simp [PyData.eqv]
      | int _ => cases b; simp [PyData.eqv]
      | tup _ => cases b; simp [PyData.eqv]
      | bl _ => exact pe.elim
      | str _ => exact pe.elim
      | rl _ => exact pe.elim
      | ref _ => exact pe.elim
    | tup ds =>
      cases a with | tup a =>
      cases e with
      | non => cases b; simp [PyData.eqv]
      | int _ => cases b; simp [PyData.eqv]
      | tup es =>
        cases b with | tup b =>
        rw [PyData.eqv, pu_eqvs (pu_eqv n) ds es _ _ pd pe a b, D.tup.injEq]
      | bl _ => exact pe.elim
      | str _ => exact pe.elim
      | rl _ => exact pe.elim
      | ref _ => exact pe.elim
    | bl _ => exact pd.elim
    | str _ => exact pd.elim
    | rl _ => exact pd.elim
    | ref _ => exact pd.elim
theorem shaped_of {p : PyData} {n : Nat} (l : p.canLay0 = true) (d : p.depth ≤ n) (hn : n ≤ 64) : SeqAt.shaped p = true := by
  unfold SeqAt.shaped
  rw [Bool.and_eq_true, decide_eq_true_eq]
  exact ⟨l, by omega⟩
section
variable {h : MH} {Q : MQ} {a b : Addr} {x y : D} {xs ys : List D}
theorem eqD_pu (px : Pu 9 x) (py : Pu 9 y) (q : ∀ b, (b = true ↔ x = y) → Q (.bl b) h) : rEqD x y h Q := by
  obtain ⟨p1, a1, a2, a3⟩ := pu_dp (h := h) 9 x px
  obtain ⟨p2, b1, b2, b3⟩ := pu_dp (h := h) 9 y py
  exact ⟨_, _, a1, b1, shaped_of a2 a3 (by decide), shaped_of b2 b3 (by decide), q _ (pu_eqv 9 x y _ _ px py a1 b1)⟩
theorem neD_pu (px : Pu 9 x) (py : Pu 9 y) (q : ∀ b, (b = true ↔ x ≠ y) → Q (.bl b) h) : rNeD x y h Q := by
  obtain ⟨p1, a1, a2, a3⟩ := pu_dp (h := h) 9 x px
  obtain ⟨p2, b1, b2, b3⟩ := pu_dp (h := h) 9 y py
  refine ⟨_, _, a1, b1, shaped_of a2 a3 (by decide), shaped_of b2 b3 (by decide), q _ ?_⟩
  rw [Bool.not_eq_true', ← Bool.not_eq_true, pu_eqv 9 x y _ _ px py a1 b1]
theorem dps_pu (px : ∀ x ∈ xs, Pu 9 x) : ∃ ps, DPs h xs ps ∧ SeqAt.shaped (.list ps) = true ∧ SeqAt.shaped (.tuple ps) = true := by
  obtain ⟨ps, b1, b2, b3⟩ := pu_dps (pu_dp (h := h) 9) xs px
  exact ⟨ps, b1, shaped_of (n := 10) (by rw [PyData.canLay0]; exact b2) (by rw [PyData.depth]; omega) (by decide), shaped_of (n := 10) (by rw [PyData.canLay0]; exact b2) (by rw [PyData.depth]; omega) (by decide)⟩
theorem eqD_pl (ea : h a = some (.lst xs)) (eb : h b = some (.lst ys)) (px : ∀ x ∈ xs, Pu 9 x) (py : ∀ x ∈ ys, Pu 9 x) (q : ∀ b, (b = true ↔ xs = ys) → Q (.bl b) h) : rEqD (.ref a) (.ref b) h Q := by
  obtain ⟨p1, a1, a2, _⟩ := dps_pu (h := h) px
  obtain ⟨p2, b1, b2, _⟩ := dps_pu (h := h) py
  refine ⟨_, _, .lst ea a1, .lst eb b1, a2, b2, q _ ?_⟩
  rw [PyData.eqv]
  exact pu_eqvs (pu_eqv 9) xs ys _ _ px py a1 b1
end
end M

namespace M
open PySem L2
/-! ### a constant tuple of the text -/
def gcTup {K : PySem.W.Frag} {mg : Str → Option Value} {x : Str} {T : Addr} {o : Obj} {its : Array Value} {n : Nat} {ds : List D} {vs : List V} (e : mg x = some (.ref T)) (lk : K.lookup T = some o) (hc : o.cls = .type "tuple") (hd : o.data = .seq its n) (hz : its.size ≤ sizeLine) (r : Vals vs its.toList) (rv : ∀ H, RVs K H ds vs) : Gc K mg x (.tup ds) :=
  ⟨.ref T, .ref T, e, rfl, fun H => rv_tup (.inr ⟨o, its, n, lk, hc, hd, hz, r⟩) (rv H)⟩
theorem rvs_nil {K : PySem.W.Frag} {H : Hp} : RVs K H [] [] := by simp only [RVs]
/-- a comprehension whose elements are new things -/
theorem lcR {env : ME} {e : MTE} {t : Tg} {S : MSrc} {h1 : MH} {Q : MQ} {vs : List Nat} (obj : Nat → MO) (ok : ∀ h', Fr [] h1 h' → S.ok h') (hz : S.n ≤ 100000)
    (turn : ∀ k h', k < S.n → Fr [] h1 h' → ∃ env2, asg t (S.item k) (mwipe env vs) = some env2 ∧ ∀ R : MQ, (∀ b h4, Fr [] h' h4 → h' b = none → h4 b = some (obj k) → R (.ref b) h4) → e env2 h' R)
    (fin : ∀ p h' (as : List Addr), Fr [] h1 h' → h1 p = none → h' p = some (.lst (as.map .ref)) → as.length = S.n → (∀ (n : Nat) (b : Addr), as[n]? = some b → h' b = some (obj n)) → Q (.ref p) h') : LcW S t mYes e vs env h1 Q := by
  intro p np
  refine ⟨fun k h' => Fr [] h1 h' ∧ ∃ as : List Addr, h' p = some (.lst (as.map .ref)) ∧ as.length = k ∧ ∀ (n : Nat) (b : Addr), as[n]? = some b → h' b = some (obj n) ∧ b ≠ p, ⟨.new np, [], up_same, rfl, by simp⟩, ?_⟩
  rintro k h' hk ⟨fr, as, ep, la, ha⟩
  refine ⟨ok h' fr, fun hl => ?_, fun e => fin p h' as fr np ep (la.trans e) fun n b hb => (ha n b hb).1⟩
  obtain ⟨env2, ea, ht⟩ := turn k h' hl fr
  refine ⟨env2, ea, ?_⟩
  show e env2 h' _
  refine ht _ fun b h4 f4 nb eb => ?_
  have e4 := f4.at0 ep
  have bp : b ≠ p := fun z => by rw [z, ep] at nb; cases nb
  refine ⟨_, e4, by rw [List.length_map, la, sizeLine_eq]; omega, ?_, as ++ [b], by rw [up_same, List.map_append]; rfl, by rw [List.length_append, la]; rfl, fun n c hc => ?_⟩
  · intro c o nc ec
    rw [up_ne (ne_of ec np)]
    exact f4.at0 (fr.at0 ec)
  · by_cases cn : n < k
    · rw [List.getElem?_append_left (by omega)] at hc
      obtain ⟨x1, x2⟩ := ha n c hc
      exact ⟨by rw [up_ne x2]; exact f4.at0 x1, x2⟩
    · rw [List.getElem?_append_right (by omega), la] at hc
      have e0 : n - k = 0 := by
        cases hz : n - k with
        | zero => rfl
        | succ m => rw [hz] at hc; simp at hc
      rw [e0] at hc
      simp at hc
      subst hc
      have : n = k := by omega
      subst this
      exact ⟨by rw [up_ne bp]; exact eb, bp⟩
theorem Fr.over {S : List Addr} {h h2 : MH} {p : Addr} {o : MO} (n : h p = none) (f : Fr S h h2) : Fr S h (up h2 p o) := fun b u nb e => by rw [up_ne (ne_of e n)]; exact f b u nb e
/-- displays of constants are constants -/
theorem tup2_C {a b : D} : mTup (mCons (mC a) (mCons (mC b) mNil)) = mC (.tup [a, b]) := by
  funext env h Q
  simp [mTup, mCons, mC, mNil, sizeLine_eq]
theorem tup3_C {a b c : D} : mTup (mCons (mC a) (mCons (mC b) (mCons (mC c) mNil))) = mC (.tup [a, b, c]) := by
  funext env h Q
  simp [mTup, mCons, mC, mNil, sizeLine_eq]
/-- a display of constants: the list -/
def mLC (ds : List D) : MTE := fun _ h Q => ∀ p, h p = none → Q (.ref p) (up h p (.lst ds))
theorem lst6_C {a b c d e f : D} : mLst (mCons (mC a) (mCons (mC b) (mCons (mC c) (mCons (mC d) (mCons (mC e) (mCons (mC f) mNil)))))) = mLC [a, b, c, d, e, f] := by
  funext env h Q
  simp [mLst, mCons, mC, mNil, sizeLine_eq, mLC]
theorem lstN_C : ∀ {ds : List D}, ds.length ≤ 100 → mLst (ds.foldr (fun d m => mCons (mC d) m) mNil) = mLC ds := by
  intro ds hl
  have key : ∀ (ds : List D) (env : ME) (h : MH) (Q : List D → MH → Prop), (ds.foldr (fun d m => mCons (mC d) m) mNil) env h Q = Q ds h := fun ds => by
    induction ds with
    | nil => intro env h Q; rfl
    | cons d ds ih =>
      intro env h Q
      show (ds.foldr (fun d m => mCons (mC d) m) mNil) env h (fun xs h2 => Q (d :: xs) h2) = _
      rw [ih]
  funext env h Q
  show (ds.foldr (fun d m => mCons (mC d) m) mNil) env h (fun xs h1 => xs.length ≤ sizeLine ∧ ∀ p, h1 p = none → Q (.ref p) (up h1 p (.lst xs))) = _
  rw [key]
  have : ds.length ≤ sizeLine := by rw [sizeLine_eq]; omega
  simp only [this, true_and]
  rfl
end M

namespace L2
open PySem PySem.Spec PyProof PyProof.Rows PySem.SeqAt PySem.W
/-! ### {(a, b): v}: a dict of one pair, its key a tuple -/
def tDisp1T (ta : TA) (tv : TE) : TE := fun σ H Q => ∀ p, H p = none → tTup ta σ (upd H p (.dT [])) fun x H1 => tv σ H1 fun y H2 =>
  ∃ (k : List Key) (q : Addr), x = .ref q ∧ H2 p = some (.dT []) ∧ H2 q = some (.tup (k.map kV)) ∧ Q (.ref p) (upd H2 p (.dT [(k, y)]))
theorem pe_disp1T {X : Cx} {pos p2 : Pos} {es : List Expr} {x1} {v : Expr} {ta : TA} {tv : TE} (hu : X.A.units + 64 < cLine) (ha : PA X es ta) (hv : PE X v tv) : PE X (.Dict [some (.Tuple es x1 p2)] [v] pos) (tDisp1T ta tv) := by
  refine ⟨fun pins s σ H Q I q => ?_⟩
  have hn := I.hok.fresh (Nat.le_refl s.heap.objs.size)
  have I1 := I.laid (a := s.heap.objs.size) (o := .dT []) (h' := s.heap.push { cls := .type "dict", data := .dict #[] }) (t' := s.toks) (fun _ _ q => Heap.get?_push_of_some _ q) (Nat.le_refl _) (dt_empty s.heap I.big)
  refine wpAny_Dict_any rfl rfl (by simp) (by simp) (thn ((pps_cons (pe_tup ha) hv pps_nil).run pins _ σ _ (fun ps H' => match ps with
    | [(x, y)] => ∃ (k : List Key) (q : Addr), x = .ref q ∧ H' s.heap.objs.size = some (.dT []) ∧ H' q = some (.tup (k.map kV)) ∧ Q (.ref s.heap.objs.size) (upd H' s.heap.objs.size (.dT [(k, y)]))
    | _ => False) I1 (q _ hn)) fun ws s2 ⟨ps, H2, I2, rel, q2⟩ => ?_)
  rcases ps with _ | ⟨⟨x, y⟩, _ | ⟨_, _⟩⟩
  · exact q2.elim
  · cases rel with
    | @cons _ b as bs h t =>
      cases t
      obtain ⟨k, c, ex, e, eb, q3⟩ := q2
      obtain ⟨u, w'⟩ := b
      obtain ⟨ru, rw'⟩ := h
      subst ex
      cases (show u = Value.ref c from ru)
      obtain ⟨z, hd, xs, rel, dd⟩ := dt_of I2.hok e
      cases rel
      unfold PySem.storeAll
      rw [List.forIn_cons]
      refine wpAny_bind (wpAny_bind (wpAny_dictSet_heap (hsz := Nat.zero_le _) (show X.A.units < cLine by omega) (key_of I2.hok eb) dd fun h' dd' hs => wpAny_pure ?_))
      show wpAny _ _ (forIn [] PUnit.unit _) _ _ _
      rw [List.forIn_nil]
      refine wpAny_pure ⟨.ref s.heap.objs.size, _, ?_, rfl, q3⟩
      obtain ⟨o, es', ep, hq, h2, h3, h4, _, h5⟩ := dd'
      refine d_write I2 (by rw [e]; exact True.intro) hs ⟨o, hq⟩ ⟨by show 1 ≤ sizeLine; decide, hd, _, (KT.put (kvs := []) (xs := []) .nil k eb rw').keeps fun c ys ec => ?_, o, es', ep, hq, h2, h3, h4, h5⟩
      rw [upd_ne (ne_of ec e (fun z => nomatch z))]
      exact ec
  · exact q2.elim
end L2
namespace M
open PySem L2
/-! ### dicts with keys of tuples -/
section
variable {κ : Type} [DecidableEq κ]
def dG (kvs : List (κ × D)) (k : κ) : Option D := (kvs.find? fun kv => decide (kv.1 = k)).map (·.2)
def dPutG (kvs : List (κ × D)) (k : κ) (v : D) : List (κ × D) :=
  if (kvs.any fun kv => decide (kv.1 = k)) = true then kvs.map (fun kv => if kv.1 = k then (kv.1, v) else kv) else kvs ++ [(k, v)]
variable {K : PySem.W.Frag} {H : Hp}
theorem rkvG_inv {p : κ × D} {kvs : List (κ × D)} {ws : List (κ × V)} (h : RKV K H (p :: kvs) ws) : ∃ v rs, ws = (p.1, v) :: rs ∧ RV K H p.2 v ∧ RKV K H kvs rs := by
  obtain ⟨h1, h2⟩ := h
  cases ws with
  | nil => cases h1
  | cons w rs =>
    rw [List.map_cons, List.map_cons] at h1
    injection h1 with a b
    rw [List.map_cons] at h2
    obtain ⟨v, r, e, q, t⟩ := h2.inv
    rw [List.map_cons] at e
    injection e with e1 e2
    subst e1 e2
    refine ⟨w.2, rs, ?_, q, b, t⟩
    rw [a]
theorem rkvG_nil {ws : List (κ × V)} (h : RKV K H ([] : List (κ × D)) ws) : ws = [] := by
  cases ws with
  | nil => rfl
  | cons _ _ => cases h.1
theorem rkvG_get {k : κ} : ∀ {kvs : List (κ × D)} {ws : List (κ × V)}, RKV K H kvs ws → (dG kvs k = none ∧ valV ws k = none) ∨ ∃ d v, dG kvs k = some d ∧ valV ws k = some v ∧ RV K H d v
  | [], ws, h => by rw [rkvG_nil h]; exact .inl ⟨rfl, rfl⟩
  | p :: kvs, _, h => by
    obtain ⟨v, rs, rfl, q, t⟩ := rkvG_inv h
    by_cases c : p.1 = k
    · exact .inr ⟨p.2, v, by simp [dG, List.find?_cons, c], by rw [valV_pos (p := (p.1, v)) c], q⟩
    · have e' : dG (p :: kvs) k = dG kvs k := by simp [dG, List.find?_cons, c]
      rw [e', valV_neg (p := (p.1, v)) c]
      exact rkvG_get t
theorem rkvG_any {k : κ} : ∀ {kvs : List (κ × D)} {ws : List (κ × V)}, RKV K H kvs ws → (kvs.any fun kv => decide (kv.1 = k)) = (ws.any fun kv => decide (kv.1 = k))
  | [], ws, h => by rw [rkvG_nil h]; rfl
  | p :: kvs, _, h => by
    obtain ⟨v, rs, rfl, q, t⟩ := rkvG_inv h
    rw [List.any_cons, List.any_cons, rkvG_any t]
theorem rkvG_map {k : κ} {d : D} {v : V} (r : RV K H d v) : ∀ {kvs : List (κ × D)} {ws : List (κ × V)}, RKV K H kvs ws → RKV K H (kvs.map fun kv => if kv.1 = k then (kv.1, d) else kv) (ws.map fun kv => if kv.1 = k then (kv.1, v) else kv)
  | [], ws, h => by rw [rkvG_nil h]; exact ⟨rfl, .nil⟩
  | p :: kvs, _, h => by
    obtain ⟨u, rs, rfl, q, t⟩ := rkvG_inv h
    have ih := rkvG_map (k := k) r t
    rw [List.map_cons, List.map_cons]
    by_cases c : p.1 = k
    · rw [if_pos c, if_pos (show (p.1, u).1 = k from c)]
      exact ⟨by rw [List.map_cons, List.map_cons, ih.1], by rw [List.map_cons, List.map_cons]; exact .cons r ih.2⟩
    · rw [if_neg c, if_neg (show ¬ (p.1, u).1 = k from c)]
      exact ⟨by rw [List.map_cons, List.map_cons, ih.1], by rw [List.map_cons, List.map_cons]; exact .cons q ih.2⟩
theorem rkvG_put {k : κ} {d : D} {v : V} {kvs : List (κ × D)} {ws : List (κ × V)} (h : RKV K H kvs ws) (r : RV K H d v) : RKV K H (dPutG kvs k d) (putK ws k v) := by
  unfold dPutG putK
  rw [rkvG_any h]
  split
  · exact rkvG_map r h
  · exact ⟨by rw [List.map_append, List.map_append, h.1]; rfl, by rw [List.map_append, List.map_append]; exact h.2.append (.cons r .nil)⟩
theorem rkvG_len {kvs : List (κ × D)} {ws : List (κ × V)} (h : RKV K H kvs ws) : kvs.length = ws.length := by
  have := congrArg List.length h.1
  rwa [List.length_map, List.length_map] at this
end
def keyT (k : List Key) : D := .tup (k.map keyD)
section
variable {K : PySem.W.Frag} {H : Hp}
theorem rvs_keys : ∀ {ks : List Key} {vs : List V}, RVs K H (ks.map keyD) vs → vs = ks.map kV
  | [], vs, h => by simpa only [List.map_nil, RVs] using h
  | k :: ks, vs, h => by
    rw [List.map_cons] at h
    obtain ⟨v, r, rfl, q, t⟩ := h.inv
    rw [keyD_rv q, rvs_keys t]; rfl
theorem rv_key {k : Key} : RV K H (keyD k) (kV k) := by
  cases k with
  | inl i => exact rv_int
  | inr x => exact rv_str
theorem rvs_keys' : ∀ {ks : List Key}, RVs K H (ks.map keyD) (ks.map kV)
  | [] => .nil
  | k :: ks => .cons rv_key rvs_keys'
end
/-- the dict at a, locked or not -/
def isT (h : MH) (a : Addr) (kvs : List (List Key × D)) : Prop := h a = some (.dT kvs) ∨ ∃ ws od, h a = some (.fT kvs ws od)
theorem HR.rdT {K : PySem.W.Frag} {h : MH} {H : Hp} (r : HR K h H) {a : Addr} {kvs : List (List Key × D)} (e : isT h a kvs) : ∃ ws, Rd H a (.dT ws) ∧ RKV K H kvs ws := by
  rcases e with e | ⟨ws, od, e⟩
  · obtain ⟨ws, E, q⟩ := r.dT e; exact ⟨ws, .inl E, q⟩
  · obtain ⟨E, q⟩ := r.fT e; exact ⟨ws, .inr ⟨od, E⟩, q⟩
theorem rd_upd {H : Hp} {a p : Addr} {u : HO} {o : HO} (r : Rd H a u) (n : H p = none) : Rd (upd H p o) a u := by
  rcases r with e | ⟨od, e⟩
  · exact .inl (by rw [upd_ne (L2.ne_of_none e n)]; exact e)
  · exact .inr ⟨od, by rw [upd_ne (L2.ne_of_none e n)]; exact e⟩
/-- d[(e1, ..)] -/
def mDGetT (o : MTE) (ts : MTA) : MTE := fun env h Q => o env h fun x h1 => ts env h1 fun ds h2 => ds.length ≤ 16 ∧ ∃ a kvs k d, x = .ref a ∧ isT h2 a kvs ∧ ds = List.map keyD k ∧ dG kvs k = some d ∧ Q d h2
/-- d.get((e1, ..), f) -/
def mDGet2T (o : MTE) (ts : MTA) (f : MTE) : MTE := fun env h Q => o env h fun x h1 => ∃ a, x = .ref a ∧ (∃ kvs, isT h1 a kvs) ∧ ts env h1 fun ds h2 => ds.length ≤ 16 ∧ f env h2 fun z h3 => ∃ kvs k, isT h3 a kvs ∧ ds = List.map keyD k ∧ Q ((dG kvs k).getD z) h3
/-- d[(e1, ..)] = e -/
def mPutDT (e o : MTE) (ts : MTA) : MTS := fun D' env h => e env h fun d h1 => o env h1 fun x h2 => ts env h2 fun ds h3 => ds.length ≤ 16 ∧ ∃ a kvs k, x = .ref a ∧ h3 a = some (.dT kvs) ∧ ds = List.map keyD k ∧ kvs.length < sizeLine ∧ D'.nx env (up h3 a (.dT (dPutG kvs k d)))
/-- {}, {(e1, ..): f} -/
def mDisp0T : MTE := fun _ h Q => ∀ p, h p = none → Q (.ref p) (up h p (.dT []))
def mDisp1T (ts : MTA) (f : MTE) : MTE := fun env h Q => ∀ p, h p = none → ts env (up h p (.dT [])) fun ds h1 => ds.length ≤ 16 ∧ f env h1 fun d h2 => ∃ k, ds = List.map keyD k ∧ h2 p = some (.dT []) ∧ Q (.ref p) (up h2 p (.dT [(k, d)]))
section
variable {X : Cx} {Hb : Hp} {o e f : Expr} {es : List Expr} {mo me mf : MTE} {ms : MTA} {pos pos' p2 apos cpos : Pos} {x1 : Nat}
theorem le16 {n : Nat} (h : n ≤ 16) : n ≤ sizeLine := by rw [sizeLine_eq]; omega
theorem ie_dgetT {y1} (hu : X.A.units + 64 < cLine) (ho : IE X Hb o mo) (hi : IA X Hb es ms) (hs : NoSl (.Tuple es y1 p2)) : IE X Hb (.Subscript o (.Tuple es y1 p2) pos) (mDGetT mo ms) := by
  refine pe_w (pe_dget (by omega) ho (pe_tup hi) hs) fun σ H Q ⟨env, h, Q0, re, rh, m, f⟩ => ?_
  refine ⟨env, h, _, re, rh, m, fun x h1 q1 vx H1 t1 r1 rx => ?_⟩
  refine ⟨env, h1, _, re.mono t1, r1, q1, fun ds h2 q vs H2 t2 r2 rs => ?_⟩
  obtain ⟨l16, a, kvs, k, d, rfl, e, rfl, ed, q⟩ := q
  have ev := rvs_keys rs
  subst ev
  refine ⟨by rw [List.length_map] at *; exact le16 l16, fun p np => ?_⟩
  obtain ⟨ws, E, rk⟩ := r2.rdT e
  rcases rkvG_get (k := k) rk with ⟨c, _⟩ | ⟨d', v, c, ev, rv⟩
  · rw [c] at ed; cases ed
  · rw [c] at ed; cases ed
    have t3 : TL H2 (upd H2 p (.tup (k.map kV))) := .new np
    refine ⟨a, v, (rx.mono t2).ref, .inr ⟨ws, k, p, rd_upd E np, rfl, upd_same, ev.symm⟩, f _ h2 q v _ (t1.trans (t2.trans t3)) (r2.skip np) (rv.mono t3)⟩
theorem ie_dget2T {y1} (hu : X.A.units + 64 < cLine) (ho : IE X Hb o mo) (hi : IA X Hb es ms) (hf : IE X Hb f mf) (m2 : M2 X o "get" apos (.Tuple es y1 p2) f cpos) : IE X Hb (.Call (.Attribute o "get" apos) [.Tuple es y1 p2, f] [] cpos) (mDGet2T mo ms mf) := by
  refine pe_w (pe_dget2 (by omega) ho (pe_tup hi) hf m2) fun σ H Q ⟨env, h, Q0, re, rh, m, f⟩ => ?_
  refine ⟨env, h, _, re, rh, m, fun x h1 q1 vx H1 t1 r1 rx => ?_⟩
  obtain ⟨a, rfl, ⟨kvs0, e0⟩, q1⟩ := q1
  obtain ⟨ws0, E0, _⟩ := r1.rdT e0
  refine ⟨a, rx.ref, .inr ⟨ws0, E0⟩, env, h1, _, re.mono t1, r1, q1, fun ds h2 q vs H2 t2 r2 rs => ?_⟩
  obtain ⟨l16, q⟩ := q
  refine ⟨by rw [← rs.length]; exact le16 l16, fun p np => ?_⟩
  have t3 : TL H2 (upd H2 p (.tup vs)) := .new np
  refine ⟨env, h2, _, (re.mono t1).mono (t2.trans t3), r2.skip np, q, fun z h3 q3 vz H3 t4 r4 rz => ?_⟩
  obtain ⟨kvs, k, e, rfl, q9⟩ := q3
  have ev := rvs_keys rs
  subst ev
  obtain ⟨ws, E, rk⟩ := r4.rdT e
  have eb : H3 p = some (.tup (k.map kV)) := t4.1 _ _ upd_same
  have tt := t1.trans (t2.trans (t3.trans t4))
  rcases rkvG_get (k := k) rk with ⟨c, ev⟩ | ⟨d', v, c, ev, rv⟩
  · refine ⟨none, .inr ⟨ws, k, p, E, rfl, eb, ev.symm⟩, f _ h3 q9 _ H3 tt r4 ?_⟩
    rw [c]; exact rz
  · refine ⟨some v, .inr ⟨ws, k, p, E, rfl, eb, ev.symm⟩, f _ h3 q9 _ H3 tt r4 ?_⟩
    rw [c]; exact rv
theorem is_dputT {y1} (hu : X.A.units + 64 < cLine) (he : IE X Hb e me) (ho : IE X Hb o mo) (hi : IA X Hb es ms) (hs : swapsWith e (some (.Subscript o (.Tuple es y1 p2) pos')) pos.line X.env = pure false := by rfl) : IS X Hb (.Assign [.Subscript o (.Tuple es y1 p2) pos'] e pos) (mPutDT me mo ms) := by
  refine is_of (ps_dput (by omega) ho (pe_tup hi) he hs) fun D' σ H env h D0 re rh m f => ?_
  refine ⟨env, h, _, re, rh, m, fun d h1 q1 v H1 t1 r1 rv => ?_⟩
  refine ⟨env, h1, _, re.mono t1, r1, q1, fun x h2 q2 vx H2 t2 r2 rx => ?_⟩
  refine ⟨env, h2, _, (re.mono t1).mono t2, r2, q2, fun ds h3 q3 vs H3 t3 r3 rs => ?_⟩
  obtain ⟨l16, a, kvs, k, rfl, ea, rfl, lk, q⟩ := q3
  have ev := rvs_keys rs
  subst ev
  refine ⟨by rw [List.length_map] at *; exact le16 l16, fun p np => ?_⟩
  obtain ⟨ws, E, rk⟩ := r3.dT ea
  have t4 : TL H3 (upd H3 p (.tup (k.map kV))) := .new np
  have E4 : (upd H3 p (.tup (k.map kV))) a = some (.dT ws) := by rw [upd_ne (L2.ne_of_none E np)]; exact E
  have rv4 := rv.mono (t2.trans (t3.trans t4))
  have t5 : TL (upd H3 p (.tup (k.map kV))) (upd (upd H3 p (.tup (k.map kV))) a (.dT (putK ws k v))) := .put E4 (fun _ z => by cases z) (fun _ _ z => by cases z)
  have tt := t1.trans (t2.trans (t3.trans (t4.trans t5)))
  exact ⟨a, _, (rx.mono t3).ref, DPut.t E4 upd_same (by rw [← rkvG_len rk]; exact lk), f.nx env _ q σ _ tt (re.mono tt) ((r3.skip np).put t5 ⟨_, rfl, (rkvG_put (rk.mono t4) rv4).mono t5⟩)⟩
theorem ie_disp0T : IE X Hb (.Dict [] [] pos) mDisp0T := by
  refine pe_w pe_dnewT fun σ H Q ⟨env, h, Q0, re, rh, m, f⟩ => fun p np => ?_
  exact f _ _ (m p (rh.free np)) _ _ (.new np) (rh.new np ⟨[], rfl, rfl, .nil⟩) rv_ref
theorem ie_disp1T {y1} (hu : X.A.units + 64 < cLine) (hi : IA X Hb es ms) (hf : IE X Hb f mf) : IE X Hb (.Dict [some (.Tuple es y1 p2)] [f] pos) (mDisp1T ms mf) := by
  refine pe_w (pe_disp1T hu hi hf) fun σ H Q ⟨env, h, Q0, re, rh, m, f⟩ => fun p np => ?_
  have t0 : TL H (upd H p (.dT [])) := .new np
  refine ⟨env, _, _, re.mono t0, rh.new (m := .dT []) np ⟨[], rfl, rfl, .nil⟩, m p (rh.free np), fun ds h1 q vs H1 t1 r1 rs => ?_⟩
  obtain ⟨l16, q⟩ := q
  refine ⟨by rw [← rs.length]; exact le16 l16, fun b nb => ?_⟩
  have t2 : TL H1 (upd H1 b (.tup vs)) := .new nb
  refine ⟨env, h1, _, re.mono (t0.trans (t1.trans t2)), r1.skip nb, q, fun d h2 q2 v H2 t3 r3 rv => ?_⟩
  obtain ⟨k, rfl, ep, q⟩ := q2
  have ev := rvs_keys rs
  subst ev
  obtain ⟨ws, E, rk⟩ := r3.dT ep
  have := rkvG_nil rk
  subst this
  have eb : H2 b = some (.tup (k.map kV)) := t3.1 _ _ upd_same
  have t4 : TL H2 (upd H2 p (.dT [(k, v)])) := .put E (fun _ z => by cases z) (fun _ _ z => by cases z)
  refine ⟨k, b, rfl, E, eb, f _ _ q _ _ (t0.trans (t1.trans (t2.trans (t3.trans t4)))) (r3.put t4 ⟨[(k, v)], rfl, rfl, ?_⟩) rv_ref⟩
  exact .cons (rv.mono t4) .nil
end
/-! ### for .. in d, d locked meanwhile -/
def srcT (d : Addr) (kvs : List (List Key × D)) (ws : List (List Key × V)) (od : Obj) : MSrc := ⟨kvs.length, fun i => match kvs[i]? with
  | some kv => keyT kv.1
  | none => .non, fun h' => h' d = some (.fT kvs ws od)⟩
def mKeysF (n : Nat) : MTI := fun env h R => ∃ d kvs ws od, env[n]? = some (some (.ref d)) ∧ h d = some (.fT kvs ws od) ∧ R (srcT d kvs ws od) h
def mLockT (n : Nat) (m : MTS) : MTS := fun D' env h => ∃ d kvs, env[n]? = some (some (.ref d)) ∧ h d = some (.dT kvs) ∧ ∀ ws od,
  m ⟨fun env' h' => h' d = some (.fT kvs ws od) ∧ D'.nx env' (up h' d (.dT kvs)), fun v h' => h' d = some (.fT kvs ws od) ∧ D'.rt v (up h' d (.dT kvs)), fun env' h' => h' d = some (.fT kvs ws od) ∧ D'.bk env' (up h' d (.dT kvs)), fun env' h' => h' d = some (.fT kvs ws od) ∧ D'.ct env' (up h' d (.dT kvs))⟩ env (up h d (.fT kvs ws od))
section
variable {X : Cx} {Hb : Hp} {tg e : Expr} {n : Nat} {st : Stmt} {m : MTS}
theorem so_T {K : PySem.W.Frag} {H : Hp} {d : Addr} {kvs : List (List Key × D)} {ws : List (List Key × V)} {od : Obj} (rk : RKV K H kvs ws) : SrcOk K H (srcT d kvs ws od) (Itkt d od ws) where
  go := fun i h H' t r ok hi => ⟨(r.fT ok).1, by rw [← rkvG_len (r.fT ok).2]; exact hi⟩
  stop := fun h H' t r ok => ⟨(r.fT ok).1, by rw [← rkvG_len (r.fT ok).2]; exact Nat.le_refl _⟩
  yld := fun i h H' t r ok hi x H2 y => by
    obtain ⟨rfl, k, v, q, e1, rfl, e2⟩ := y
    refine ⟨.refl _, r, ?_⟩
    have hk : (kvs.map (·.1))[i]? = some k := by rw [rk.1, List.getElem?_map, e1]; rfl
    rw [List.getElem?_map] at hk
    obtain ⟨kv, e3, e4⟩ := Option.map_eq_some_iff.mp hk
    show RV K _ (match kvs[i]? with
      | some kv => keyT kv.1
      | none => .non) _
    rw [e3]
    show RV K _ (keyT kv.1) _
    rw [e4]
    exact rv_tup (.of e2) rvs_keys'
theorem ii_keysF (he : IE X Hb e (mVar n)) : II X Hb tg e (mKeysF n) := by
  refine pi_w (pi_keys he) fun σ H R ⟨env, h, Q0, re, rh, ⟨d, kvs, ws, od, en, ed, m⟩, f⟩ => ?_
  refine ⟨env, h, fun x h' => x = .ref d ∧ h' = h, re, rh, ⟨_, en, rfl, rfl⟩, ?_⟩
  rintro _ _ ⟨rfl, rfl⟩ v H1 t1 r1 rx
  obtain ⟨E, rk⟩ := r1.fT ed
  exact ⟨d, od, rx.ref, .inr ⟨ws, E, f _ _ m _ H1 t1 r1 (so_T rk)⟩⟩
theorem is_lockT (hs : IS X Hb st m) : IS X Hb st (mLockT n m) := by
  refine is_of (ps_lock hs) fun D' σ H env h D0 re rh ⟨d, kvs, en, ed, mm⟩ f => ?_
  obtain ⟨ws, E, rk⟩ := rh.dT ed
  refine ⟨d, .dT ws, E, True.intro, fun od => ?_⟩
  have t1 : TL H (upd H d (.frz od (.dT ws))) := .lock E
  refine liftS_iff.mpr ⟨env, _, _, re.mono t1, rh.put (m := .fT kvs ws od) t1 ⟨rfl, rk.mono t1⟩, mm ws od, ?_, ?_, ?_, ?_⟩
  · rintro env' h' ⟨e', q⟩ σ' H' t re' rh'
    obtain ⟨E', rk'⟩ := rh'.fT e'
    have t2 : TL H' (upd H' d (.dT ws)) := .unlock E'
    exact ⟨E', f.nx env' _ q σ' _ (t1.trans (t.trans t2)) (re'.mono t2) (rh'.put t2 ⟨ws, rfl, rk'.mono t2⟩)⟩
  · rintro v h' ⟨e', q⟩ v' H' t rv' rh'
    obtain ⟨E', rk'⟩ := rh'.fT e'
    have t2 : TL H' (upd H' d (.dT ws)) := .unlock E'
    exact ⟨E', f.rt v _ q v' _ (t1.trans (t.trans t2)) (rv'.mono t2) (rh'.put t2 ⟨ws, rfl, rk'.mono t2⟩)⟩
  · rintro env' h' ⟨e', q⟩ σ' H' t re' rh'
    obtain ⟨E', rk'⟩ := rh'.fT e'
    have t2 : TL H' (upd H' d (.dT ws)) := .unlock E'
    exact ⟨E', f.bk env' _ q σ' _ (t1.trans (t.trans t2)) (re'.mono t2) (rh'.put t2 ⟨ws, rfl, rk'.mono t2⟩)⟩
  · rintro env' h' ⟨e', q⟩ σ' H' t re' rh'
    obtain ⟨E', rk'⟩ := rh'.fT e'
    have t2 : TL H' (upd H' d (.dT ws)) := .unlock E'
    exact ⟨E', f.ct env' _ q σ' _ (t1.trans (t.trans t2)) (re'.mono t2) (rh'.put t2 ⟨ws, rfl, rk'.mono t2⟩)⟩
end
section
variable {D' : MEnds} {env : ME} {h : MH} {e o : MTE} {ts : MTA} {n : Nat} {m : MTS}
theorem putDT_ (q : e env h fun d h1 => o env h1 fun x h2 => ts env h2 fun ds h3 => ds.length ≤ 16 ∧ ∃ a kvs k, x = .ref a ∧ h3 a = some (.dT kvs) ∧ ds = List.map keyD k ∧ kvs.length < sizeLine ∧ D'.nx env (up h3 a (.dT (dPutG kvs k d)))) : mPutDT e o ts D' env h := q
theorem lockT_ (q : ∃ d kvs, env[n]? = some (some (.ref d)) ∧ h d = some (.dT kvs) ∧ ∀ ws od,
  m ⟨fun env' h' => h' d = some (.fT kvs ws od) ∧ D'.nx env' (up h' d (.dT kvs)), fun v h' => h' d = some (.fT kvs ws od) ∧ D'.rt v (up h' d (.dT kvs)), fun env' h' => h' d = some (.fT kvs ws od) ∧ D'.bk env' (up h' d (.dT kvs)), fun env' h' => h' d = some (.fT kvs ws od) ∧ D'.ct env' (up h' d (.dT kvs))⟩ env (up h d (.fT kvs ws od))) : mLockT n m D' env h := q
end
end M

namespace FrM
theorem gcd_fmod (a b : Int) : Int.gcd b (a.fmod b) = Int.gcd a b := by
  have h : a.fmod b = a - b * (a.fdiv b) := by
    have := Int.mul_fdiv_add_fmod a b
    omega
  rw [h, Int.gcd_comm a b]
  exact Int.gcd_sub_mul_left_right b a (a.fdiv b)
theorem gcd_emod (a b : Int) : Int.gcd b (a % b) = Int.gcd a b := by
  have h : a % b = a - b * (a / b) := by
    have := Int.mul_ediv_add_emod a b
    omega
  rw [h, Int.gcd_comm a b]
  exact Int.gcd_sub_mul_left_right b a (a / b)
theorem fmod_lt (a b : Int) (h : b ≠ 0) : (a.fmod b).natAbs < b.natAbs := by
  have key : ∀ a b : Int, 0 < b → (a.fmod b).natAbs < b.natAbs := fun a b c => by
    have h1 := Int.fmod_nonneg_of_pos a c
    have h2 := Int.fmod_lt_of_pos a c
    omega
  rcases Int.lt_or_gt_of_ne h with c | c
  · have h1 := key (-a) (-b) (by omega)
    rw [Int.neg_fmod_neg] at h1
    omega
  · exact key a b c
def by' (a b : Int) : Int := if b < 0 then -(Int.gcd a b : Int) else (Int.gcd a b : Int)
/-- in lowest terms -/
def fr (a b : Int) : Int × Int := (a / by' a b, b / by' a b)
theorem gcd_pos {a b : Int} (h : b ≠ 0) : 0 < Int.gcd a b := Nat.pos_of_ne_zero fun e => h (Int.gcd_eq_zero_iff.mp e).2
theorem by_ne {a b : Int} (h : b ≠ 0) : by' a b ≠ 0 := by
  have := gcd_pos (a := a) h
  unfold by'
  split <;> omega
theorem by_dvdL (a b : Int) : by' a b ∣ a := by
  unfold by'
  split
  · exact Int.neg_dvd.mpr (Int.gcd_dvd_left a b)
  · exact Int.gcd_dvd_left a b
theorem by_dvdR (a b : Int) : by' a b ∣ b := by
  unfold by'
  split
  · exact Int.neg_dvd.mpr (Int.gcd_dvd_right a b)
  · exact Int.gcd_dvd_right a b
theorem fr1 (a b : Int) : (fr a b).1 * by' a b = a := Int.ediv_mul_cancel (by_dvdL a b)
theorem fr2 (a b : Int) : (fr a b).2 * by' a b = b := Int.ediv_mul_cancel (by_dvdR a b)
theorem fr_cross (a b : Int) : (fr a b).1 * b = a * (fr a b).2 := by
  have h1 := fr1 a b
  have h2 := fr2 a b
  generalize (fr a b).1 = x at *
  generalize (fr a b).2 = y at *
  generalize by' a b = g at *
  subst h1 h2
  grind
theorem fr_pos {a b : Int} (h : b ≠ 0) : 1 ≤ (fr a b).2 := by
  have h2 := fr2 a b
  have hg := gcd_pos (a := a) h
  have e : by' a b = if b < 0 then -(Int.gcd a b : Int) else (Int.gcd a b : Int) := rfl
  generalize (fr a b).2 = y at *
  by_cases c : b < 0
  · rw [if_pos c] at e
    rw [e] at h2
    have hg' : (0 : Int) < Int.gcd a b := by omega
    generalize (Int.gcd a b : Int) = g at *
    by_cases hy : 1 ≤ y
    · exact hy
    · have : 0 ≤ y * -g := Int.mul_nonneg_of_nonpos_of_nonpos (by omega) (by omega)
      omega
  · rw [if_neg c] at e
    rw [e] at h2
    have hg' : (0 : Int) < Int.gcd a b := by omega
    generalize (Int.gcd a b : Int) = g at *
    by_cases hy : 1 ≤ y
    · exact hy
    · have : y * g ≤ 0 := Int.mul_nonpos_of_nonpos_of_nonneg (by omega) (by omega)
      omega
theorem fr_gcd {a b : Int} (h : b ≠ 0) : Int.gcd (fr a b).2 (fr a b).1 = 1 := by
  rw [Int.gcd_comm]
  unfold fr by'
  split
  · simp only [Int.ediv_neg, Int.neg_gcd, Int.gcd_neg]
    exact Int.gcd_ediv_gcd_ediv_gcd (gcd_pos h)
  · exact Int.gcd_ediv_gcd_ediv_gcd (gcd_pos h)
theorem abs_dvd {x y g : Int} (h : x * g = y) (hg : g ≠ 0) : x.natAbs ≤ y.natAbs := by
  rw [← h, Int.natAbs_mul]
  exact Nat.le_mul_of_pos_right _ (by omega)
theorem fr_le1 {a b : Int} (h : b ≠ 0) : (fr a b).1.natAbs ≤ a.natAbs := abs_dvd (fr1 a b) (by_ne h)
theorem fr_le2 {a b : Int} (h : b ≠ 0) : (fr a b).2.natAbs ≤ b.natAbs := abs_dvd (fr2 a b) (by_ne h)
theorem gcd_log {a b : Int} {n : Nat} (h : b ≠ 0) (hn : b.natAbs.log2 < n) : (Int.gcd a b).log2 < n := by
  have h1 : Int.gcd a b ≤ b.natAbs := Nat.le_of_dvd (by omega) (Int.natAbs_dvd_natAbs.mpr (Int.gcd_dvd_right a b))
  have h2 : b.natAbs < 2 ^ n := (Nat.log2_lt (by omega)).mp hn
  exact (Nat.log2_lt (by have := gcd_pos (a := a) h; omega)).mpr (by omega)
end FrM

namespace FrM
theorem rat_self (q : Rat) : q * (q.den : Rat) = (q.num : Rat) := by
  have h := Rat.num_divInt_den q
  rw [Rat.divInt_eq_div] at h
  have hd : ((q.den : Int) : Rat) ≠ 0 := by
    have := q.den_nz
    exact_mod_cast this
  have e : ((q.den : Int) : Rat) = (q.den : Rat) := by norm_cast
  rw [e] at h hd
  generalize (q.den : Rat) = x at *
  generalize (q.num : Rat) = y at *
  rw [← h]
  grind
theorem fr_rat {a b : Int} (h : b ≠ 0) : fr a b = (((a : Rat) / (b : Rat)).num, (((a : Rat) / (b : Rat)).den : Int)) := by
  rw [← Rat.divInt_eq_div, Rat.num_divInt, Rat.den_divInt, if_neg h, Int.gcd_comm b a]
  have g1 := Int.gcd_dvd_left a b
  have g2 := Int.gcd_dvd_right a b
  have gp := gcd_pos (a := a) h
  unfold fr by'
  by_cases c : b < 0
  · rw [if_pos c, Int.sign_eq_neg_one_of_neg c]
    refine Prod.ext ?_ ?_
    · show a / -(Int.gcd a b : Int) = -1 * a / (Int.gcd a b : Int)
      rw [Int.ediv_neg, Int.neg_mul, Int.one_mul, Int.neg_ediv_of_dvd g1]
    · show b / -(Int.gcd a b : Int) = ((b.natAbs / Int.gcd a b : Nat) : Int)
      rw [Int.ediv_neg, ← Int.neg_ediv_of_dvd g2, Int.natCast_ediv]
      congr 1
      omega
  · rw [if_neg c, Int.sign_eq_one_of_pos (by omega)]
    refine Prod.ext ?_ ?_
    · show a / (Int.gcd a b : Int) = 1 * a / (Int.gcd a b : Int)
      rw [Int.one_mul]
    · show b / (Int.gcd a b : Int) = ((b.natAbs / Int.gcd a b : Nat) : Int)
      rw [Int.natCast_ediv]
      congr 1
      omega
/-! ### N times q is whole -/
def Iz (N : Nat) (q : Rat) : Prop := ∃ z : Int, q * (N : Rat) = (z : Rat)
theorem Iz.add {N : Nat} {p q : Rat} (a : Iz N p) (b : Iz N q) : Iz N (p + q) := by
  obtain ⟨x, hx⟩ := a
  obtain ⟨y, hy⟩ := b
  exact ⟨x + y, by rw [Rat.intCast_add, ← hx, ← hy]; grind⟩
theorem Iz.sub {N : Nat} {p q : Rat} (a : Iz N p) (b : Iz N q) : Iz N (p - q) := by
  obtain ⟨x, hx⟩ := a
  obtain ⟨y, hy⟩ := b
  exact ⟨x - y, by rw [Rat.intCast_sub, ← hx, ← hy]; grind⟩
theorem Iz.mul {N M : Nat} {p q : Rat} (a : Iz N p) (b : Iz M q) : Iz (N * M) (p * q) := by
  obtain ⟨x, hx⟩ := a
  obtain ⟨y, hy⟩ := b
  exact ⟨x * y, by rw [Rat.intCast_mul, Rat.natCast_mul, ← hx, ← hy]; grind⟩
theorem Iz.up {N M : Nat} {p : Rat} (a : Iz N p) (h : N ∣ M) : Iz M p := by
  obtain ⟨c, rfl⟩ := h
  obtain ⟨x, hx⟩ := a
  exact ⟨x * (c : Int), by
    rw [Rat.intCast_mul, Rat.natCast_mul, ← hx]
    have : ((c : Int) : Rat) = (c : Rat) := by norm_cast
    rw [this]; grind⟩
theorem Iz.int (N : Nat) (z : Int) : Iz N (z : Rat) := ⟨z * N, by
  rw [Rat.intCast_mul]
  norm_cast⟩
theorem Iz.zero (N : Nat) : Iz N 0 := ⟨0, by rw [Rat.zero_mul]; rfl⟩
theorem Iz.one (N : Nat) : Iz N 1 := ⟨(N : Int), by rw [Rat.one_mul]; norm_cast⟩
theorem Iz.den {N : Nat} {q : Rat} (h : Iz N q) (hN : 0 < N) : q.den ≤ N := by
  obtain ⟨z, hz⟩ := h
  have hd : (N : Rat) ≠ 0 := by
    have : N ≠ 0 := by omega
    exact_mod_cast this
  have e : q = Rat.divInt z (N : Int) := by
    rw [Rat.divInt_eq_div, ← hz]
    have : ((N : Int) : Rat) = (N : Rat) := by norm_cast
    rw [this]
    generalize (N : Rat) = x at *
    grind
  rw [e, Rat.den_divInt, if_neg (by omega), Int.natAbs_natCast]
  exact Nat.div_le_self _ _
/-- of a size that can be reckoned with -/
def Sz (q : Rat) : Prop := q.den < 2 ^ 4000 ∧ q.num.natAbs < 2 ^ 100000
theorem sz_of {q : Rat} {N B : Nat} (h : Iz N q) (hN : 0 < N) (hN2 : N < 2 ^ 4000) (lo : -(B : Rat) ≤ q) (hi : q ≤ (B : Rat)) (hB : B < 2 ^ 90000) : Sz q := by
  have d := h.den hN
  refine ⟨by omega, ?_⟩
  have e := rat_self q
  have dp : (0 : Rat) ≤ (q.den : Rat) := by exact_mod_cast Nat.zero_le _
  have h1 := Rat.mul_le_mul_of_nonneg_left hi dp
  have h2 := Rat.mul_le_mul_of_nonneg_left lo dp
  rw [Rat.mul_comm _ q, e] at h1 h2
  have h1 : q.num ≤ (q.den : Int) * (B : Int) := by exact_mod_cast h1
  have h2 : -((q.den : Int) * (B : Int)) ≤ q.num := by
    have : (q.den : Rat) * -(B : Rat) = -((q.den : Rat) * (B : Rat)) := by grind
    rw [this] at h2
    refine Rat.intCast_le_intCast.mp ?_
    rw [Rat.intCast_neg, Rat.intCast_mul]
    exact h2
  have h3 : q.num.natAbs ≤ q.den * B := by
    have : ((q.den * B : Nat) : Int) = (q.den : Int) * (B : Int) := Int.natCast_mul ..
    omega
  have h4 : q.den * B < 2 ^ 4000 * 2 ^ 90000 := Nat.mul_lt_mul'' (by omega) hB
  have h5 : 2 ^ 4000 * 2 ^ 90000 ≤ 2 ^ 100000 := by rw [← Nat.pow_add]; exact Nat.pow_le_pow_right (by decide) (by decide)
  exact Nat.lt_of_le_of_lt h3 (Nat.lt_of_lt_of_le h4 h5)
end FrM

namespace Th
/-! ### sums -/
def S : Nat → (Nat → Nat) → Nat
  | 0, _ => 0
  | n + 1, f => S n f + f n
theorem S_shift (f : Nat → Nat) : ∀ n, S (n + 1) f = f 0 + S n fun i => f (i + 1)
  | 0 => by simp [S]
  | n + 1 => by
    show S (n + 1) f + f (n + 1) = f 0 + (S n (fun i => f (i + 1)) + f (n + 1))
    rw [S_shift f n, Nat.add_assoc]
theorem S_congr {f g : Nat → Nat} : ∀ n, (∀ i, i < n → f i = g i) → S n f = S n g
  | 0, _ => rfl
  | n + 1, h => by
    show S n f + f n = S n g + g n
    rw [S_congr n fun i hi => h i (by omega), h n (by omega)]
theorem S_add (f g : Nat → Nat) : ∀ n, S n (fun i => f i + g i) = S n f + S n g
  | 0 => rfl
  | n + 1 => by
    show S n (fun i => f i + g i) + (f n + g n) = (S n f + f n) + (S n g + g n)
    rw [S_add f g n]; omega
theorem S_mul (c : Nat) (f : Nat → Nat) : ∀ n, S n (fun i => c * f i) = c * S n f
  | 0 => rfl
  | n + 1 => by
    show S n (fun i => c * f i) + c * f n = c * (S n f + f n)
    rw [S_mul c f n, Nat.mul_add]
theorem S_list (f : Nat → Nat) : ∀ n, ((List.range n).map f).sum = S n f
  | 0 => rfl
  | n + 1 => by rw [List.range_succ, List.map_append, List.sum_append_nat, S_list f n]; simp [S]
theorem S_zero : ∀ n, S n (fun _ => 0) = 0
  | 0 => rfl
  | n + 1 => by show S n _ + 0 = 0; rw [S_zero n]
/-! ### so many of so many -/
def ch : Nat → Nat → Nat
  | _, 0 => 1
  | 0, _ + 1 => 0
  | n + 1, k + 1 => ch n k + ch n (k + 1)
theorem ch_zero (n : Nat) : ch n 0 = 1 := by cases n <;> rfl
theorem ch_succ (n k : Nat) : ch (n + 1) (k + 1) = ch n k + ch n (k + 1) := rfl
theorem ch_gt : ∀ {n k : Nat}, n < k → ch n k = 0
  | _, 0, h => by omega
  | 0, _ + 1, _ => rfl
  | n + 1, k + 1, h => by rw [ch_succ, ch_gt (by omega), ch_gt (by omega)]
theorem ch_self : ∀ n : Nat, ch n n = 1
  | 0 => rfl
  | n + 1 => by rw [ch_succ, ch_self n, ch_gt (by omega)]
theorem ch_mul : ∀ n k : Nat, ch n (k + 1) * (k + 1) = ch n k * (n - k)
  | 0, k => by rw [ch_gt (by omega), Nat.zero_sub, Nat.zero_mul, Nat.mul_zero]
  | n + 1, 0 => by
    have := ch_mul n 0
    rw [ch_succ, ch_zero, ch_zero] at *
    omega
  | n + 1, j + 1 => by
    have h1 := ch_mul n (j + 1)
    have h2 := ch_mul n j
    by_cases c : j + 1 ≤ n
    · have e1 : n + 1 - (j + 1) = (n - (j + 1)) + 1 := by omega
      have e2 : n - j = (n - (j + 1)) + 1 := by omega
      rw [e2] at h2
      rw [ch_succ, ch_succ, e1, Nat.add_mul, h1, Nat.add_mul, ← h2]
      generalize ch n (j + 1) = x
      generalize n - (j + 1) = y
      grind
    · have e1 : n + 1 - (j + 1) = 0 := by omega
      rw [e1, Nat.mul_zero, ch_gt (by omega), Nat.zero_mul]
theorem binom (s : Nat) : ∀ n, S (n + 1) (fun l => ch n l * s ^ (n - l)) = (s + 1) ^ n
  | 0 => rfl
  | n + 1 => by
    rw [S_shift]
    have e1 : S (n + 1) (fun i => ch (n + 1) (i + 1) * s ^ (n + 1 - (i + 1))) = S (n + 1) (fun i => ch n i * s ^ (n - i)) + S (n + 1) fun i => ch n (i + 1) * s ^ (n - i) := by
      rw [← S_add]
      refine S_congr _ fun i hi => ?_
      rw [ch_succ, Nat.add_mul, show n + 1 - (i + 1) = n - i by omega]
    have e2 : S (n + 1) (fun i => ch n (i + 1) * s ^ (n - i)) = s * S n fun i => ch n (i + 1) * s ^ (n - (i + 1)) := by
      show S n _ + ch n (n + 1) * s ^ (n - n) = _
      rw [ch_gt (by omega), Nat.zero_mul, Nat.add_zero, ← S_mul]
      refine S_congr _ fun i hi => ?_
      rw [show n - i = (n - (i + 1)) + 1 by omega, Nat.pow_succ]
      grind
    have e3 := binom s n
    rw [e1, e2, e3]
    rw [S_shift, ch_zero, Nat.one_mul, Nat.sub_zero] at e3
    rw [ch_zero, Nat.one_mul, Nat.sub_zero, Nat.pow_succ, Nat.pow_succ]
    generalize S n _ = x at *
    rw [← e3]
    grind
/-- ways: the greatest one of left, the others below -/
def wy (n sides l : Nat) : Nat := S sides fun s => s ^ (n - l)
/-- the throws of n houses by which l are left -/
def od (n sides l : Nat) : Nat := if 1 ≤ l then ch n l * wy n sides l else 0
theorem od_sum (n : Nat) (hn : 1 ≤ n) : ∀ sides, S (n + 1) (od n sides) = sides ^ n
  | 0 => by
    rw [Nat.zero_pow hn]
    rw [S_congr (g := fun _ => 0) _ fun i _ => by unfold od wy; simp [S], S_zero]
  | sides + 1 => by
    have e : S (n + 1) (od n (sides + 1)) = S (n + 1) (od n sides) + S (n + 1) (fun l => if 1 ≤ l then ch n l * sides ^ (n - l) else 0) := by
      rw [← S_add]
      refine S_congr _ fun i _ => ?_
      unfold od wy
      split
      · rw [show S (sides + 1) (fun s => s ^ (n - i)) = S sides (fun s => s ^ (n - i)) + sides ^ (n - i) from rfl, Nat.mul_add]
      · rfl
    rw [e, od_sum n hn sides]
    have b := binom sides n
    rw [S_shift] at b ⊢
    rw [ch_zero, Nat.one_mul, Nat.sub_zero] at b
    rw [if_neg (by omega), Nat.zero_add]
    rw [← b]
    congr 1
theorem od_le (n sides l : Nat) (hn : 1 ≤ n) (hl : l ≤ n) : od n sides l ≤ sides ^ n := by
  rw [← od_sum n hn sides]
  have key : ∀ (f : Nat → Nat) (m : Nat), l < m → f l ≤ S m f := fun f m => by
    induction m with
    | zero => omega
    | succ m ih =>
      intro h
      show f l ≤ S m f + f m
      by_cases c : l = m
      · subst c; omega
      · have := ih (by omega); omega
  exact key _ _ (by omega)
theorem od_self (n sides : Nat) (hn : 1 ≤ n) : od n sides n = sides := by
  unfold od wy
  rw [if_pos hn, ch_self, Nat.one_mul, Nat.sub_self]
  have : ∀ m, S m (fun s => s ^ 0) = m := fun m => by
    induction m with
    | zero => rfl
    | succ m ih => show S m (fun s => s ^ 0) + m ^ 0 = m + 1; rw [ih, Nat.pow_zero]
  exact this sides
/-! ### sums of fractions -/
def R : Nat → (Nat → Rat) → Rat
  | 0, _ => 0
  | n + 1, f => R n f + f n
theorem R_congr {f g : Nat → Rat} : ∀ n, (∀ i, i < n → f i = g i) → R n f = R n g
  | 0, _ => rfl
  | n + 1, h => by
    show R n f + f n = R n g + g n
    rw [R_congr n fun i hi => h i (by omega), h n (by omega)]
theorem R_add (f g : Nat → Rat) : ∀ n, R n (fun i => f i + g i) = R n f + R n g
  | 0 => by show (0 : Rat) = 0 + 0; grind
  | n + 1 => by
    show R n (fun i => f i + g i) + (f n + g n) = (R n f + f n) + (R n g + g n)
    rw [R_add f g n]; grind
theorem R_mul (c : Rat) (f : Nat → Rat) : ∀ n, R n (fun i => c * f i) = c * R n f
  | 0 => by show (0 : Rat) = c * 0; grind
  | n + 1 => by
    show R n (fun i => c * f i) + c * f n = c * (R n f + f n)
    rw [R_mul c f n]; grind
theorem R_zero : ∀ n, R n (fun _ => 0) = 0
  | 0 => rfl
  | n + 1 => by show R n _ + 0 = 0; rw [R_zero n]; grind
theorem R_swap (f : Nat → Nat → Rat) (m : Nat) : ∀ n, R n (fun i => R m fun j => f i j) = R m fun j => R n fun i => f i j
  | 0 => (R_zero m).symm
  | n + 1 => by
    show R n (fun i => R m fun j => f i j) + R m (fun j => f n j) = R m fun j => R n (fun i => f i j) + f n j
    rw [R_swap f m n, R_add]
theorem R_cast (f : Nat → Nat) : ∀ n, ((S n f : Nat) : Rat) = R n fun i => (f i : Rat)
  | 0 => rfl
  | n + 1 => by
    show ((S n f + f n : Nat) : Rat) = R n _ + _
    rw [Rat.natCast_add, R_cast f n]
theorem R_nonneg {f : Nat → Rat} : ∀ n, (∀ i, i < n → 0 ≤ f i) → 0 ≤ R n f
  | 0, _ => by show (0 : Rat) ≤ 0; grind
  | n + 1, h => by
    have h1 := R_nonneg n fun i hi => h i (by omega)
    have h2 := h n (by omega)
    show 0 ≤ R n f + f n
    grind
theorem R_le {f g : Nat → Rat} : ∀ n, (∀ i, i < n → f i ≤ g i) → R n f ≤ R n g
  | 0, _ => by show (0 : Rat) ≤ 0; grind
  | n + 1, h => by
    have h1 := R_le n fun i hi => h i (by omega)
    have h2 := h n (by omega)
    show R n f + f n ≤ R n g + g n
    grind
theorem R_mono {f : Nat → Rat} (h : ∀ i, 0 ≤ f i) : ∀ {n m : Nat}, n ≤ m → R n f ≤ R m f := fun {n m} => by
  induction m with
  | zero => intro l; rw [show n = 0 by omega]; grind
  | succ m ih =>
    intro l
    by_cases c : n = m + 1
    · subst c; grind
    · have h1 := ih (by omega)
      have h2 := h m
      show _ ≤ R m f + f m
      grind
theorem R_cut {f : Nat → Rat} {n : Nat} : ∀ {m : Nat}, n ≤ m → (∀ i, n ≤ i → f i = 0) → R m f = R n f := fun {m} => by
  induction m with
  | zero => intro l _; rw [show n = 0 by omega]
  | succ m ih =>
    intro l h
    by_cases c : n = m + 1
    · rw [c]
    · show R m f + f m = _
      rw [ih (by omega) h, h m (by omega)]; grind
theorem R_term {f : Nat → Rat} (h : ∀ i, 0 ≤ f i) {i n : Nat} (hi : i < n) : f i ≤ R n f := by
  have h1 := R_mono h (n := i + 1) (m := n) (by omega)
  have h2 := R_nonneg (f := f) i fun j _ => h j
  have h3 : R (i + 1) f = R i f + f i := rfl
  grind
/-- the share of throws of n houses by which l are left -/
def PQ (sides n l : Nat) : Rat := (od n sides l : Rat) / ((sides ^ n : Nat) : Rat)
section
variable {sides : Nat} (hs : 1 ≤ sides)
include hs
theorem pw_pos (n : Nat) : (0 : Rat) < ((sides ^ n : Nat) : Rat) := by
  have : 0 < sides ^ n := Nat.pow_pos hs
  exact_mod_cast this
theorem PQ_mul (n l : Nat) : PQ sides n l * ((sides ^ n : Nat) : Rat) = (od n sides l : Rat) := by
  have := pw_pos hs n
  unfold PQ
  generalize ((sides ^ n : Nat) : Rat) = x at *
  grind
theorem PQ_nonneg (n l : Nat) : 0 ≤ PQ sides n l := by
  have h1 := pw_pos hs n
  have h2 : (0 : Rat) ≤ (od n sides l : Rat) := by exact_mod_cast Nat.zero_le _
  unfold PQ
  rw [Rat.div_def]
  exact Rat.mul_nonneg h2 (Rat.le_of_lt (Rat.inv_pos.mpr h1))
theorem PQ_sum {n : Nat} (hn : 1 ≤ n) : R (n + 1) (PQ sides n) = 1 := by
  have h1 := pw_pos hs n
  have h2 : R (n + 1) (PQ sides n) * ((sides ^ n : Nat) : Rat) = ((sides ^ n : Nat) : Rat) := by
    conv => rhs; rw [← od_sum n hn sides, R_cast]
    rw [Rat.mul_comm, ← R_mul]
    refine R_congr _ fun i _ => ?_
    rw [Rat.mul_comm, PQ_mul hs]
  generalize ((sides ^ n : Nat) : Rat) = x at *
  have hx : x ≠ 0 := fun z => by rw [z] at h1; exact Rat.lt_irrefl h1
  grind
omit hs in
theorem PQ_zero {n l : Nat} (h : l = 0 ∨ n < l) : PQ sides n l = 0 := by
  have : od n sides l = 0 := by
    unfold od
    rcases h with h | h
    · rw [if_neg (by omega)]
    · rw [ch_gt h, Nat.zero_mul]; simp
  unfold PQ
  rw [this]
  show (0 : Rat) / _ = 0
  rw [Rat.div_def]; grind
theorem PQ_le {n l : Nat} (hn : 1 ≤ n) : PQ sides n l ≤ 1 := by
  by_cases c : l < n + 1
  · have := R_term (f := PQ sides n) (PQ_nonneg hs n) c
    rw [PQ_sum hs hn] at this
    exact this
  · rw [PQ_zero (.inr (by omega))]; grind
theorem PQ_self_mul {n : Nat} (hn : 1 ≤ n) : PQ sides n n * ((sides ^ n : Nat) : Rat) = (sides : Rat) := by
  rw [PQ_mul hs, od_self n sides hn]
theorem PQ_one : PQ sides 1 1 = 1 := by
  have h1 := PQ_self_mul hs (n := 1) (by omega)
  have h2 := pw_pos hs 1
  rw [Nat.pow_one] at h1 h2
  generalize (sides : Rat) = x at *
  have hx : x ≠ 0 := fun z => by rw [z] at h2; exact Rat.lt_irrefl h2
  grind
end
/-! ### round by round -/
def step (sides many : Nat) (f : Nat → Rat) (l : Nat) : Rat := R (many + 1) fun n => f n * PQ sides n l
def f0 (many n : Nat) : Rat := if n = many then 1 else 0
def fH (sides many : Nat) : Nat → Nat → Rat
  | 0 => f0 many
  | t + 1 => step sides many (fH sides many t)
/-- shares of how many are left -/
structure Sh (many : Nat) (f : Nat → Rat) : Prop where
  pos : ∀ n, 0 ≤ f n
  z : f 0 = 0
  out : ∀ n, many < n → f n = 0
  one : R (many + 1) f = 1
theorem Sh.le {many n : Nat} {f : Nat → Rat} (h : Sh many f) : f n ≤ 1 := by
  by_cases c : n < many + 1
  · have := R_term h.pos c
    rw [h.one] at this; exact this
  · rw [h.out n (by omega)]; grind
theorem sh0 {many : Nat} (h : 1 ≤ many) : Sh many (f0 many) where
  pos := fun n => by unfold f0; split <;> grind
  z := by unfold f0; rw [if_neg (by omega)]
  out := fun n hn => by unfold f0; rw [if_neg (by omega)]
  one := by
    show R many (f0 many) + f0 many many = 1
    rw [R_congr (g := fun _ => 0) many fun i hi => by unfold f0; rw [if_neg (by omega)], R_zero]
    unfold f0; rw [if_pos rfl]; grind
theorem Sh.step {sides many : Nat} {f : Nat → Rat} (hs : 1 ≤ sides) (h : Sh many f) : Sh many (step sides many f) where
  pos := fun n => R_nonneg _ fun i _ => Rat.mul_nonneg (h.pos i) (PQ_nonneg hs i n)
  z := by
    show R (many + 1) _ = 0
    rw [R_congr (g := fun _ => 0) _ fun i _ => by rw [PQ_zero (.inl rfl)]; grind, R_zero]
  out := fun n hn => by
    show R (many + 1) _ = 0
    rw [R_congr (g := fun _ => 0) _ fun i hi => by rw [PQ_zero (.inr (by omega))]; grind, R_zero]
  one := by
    show R (many + 1) (fun l => R (many + 1) fun n => f n * PQ sides n l) = 1
    rw [R_swap, ← h.one]
    refine R_congr _ fun n hn => ?_
    rw [R_mul]
    by_cases c : n = 0
    · subst c; rw [h.z]; grind
    · rw [R_cut (n := n + 1) (m := many + 1) (by omega) fun i hi => PQ_zero (.inr (by omega)), PQ_sum hs (by omega)]; grind
theorem fH_sh {sides many : Nat} (hs : 1 ≤ sides) (h : 1 ≤ many) : ∀ t, Sh many (fH sides many t)
  | 0 => sh0 h
  | t + 1 => (fH_sh hs h t).step hs
theorem fH_up {sides many : Nat} (hs : 1 ≤ sides) (h : 1 ≤ many) (t : Nat) : fH sides many t 1 ≤ fH sides many (t + 1) 1 := by
  have s := fH_sh hs h t
  have := R_term (f := fun n => fH sides many t n * PQ sides n 1) (fun n => Rat.mul_nonneg (s.pos n) (PQ_nonneg hs n 1)) (show 1 < many + 1 by omega)
  rw [PQ_one hs, Rat.mul_one] at this
  exact this
/-! ### the mean -/
def mm (sides : Nat) : Nat → Nat → Rat
  | 0 => fun _ => 0
  | n + 1 => fun i => if i = n + 1 then (if n = 0 then 0 else (1 + R (n + 1) fun l => PQ sides (n + 1) l * mm sides n l) / (1 - PQ sides (n + 1) (n + 1))) else mm sides n i
def mean (sides n : Nat) : Rat := mm sides n n
theorem mm_eq (sides : Nat) : ∀ n i, i ≤ n → mm sides n i = mean sides i
  | 0, i, h => by rw [show i = 0 by omega]; rfl
  | n + 1, i, h => by
    by_cases c : i = n + 1
    · subst c; rfl
    · show (if i = n + 1 then _ else mm sides n i) = _
      rw [if_neg c]; exact mm_eq sides n i (by omega)
theorem mean_zero (sides : Nat) : mean sides 0 = 0 := rfl
theorem mean_one (sides : Nat) : mean sides 1 = 0 := rfl
theorem mean_rec (sides n : Nat) (h : 2 ≤ n) : mean sides n = (1 + R n fun l => PQ sides n l * mean sides l) / (1 - PQ sides n n) := by
  obtain ⟨m, rfl⟩ : ∃ m, n = m + 1 := ⟨n - 1, by omega⟩
  show (if m + 1 = m + 1 then (if m = 0 then 0 else _) else _) = _
  rw [if_pos rfl, if_neg (by omega)]
  congr 2
  refine R_congr _ fun i hi => ?_
  rw [mm_eq sides m i (by omega)]
section
variable {sides : Nat} (hs : 2 ≤ sides)
include hs
theorem PQ_half {n : Nat} (h : 2 ≤ n) : PQ sides n n ≤ 1 / 2 := by
  have h1 := PQ_self_mul (show 1 ≤ sides by omega) (n := n) (by omega)
  have h2 := pw_pos (show 1 ≤ sides by omega) n
  have h3 : 2 * sides ≤ sides ^ n := by
    have : sides ^ 2 ≤ sides ^ n := Nat.pow_le_pow_right (by omega) h
    rw [Nat.pow_two] at this
    exact Nat.le_trans (Nat.mul_le_mul_right _ hs) this
  have h4 : (2 : Rat) * (sides : Rat) ≤ ((sides ^ n : Nat) : Rat) := by exact_mod_cast h3
  generalize ((sides ^ n : Nat) : Rat) = x at *
  generalize (sides : Rat) = y at *
  generalize PQ sides n n = p at *
  refine Rat.le_of_mul_le_mul_left (c := x) ?_ h2
  grind
theorem mean_eq {n : Nat} (h : 2 ≤ n) : mean sides n = 1 + R (n + 1) fun l => PQ sides n l * mean sides l := by
  have h1 := PQ_half hs h
  have h2 := mean_rec sides n h
  show _ = 1 + (R n _ + PQ sides n n * mean sides n)
  generalize R n _ = x at *
  generalize PQ sides n n = p at *
  generalize mean sides n = m at *
  have : 1 - p ≠ 0 := by grind
  grind
/-- V: the mean of what is left -/
def V (sides many : Nat) (f : Nat → Rat) : Rat := R (many + 1) fun n => f n * mean sides n
theorem V_step {many : Nat} {f : Nat → Rat} (h1 : 1 ≤ many) (h : Sh many f) : V sides many f = (1 - f 1) + V sides many (step sides many f) := by
  have e1 : V sides many f = R (many + 1) (fun n => (f n - (if n = 1 then f 1 else 0)) + R (many + 1) fun l => f n * (PQ sides n l * mean sides l)) := by
    refine R_congr _ fun n hn => ?_
    rw [R_mul, R_cut (f := fun l => PQ sides n l * mean sides l) (n := n + 1) (m := many + 1) (by omega) fun i hi => by rw [PQ_zero (.inr (by omega))]; grind]
    by_cases c0 : n = 0
    · subst c0
      rw [h.z, if_neg (by omega)]; grind
    · by_cases c1 : n = 1
      · subst c1
        rw [if_pos rfl, mean_one]
        have : R (1 + 1) (fun l => PQ sides 1 l * mean sides l) = 0 := by
          show (0 + PQ sides 1 0 * mean sides 0) + PQ sides 1 1 * mean sides 1 = 0
          rw [mean_one, mean_zero]; grind
        rw [this]; grind
      · rw [if_neg c1, mean_eq hs (n := n) (by omega)]
        generalize R (n + 1) _ = x
        grind
  rw [e1, R_add, R_swap]
  have e2 : R (many + 1) (fun n => f n - (if n = 1 then f 1 else 0)) = 1 - f 1 := by
    have a : R (many + 1) (fun n => (f n - (if n = 1 then f 1 else 0)) + (if n = 1 then f 1 else 0)) = R (many + 1) f := R_congr _ fun i _ => by grind
    rw [R_add, h.one] at a
    have b : R (many + 1) (fun n => if n = 1 then f 1 else 0) = f 1 := by
      rw [R_cut (n := 2) (m := many + 1) (by omega) fun i hi => by rw [if_neg (by omega)]]
      show (0 + (if 0 = 1 then f 1 else 0)) + (if 1 = 1 then f 1 else 0) = f 1
      rw [if_neg (by omega), if_pos rfl]; grind
    rw [b] at a
    grind
  rw [e2]
  congr 1
  refine R_congr _ fun l hl => ?_
  show _ = step sides many f l * mean sides l
  unfold step
  rw [Rat.mul_comm, ← R_mul]
  refine R_congr _ fun n hn => ?_
  grind
theorem V_zero {many : Nat} : V sides many (f0 many) = mean sides many := by
  show R many _ + f0 many many * mean sides many = _
  rw [R_congr (g := fun _ => 0) many fun i hi => by unfold f0; rw [if_neg (by omega)]; grind, R_zero]
  unfold f0; rw [if_pos rfl]; grind
theorem mean_law {many : Nat} (h1 : 1 ≤ many) : ∀ t, R t (fun i => 1 - fH sides many i 1) + V sides many (fH sides many t) = mean sides many
  | 0 => by
    show (0 : Rat) + _ = _
    have := V_zero hs (many := many)
    show (0 : Rat) + V sides many (f0 many) = _
    rw [this]; grind
  | t + 1 => by
    have h := V_step hs h1 (fH_sh (show 1 ≤ sides by omega) h1 t)
    have ih := mean_law h1 t
    show (R t _ + (1 - fH sides many t 1)) + V sides many (step sides many (fH sides many t)) = _
    rw [h] at ih
    rw [← ih]
    grind
theorem mean_bd : ∀ n, 0 ≤ mean sides n ∧ mean sides n ≤ ((4 ^ n : Nat) : Rat) := fun n => by
  induction n using Nat.strongRecOn with
  | _ n ih =>
    by_cases c : n < 2
    · have : n = 0 ∨ n = 1 := by omega
      rcases this with rfl | rfl
      · rw [mean_zero]; decide
      · rw [mean_one]; decide
    · have e := mean_rec sides n (by omega)
      have h1 := PQ_half hs (n := n) (by omega)
      have hn : ∀ l, 0 ≤ PQ sides n l := PQ_nonneg (show 1 ≤ sides by omega) n
      have h3 : 0 ≤ R n fun l => PQ sides n l * mean sides l := R_nonneg n fun i hi => Rat.mul_nonneg (hn i) (ih i hi).1
      have h4 : R n (fun l => PQ sides n l * mean sides l) ≤ ((4 ^ (n - 1) : Nat) : Rat) := by
        have a : R n (fun l => PQ sides n l * mean sides l) ≤ R n fun l => ((4 ^ (n - 1) : Nat) : Rat) * PQ sides n l := R_le n fun i hi => by
          have b := (ih i hi).2
          have b2 : ((4 ^ i : Nat) : Rat) ≤ ((4 ^ (n - 1) : Nat) : Rat) := by
            have : 4 ^ i ≤ 4 ^ (n - 1) := Nat.pow_le_pow_right (by omega) (by omega)
            exact_mod_cast this
          rw [Rat.mul_comm _ (PQ sides n i)]
          exact Rat.mul_le_mul_of_nonneg_left (by grind) (hn i)
        rw [R_mul] at a
        have b : R n (PQ sides n) ≤ 1 := by
          have := R_mono hn (n := n) (m := n + 1) (by omega)
          rw [PQ_sum (by omega) (by omega)] at this
          exact this
        have c2 : (0 : Rat) ≤ ((4 ^ (n - 1) : Nat) : Rat) := by exact_mod_cast Nat.zero_le _
        have d := Rat.mul_le_mul_of_nonneg_left b c2
        grind
      have h5 : 2 + 2 * 4 ^ (n - 1) ≤ 4 ^ n := by
        obtain ⟨m, rfl⟩ : ∃ m, n = m + 1 := ⟨n - 1, by omega⟩
        rw [Nat.add_sub_cancel, Nat.pow_succ]
        have := Nat.one_le_two_pow (n := 0)
        have : 1 ≤ 4 ^ m := Nat.one_le_pow _ _ (by omega)
        omega
      have h5 : 2 + 2 * ((4 ^ (n - 1) : Nat) : Rat) ≤ ((4 ^ n : Nat) : Rat) := by exact_mod_cast h5
      have h6 := PQ_nonneg (show 1 ≤ sides by omega) n n
      generalize ((4 ^ (n - 1) : Nat) : Rat) = a at *
      generalize ((4 ^ n : Nat) : Rat) = b at *
      generalize R n _ = x at *
      generalize PQ sides n n = p at *
      generalize mean sides n = m at *
      have hp : 0 < 1 - p := by grind
      have hm : m * (1 - p) = 1 + x := by
        have : 1 - p ≠ 0 := fun z => by rw [z] at hp; exact Rat.lt_irrefl hp
        grind
      have m0 : 0 ≤ m := by
        refine Rat.le_of_mul_le_mul_left (c := 1 - p) ?_ hp
        grind
      refine ⟨m0, Rat.le_of_mul_le_mul_left (c := 1 - p) ?_ hp⟩
      have : (1 / 2) * b ≤ (1 - p) * b := by
        rw [Rat.mul_comm _ b, Rat.mul_comm _ b]
        exact Rat.mul_le_mul_of_nonneg_left (by grind) (by grind)
      grind
end
end Th

namespace Th
open FrM
theorem Iz_R {N : Nat} {f : Nat → Rat} : ∀ n, (∀ i, i < n → Iz N (f i)) → Iz N (R n f)
  | 0, _ => .zero N
  | n + 1, h => (Iz_R n fun i hi => h i (by omega)).add (h n (by omega))
theorem Iz_PQ {sides : Nat} (hs : 1 ≤ sides) (n l : Nat) : Iz (sides ^ n) (PQ sides n l) := ⟨(od n sides l : Int), by
  rw [PQ_mul hs]; norm_cast⟩
theorem Iz_part {sides many N : Nat} {f : Nat → Rat} (hs : 1 ≤ sides) (hf : ∀ n, Iz N (f n)) (l : Nat) {c : Nat} (hc : c ≤ many + 1) : Iz (N * sides ^ many) (R c fun n => f n * PQ sides n l) :=
  Iz_R _ fun i hi => ((hf i).mul (Iz_PQ hs i l)).up (Nat.mul_dvd_mul_left N (Nat.pow_dvd_pow sides (by omega)))
theorem Iz_f0 (many n : Nat) : Iz 1 (f0 many n) := by
  unfold f0
  split
  · exact .one 1
  · exact .zero 1
theorem Iz_fH {sides many : Nat} (hs : 1 ≤ sides) : ∀ t n, Iz (sides ^ (many * t)) (fH sides many t n)
  | 0, n => by rw [Nat.mul_zero, Nat.pow_zero]; exact Iz_f0 many n
  | t + 1, n => by
    rw [Nat.mul_succ, Nat.pow_add]
    exact Iz_part hs (fun n => Iz_fH hs t n) n (Nat.le_refl _)
/-- partial sums lie between nought and one -/
theorem part_bd {sides many : Nat} {f : Nat → Rat} (hs : 1 ≤ sides) (h : Sh many f) (l : Nat) {c : Nat} (hc : c ≤ many + 1) : 0 ≤ (R c fun n => f n * PQ sides n l) ∧ (R c fun n => f n * PQ sides n l) ≤ 1 := by
  refine ⟨R_nonneg _ fun i _ => Rat.mul_nonneg (h.pos i) (PQ_nonneg hs i l), ?_⟩
  have h1 : (R c fun n => f n * PQ sides n l) ≤ R c f := R_le _ fun i _ => by
    by_cases c0 : i = 0
    · subst c0; rw [h.z]; grind
    · have := Rat.mul_le_mul_of_nonneg_left (PQ_le hs (n := i) (l := l) (by omega)) (h.pos i)
      grind
  have h2 := R_mono h.pos hc
  rw [h.one] at h2
  grind
theorem sz01 {q : Rat} {N : Nat} (h : Iz N q) (hN : 0 < N) (hN2 : N < 2 ^ 4000) (lo : 0 ≤ q) (hi : q ≤ 1) : Sz q :=
  sz_of (B := 1) h hN hN2 (by rw [show ((1 : Nat) : Rat) = 1 from rfl]; grind) (by rw [show ((1 : Nat) : Rat) = 1 from rfl]; exact hi) (Nat.one_lt_two_pow (by decide))
/-! ### the mean's parts -/
def MM (sides : Nat) : Nat → Nat
  | 0 => 1
  | n + 1 => if 1 ≤ n then MM sides n * (sides ^ (n + 1) - sides) else 1
theorem pw_gt {sides n : Nat} (hs : 2 ≤ sides) (h : 2 ≤ n) : sides < sides ^ n := by
  have h1 : sides ^ 1 < sides ^ n := Nat.pow_lt_pow_right (by omega) h
  rwa [Nat.pow_one] at h1
theorem MM_pos {sides : Nat} (hs : 2 ≤ sides) : ∀ n, 0 < MM sides n
  | 0 => Nat.one_pos
  | n + 1 => by
    show 0 < if 1 ≤ n then MM sides n * (sides ^ (n + 1) - sides) else 1
    split
    · have := pw_gt hs (n := n + 1) (by omega)
      exact Nat.mul_pos (MM_pos hs n) (by omega)
    · decide
theorem MM_dvd {sides : Nat} : ∀ {n m : Nat}, n ≤ m → MM sides n ∣ MM sides m := fun {n m} => by
  induction m with
  | zero => intro h; rw [show n = 0 by omega]; exact Nat.dvd_refl _
  | succ m ih =>
    intro h
    by_cases c : n = m + 1
    · rw [c]; exact Nat.dvd_refl _
    · have := ih (by omega)
      show _ ∣ if 1 ≤ m then MM sides m * (sides ^ (m + 1) - sides) else 1
      split
      · exact Nat.dvd_trans this (Nat.dvd_mul_right ..)
      · rw [show n = 0 by omega]; exact Nat.dvd_refl _
theorem MM_le {sides : Nat} (hs : 2 ≤ sides) : ∀ n, MM sides n ≤ sides ^ (n * n)
  | 0 => by show 1 ≤ sides ^ 0; rw [Nat.pow_zero]; omega
  | n + 1 => by
    show (if 1 ≤ n then MM sides n * (sides ^ (n + 1) - sides) else 1) ≤ _
    split
    · have h1 := MM_le hs n
      have h2 : MM sides n * (sides ^ (n + 1) - sides) ≤ sides ^ (n * n) * sides ^ (n + 1) := Nat.mul_le_mul h1 (Nat.sub_le _ _)
      rw [← Nat.pow_add] at h2
      refine Nat.le_trans h2 (Nat.pow_le_pow_right (by omega) ?_)
      rw [Nat.add_mul, Nat.mul_add]; omega
    · exact Nat.one_le_pow _ _ (by omega)
theorem Iz_mean {sides : Nat} (hs : 2 ≤ sides) : ∀ n, Iz (MM sides n) (mean sides n) := fun n => by
  induction n using Nat.strongRecOn with
  | _ n ih =>
    by_cases c : n < 2
    · have : n = 0 ∨ n = 1 := by omega
      rcases this with rfl | rfl
      · exact .zero _
      · exact .zero _
    · obtain ⟨m, rfl⟩ : ∃ m, n = m + 1 := ⟨n - 1, by omega⟩
      have hs1 : 1 ≤ sides := by omega
      have e := mean_rec sides (m + 1) (by omega)
      have hp := PQ_half hs (n := m + 1) (by omega)
      have hq := PQ_self_mul hs1 (n := m + 1) (by omega)
      have t : Iz (sides ^ (m + 1) * MM sides m) (1 + R (m + 1) fun l => PQ sides (m + 1) l * mean sides l) :=
        (Iz.one _).add (Iz_R _ fun i hi => (Iz_PQ hs1 (m + 1) i).mul ((ih i hi).up (MM_dvd (by omega))))
      obtain ⟨z, hz⟩ := t
      refine ⟨z, ?_⟩
      rw [← hz]
      show _ * ((if 1 ≤ m then MM sides m * (sides ^ (m + 1) - sides) else 1 : Nat) : Rat) = _
      rw [if_pos (by omega)]
      have hg := pw_gt hs (n := m + 1) (by omega)
      have es : ((sides ^ (m + 1) - sides : Nat) : Rat) + (sides : Rat) = ((sides ^ (m + 1) : Nat) : Rat) := by
        rw [← Rat.natCast_add, Nat.sub_add_cancel (Nat.le_of_lt hg)]
      rw [Rat.natCast_mul, Rat.natCast_mul]
      generalize ((sides ^ (m + 1) - sides : Nat) : Rat) = d at *
      generalize ((sides ^ (m + 1) : Nat) : Rat) = x at *
      generalize (sides : Rat) = y at *
      generalize (MM sides m : Rat) = w at *
      generalize R (m + 1) _ = r at *
      generalize PQ sides (m + 1) (m + 1) = p at *
      generalize mean sides (m + 1) = v at *
      have n1 : 1 - p ≠ 0 := by grind
      have e2 : v * (1 - p) = 1 + r := by grind
      grind
end Th

namespace Th
/-! ### all throws counted -/
theorem S_block (f : Nat → Nat) (s : Nat) : ∀ a, S (a * s) f = S a fun q => S s fun d => f (q * s + d)
  | 0 => by rw [Nat.zero_mul]; rfl
  | a + 1 => by
    have key : ∀ k, S (a * s + k) f = S (a * s) f + S k fun d => f (a * s + d) := fun k => by
      induction k with
      | zero => rfl
      | succ k ih =>
        show S (a * s + k) f + f (a * s + k) = S (a * s) f + (S k (fun d => f (a * s + d)) + f (a * s + k))
        rw [ih]; omega
    rw [Nat.succ_mul, key, S_block f s a]; rfl
theorem S_swap (f : Nat → Nat → Nat) (m : Nat) : ∀ n, S n (fun i => S m fun j => f i j) = S m fun j => S n fun i => f i j
  | 0 => (S_zero m).symm
  | n + 1 => by
    show S n (fun i => S m fun j => f i j) + S m (fun j => f n j) = S m fun j => S n (fun i => f i j) + f n j
    rw [S_swap f m n, S_add]
theorem S_const (c : Nat) : ∀ n, S n (fun _ => c) = n * c
  | 0 => by rw [Nat.zero_mul]; rfl
  | n + 1 => by show S n _ + c = _; rw [S_const c n, Nat.succ_mul]
def dig (s N i : Nat) : Nat := N / s ^ i % s
theorem dig_zero (s N : Nat) : dig s N 0 = N % s := by unfold dig; rw [Nat.pow_zero, Nat.div_one]
theorem dig_succ (s N i : Nat) : dig s N (i + 1) = dig s (N / s) i := by unfold dig; rw [Nat.pow_succ, Nat.mul_comm, Nat.div_div_eq_div_mul]
theorem dig_lt {s N i : Nat} (h : 1 ≤ s) : dig s N i < s := Nat.mod_lt _ h
/-- how many are chosen -/
def nS : Nat → (Nat → Bool) → Nat
  | 0, _ => 0
  | m + 1, sel => (if sel 0 then 1 else 0) + nS m fun i => sel (i + 1)
theorem nS_le : ∀ m sel, nS m sel ≤ m
  | 0, _ => Nat.le_refl _
  | m + 1, sel => by
    have := nS_le m fun i => sel (i + 1)
    show (if sel 0 then 1 else 0) + nS m _ ≤ m + 1
    split <;> omega
theorem nS_filter : ∀ m sel, ((List.range m).filter sel).length = nS m sel
  | 0, _ => rfl
  | m + 1, sel => by
    rw [List.range_succ_eq_map, List.filter_cons]
    have ih := nS_filter m fun i => sel (i + 1)
    rw [List.filter_map]
    show _ = (if sel 0 then 1 else 0) + nS m _
    rw [← ih]
    split
    · rw [List.length_cons, List.length_map]; show _ + 1 = 1 + _; rw [Nat.add_comm]; rfl
    · rw [List.length_map]; show _ = 0 + _; rw [Nat.zero_add]; rfl
/-- the chosen ones throw at most t, just l of them t -/
def ok (s t : Nat) : Nat → Nat → Nat → (Nat → Bool) → Bool
  | 0, _, l, _ => l == 0
  | m + 1, N, l, sel => if sel 0 then (if N % s < t then ok s t m (N / s) l (fun i => sel (i + 1)) else if N % s = t then (match l with
      | 0 => false
      | k + 1 => ok s t m (N / s) k fun i => sel (i + 1)) else false) else ok s t m (N / s) l fun i => sel (i + 1)
def b2 (b : Bool) : Nat := if b then 1 else 0
theorem S_less {s t : Nat} (h : t < s) (x y : Nat) : S s (fun d => if d < t then x else if d = t then y else 0) = t * x + y := by
  have key : ∀ k, S k (fun d => if d < t then x else if d = t then y else 0) = if k ≤ t then k * x else t * x + y := fun k => by
    induction k with
    | zero => rw [if_pos (Nat.zero_le _), Nat.zero_mul]; rfl
    | succ k ih =>
      show S k _ + (if k < t then x else if k = t then y else 0) = _
      rw [ih]
      by_cases c : k < t
      · rw [if_pos c, if_pos (by omega), if_pos (by omega), Nat.succ_mul]
      · by_cases c2 : k = t
        · subst c2; rw [if_pos (Nat.le_refl _), if_neg c, if_pos rfl, if_neg (by omega)]
        · rw [if_neg c, if_neg c2, if_neg (by omega), if_neg (by omega), Nat.add_zero]
  rw [key, if_neg (by omega)]
theorem okC {s t : Nat} (ht : t < s) : ∀ m l sel, S (s ^ m) (fun N => b2 (ok s t m N l sel)) = ch (nS m sel) l * t ^ (nS m sel - l) * s ^ (m - nS m sel)
  | 0, l, sel => by
    show S 1 (fun N => b2 (l == 0)) = ch 0 l * t ^ (0 - l) * s ^ (0 - 0)
    cases l with
    | zero => rfl
    | succ l => show 0 + b2 false = ch 0 (l + 1) * _ * _; rw [ch_gt (by omega)]; simp [b2]
  | m + 1, l, sel => by
    have hs : 0 < s := by omega
    have hle := nS_le m fun i => sel (i + 1)
    rw [Nat.pow_succ, S_block]
    have dm : ∀ q d, d < s → (q * s + d) % s = d ∧ (q * s + d) / s = q := fun q d hd => by
      rw [Nat.mul_comm]
      exact ⟨by rw [Nat.mul_add_mod, Nat.mod_eq_of_lt hd], by rw [Nat.mul_add_div hs, Nat.div_eq_of_lt hd, Nat.add_zero]⟩
    by_cases c : sel 0 = true
    · have e1 : ∀ q, S s (fun d => b2 (ok s t (m + 1) (q * s + d) l sel)) = t * b2 (ok s t m q l fun i => sel (i + 1)) + (match l with
          | 0 => 0
          | k + 1 => b2 (ok s t m q k fun i => sel (i + 1))) := fun q => by
        rw [← S_less ht]
        refine S_congr _ fun d hd => ?_
        obtain ⟨d1, d2⟩ := dm q d hd
        show b2 (if sel 0 then _ else _) = _
        rw [if_pos c, d1, d2]
        by_cases c1 : d < t
        · rw [if_pos c1, if_pos c1]
        · rw [if_neg c1, if_neg c1]
          by_cases c2 : d = t
          · rw [if_pos c2, if_pos c2]
            cases l <;> rfl
          · rw [if_neg c2, if_neg c2]; rfl
      have hk := fun l => okC ht m l fun i => sel (i + 1)
      rw [S_congr _ fun q _ => e1 q, S_add, S_mul, hk l]
      have en : nS (m + 1) sel = nS m (fun i => sel (i + 1)) + 1 := by
        show (if sel 0 then 1 else 0) + _ = _
        rw [if_pos c, Nat.add_comm]
      rw [en]
      generalize nS m (fun i => sel (i + 1)) = n at *
      rw [show m + 1 - (n + 1) = m - n by omega]
      cases l with
      | zero =>
        rw [S_zero, ch_zero, ch_zero, Nat.sub_zero, Nat.sub_zero, Nat.pow_succ]
        grind
      | succ k =>
        rw [hk k, ch_succ, show n + 1 - (k + 1) = n - k by omega]
        by_cases ck : k < n
        · rw [show n - k = (n - (k + 1)) + 1 by omega, Nat.pow_succ]
          grind
        · rw [ch_gt (show n < k + 1 by omega)]
          grind
    · have e1 : ∀ q, S s (fun d => b2 (ok s t (m + 1) (q * s + d) l sel)) = s * b2 (ok s t m q l fun i => sel (i + 1)) := fun q => by
        refine Eq.trans (S_congr (g := fun _ => b2 (ok s t m q l fun i => sel (i + 1))) _ fun d hd => ?_) (S_const _ _)
        obtain ⟨d1, d2⟩ := dm q d hd
        show b2 (if sel 0 then _ else _) = _
        rw [if_neg c, d2]
      rw [S_congr _ fun q _ => e1 q, S_mul, okC ht m l]
      have en : nS (m + 1) sel = nS m (fun i => sel (i + 1)) := by
        show (if sel 0 then 1 else 0) + _ = _
        rw [if_neg c, Nat.zero_add]
      rw [en, show m + 1 - nS m (fun i => sel (i + 1)) = (m - nS m fun i => sel (i + 1)) + 1 by omega, Nat.pow_succ]
      grind
theorem okP (s t : Nat) : ∀ m N l sel, ok s t m N l sel = true ↔ (∀ i, i < m → sel i = true → dig s N i ≤ t) ∧ nS m (fun i => sel i && decide (dig s N i = t)) = l
  | 0, N, l, sel => by
    show (l == 0) = true ↔ _
    rw [beq_iff_eq]
    exact ⟨fun e => ⟨fun i hi => by omega, e.symm⟩, fun e => e.2.symm⟩
  | m + 1, N, l, sel => by
    have ih := fun l => okP s t m (N / s) l fun i => sel (i + 1)
    have ed : (fun i => sel (i + 1) && decide (dig s N (i + 1) = t)) = fun i => sel (i + 1) && decide (dig s (N / s) i = t) := by
      funext i; rw [dig_succ]
    have e2 : nS (m + 1) (fun i => sel i && decide (dig s N i = t)) = (if (sel 0 && decide (N % s = t)) = true then 1 else 0) + nS m fun i => sel (i + 1) && decide (dig s (N / s) i = t) := by
      show (if (sel 0 && decide (dig s N 0 = t)) = true then 1 else 0) + nS m (fun i => sel (i + 1) && decide (dig s N (i + 1) = t)) = _
      rw [dig_zero, ed]
    rw [e2]
    have all : (∀ i, i < m + 1 → sel i = true → dig s N i ≤ t) ↔ (sel 0 = true → N % s ≤ t) ∧ ∀ i, i < m → sel (i + 1) = true → dig s (N / s) i ≤ t := by
      constructor
      · intro h
        exact ⟨fun h0 => by rw [← dig_zero]; exact h 0 (by omega) h0, fun i hi h1 => by rw [← dig_succ]; exact h (i + 1) (by omega) h1⟩
      · rintro ⟨h0, h1⟩ i hi hs
        cases i with
        | zero => rw [dig_zero]; exact h0 hs
        | succ i => rw [dig_succ]; exact h1 i (by omega) hs
    rw [all]
    show (if sel 0 then _ else _) = true ↔ _
    by_cases c : sel 0 = true
    · rw [if_pos c]
      by_cases c1 : N % s < t
      · rw [if_pos c1, ih l, if_neg (by simp; omega)]
        constructor
        · rintro ⟨a, b⟩; exact ⟨⟨fun _ => by omega, a⟩, by omega⟩
        · rintro ⟨⟨_, a⟩, b⟩; exact ⟨a, by omega⟩
      · rw [if_neg c1]
        by_cases c2 : N % s = t
        · rw [if_pos c2, if_pos (by simp [c, c2])]
          cases l with
          | zero =>
            constructor
            · intro h; cases h
            · rintro ⟨_, b⟩; omega
          | succ k =>
            show ok s t m (N / s) k _ = true ↔ _
            rw [ih k]
            constructor
            · rintro ⟨a, b⟩; exact ⟨⟨fun _ => by omega, a⟩, by omega⟩
            · rintro ⟨⟨_, a⟩, b⟩; exact ⟨a, by omega⟩
        · rw [if_neg c2]
          constructor
          · intro h; cases h
          · rintro ⟨⟨a, _⟩, b⟩
            have := a c
            omega
    · rw [if_neg c, ih l, if_neg (by simp [c])]
      constructor
      · rintro ⟨a, b⟩; exact ⟨⟨fun h => absurd h c, a⟩, by omega⟩
      · rintro ⟨⟨_, a⟩, b⟩; exact ⟨a, by omega⟩
theorem nS_congr : ∀ m {p q : Nat → Bool}, (∀ i, i < m → p i = q i) → nS m p = nS m q
  | 0, _, _, _ => rfl
  | m + 1, p, q, h => by
    show (if p 0 then 1 else 0) + nS m _ = (if q 0 then 1 else 0) + nS m _
    rw [h 0 (by omega), nS_congr m fun i hi => h (i + 1) (by omega)]
theorem nS_pos : ∀ m {p : Nat → Bool}, 0 < nS m p → ∃ i, i < m ∧ p i = true
  | 0, _, h => absurd h (Nat.lt_irrefl 0)
  | m + 1, p, h => by
    by_cases c : p 0 = true
    · exact ⟨0, by omega, c⟩
    · have h : 0 < (if p 0 then 1 else 0) + nS m fun i => p (i + 1) := h
      rw [if_neg c, Nat.zero_add] at h
      obtain ⟨i, hi, e⟩ := nS_pos m h
      exact ⟨i + 1, by omega, e⟩
theorem S_one {s t0 : Nat} {f : Nat → Nat} (h : t0 < s) (hf : ∀ t, t < s → f t = if t = t0 then 1 else 0) : S s f = 1 := by
  rw [S_congr s hf]
  have := S_less h 0 1
  rw [Nat.mul_zero, Nat.zero_add] at this
  refine Eq.trans (S_congr _ fun t _ => ?_) this
  by_cases c : t = t0
  · rw [if_pos c, if_neg (by omega)]
  · rw [if_neg c]; split <;> rfl
/-- how many throw the greatest of the chosen -/
def mxP (s m N : Nat) (sel : Nat → Bool) (i : Nat) : Bool := sel i && (List.range m).all fun j => !sel j || decide (dig s N j ≤ dig s N i)
def mx (s m N : Nat) (sel : Nat → Bool) : Nat := nS m (mxP s m N sel)
theorem mxP_iff {s m N : Nat} {sel : Nat → Bool} {i : Nat} : mxP s m N sel i = true ↔ sel i = true ∧ ∀ j, j < m → sel j = true → dig s N j ≤ dig s N i := by
  unfold mxP
  rw [Bool.and_eq_true, List.all_eq_true]
  refine and_congr_right fun _ => ⟨fun h j hj hs => ?_, fun h j hj => ?_⟩
  · have := h j (List.mem_range.mpr hj)
    rw [hs] at this
    simpa using this
  · cases hs : sel j with
    | false => rfl
    | true => simpa using h j (List.mem_range.mp hj) hs
theorem ok_mx {s t m N l : Nat} {sel : Nat → Bool} (hl : 1 ≤ l) (h : ok s t m N l sel = true) : mx s m N sel = l ∧ ∀ i, i < m → mxP s m N sel i = true → dig s N i = t := by
  obtain ⟨h1, h2⟩ := (okP s t m N l sel).mp h
  obtain ⟨i0, hi0, e0⟩ := nS_pos m (p := fun i => sel i && decide (dig s N i = t)) (by omega)
  obtain ⟨a, b⟩ := Bool.and_eq_true_iff.mp e0
  have b := of_decide_eq_true b
  have key : ∀ i, i < m → (mxP s m N sel i = true ↔ (sel i && decide (dig s N i = t)) = true) := fun i hi => by
    rw [mxP_iff, Bool.and_eq_true, decide_eq_true_eq]
    constructor
    · rintro ⟨x, y⟩
      have := y i0 hi0 a
      have := h1 i hi x
      exact ⟨x, by omega⟩
    · rintro ⟨x, y⟩
      exact ⟨x, fun j hj hs => by have := h1 j hj hs; omega⟩
  refine ⟨?_, fun i hi hm => ?_⟩
  · rw [← h2]
    exact nS_congr m fun i hi => Bool.eq_iff_iff.mpr (key i hi)
  · have := (key i hi).mp hm
    rw [Bool.and_eq_true, decide_eq_true_eq] at this
    exact this.2
theorem mx_ok {s m N l : Nat} {sel : Nat → Bool} {i : Nat} (hi : i < m) (hm : mxP s m N sel i = true) (h : mx s m N sel = l) : ok s (dig s N i) m N l sel = true := by
  obtain ⟨a, b⟩ := mxP_iff.mp hm
  refine (okP s _ m N l sel).mpr ⟨b, ?_⟩
  rw [← h]
  refine nS_congr m fun j hj => Bool.eq_iff_iff.mpr ?_
  rw [mxP_iff, Bool.and_eq_true, decide_eq_true_eq]
  constructor
  · rintro ⟨x, y⟩
    exact ⟨x, fun k hk hs => by have := b k hk hs; omega⟩
  · rintro ⟨x, y⟩
    have h1 := y i hi a
    have h2 := b j hj x
    exact ⟨x, by omega⟩
theorem sum_ok {s m N l : Nat} {sel : Nat → Bool} (hs : 1 ≤ s) (hl : 1 ≤ l) : S s (fun t => b2 (ok s t m N l sel)) = b2 (decide (mx s m N sel = l)) := by
  by_cases c : mx s m N sel = l
  · obtain ⟨i, hi, e⟩ := nS_pos m (p := mxP s m N sel) (show 0 < mx s m N sel by omega)
    have hk := mx_ok hi e c
    rw [decide_eq_true c]
    refine S_one (t0 := dig s N i) (dig_lt hs) fun t ht => ?_
    by_cases ct : t = dig s N i
    · subst ct; rw [hk, if_pos rfl]; rfl
    · rw [if_neg ct]
      cases h : ok s t m N l sel with
      | false => rfl
      | true => exact absurd ((ok_mx hl h).2 i hi e).symm ct
  · rw [decide_eq_false c]
    rw [S_congr (g := fun _ => 0) s fun t ht => by
      cases h : ok s t m N l sel with
      | false => rfl
      | true => exact absurd (ok_mx hl h).1 c, S_zero]
    rfl
/-- the throws by which just l of the chosen are left -/
theorem mxC {s m l : Nat} {sel : Nat → Bool} (hs : 1 ≤ s) (hl : 1 ≤ l) : S (s ^ m) (fun N => b2 (decide (mx s m N sel = l))) = od (nS m sel) s l * s ^ (m - nS m sel) := by
  rw [S_congr _ fun N _ => (sum_ok (sel := sel) hs hl).symm, S_swap, S_congr _ fun t ht => okC ht m l sel]
  unfold od wy
  rw [if_pos hl]
  generalize nS m sel = n
  rw [Nat.mul_assoc, Nat.mul_comm (S s _), ← S_mul, ← S_mul]
  refine S_congr _ fun t _ => ?_
  grind
theorem nS_true : ∀ m, nS m (fun _ => true) = m
  | 0 => rfl
  | m + 1 => by show 1 + nS m _ = _; rw [nS_true m]; omega
end Th

namespace Th
/-! ### throws counted house by house: the greatest so far, and how often -/
def Lop (s : Nat) (φ : Nat → Nat → Nat) (g o : Nat) : Nat := (g - 1) * φ g o + (if 0 < g then φ g (o + 1) else 0) + S (s - g) fun d => φ (g + 1 + d) 1
def itL (s : Nat) : Nat → (Nat → Nat → Nat) → Nat → Nat → Nat
  | 0, φ => φ
  | m + 1, φ => Lop s (itL s m φ)
theorem itL_comm (s : Nat) (φ : Nat → Nat → Nat) : ∀ m, itL s m (Lop s φ) = itL s (m + 1) φ
  | 0 => rfl
  | m + 1 => by
    show Lop s (itL s m (Lop s φ)) = _
    rw [itL_comm s φ m]; rfl
def phi (l : Nat) (_ o : Nat) : Nat := if o = l then 1 else 0
def Uq (s l m g : Nat) : Nat := S (s - g) fun i => ch m l * (g + i) ^ (m - l)
def Aq (s l m g o : Nat) : Nat := (if o ≤ l then ch m (l - o) * (g - 1) ^ (m - (l - o)) else 0) + Uq s l m g
theorem S_tri (f : Nat → Nat) : ∀ n g, S n (fun d => S (n - 1 - d) fun i => f (g + 1 + d + i)) = S n fun k => k * f (g + k)
  | 0, _ => rfl
  | n + 1, g => by
    rw [S_shift, S_shift (fun k => k * f (g + k))]
    have e : S n (fun i => S (n + 1 - 1 - (i + 1)) fun j => f (g + 1 + (i + 1) + j)) = S n fun d => S (n - 1 - d) fun i => f (g + 1 + 1 + d + i) := by
      refine S_congr _ fun i hi => ?_
      rw [show n + 1 - 1 - (i + 1) = n - 1 - i by omega]
      refine S_congr _ fun j _ => ?_
      rw [show g + 1 + (i + 1) + j = g + 1 + 1 + i + j by omega]
    rw [e, S_tri f n (g + 1)]
    have e2 : S n (fun i => (i + 1) * f (g + (i + 1))) = S n (fun i => i * f (g + 1 + i)) + S n fun i => f (g + 1 + i) := by
      rw [← S_add]
      refine S_congr _ fun i _ => ?_
      rw [show g + (i + 1) = g + 1 + i by omega, Nat.succ_mul]
    rw [e2]
    show S (n + 1 - 1 - 0) (fun i => f (g + 1 + 0 + i)) + _ = 0 * f (g + 0) + _
    rw [show n + 1 - 1 - 0 = n by omega]
    simp only [Nat.add_zero]
    omega
theorem ch_pow (m k x : Nat) : x * (ch m k * x ^ (m - k)) = ch m k * x ^ (m + 1 - k) := by
  by_cases c : k ≤ m
  · rw [show m + 1 - k = (m - k) + 1 by omega, Nat.pow_succ]; grind
  · rw [ch_gt (by omega)]; simp
theorem U_step {s l m g : Nat} (hl : 1 ≤ l) (x : Nat) (hx : x = g) : x * Uq s l m g + S (s - g) (fun d => Aq s l m (g + 1 + d) 1) = Uq s l (m + 1) g := by
  subst hx
  unfold Aq
  rw [S_add]
  have e1 : S (s - x) (fun d => Uq s l m (x + 1 + d)) = S (s - x) fun k => k * (ch m l * (x + k) ^ (m - l)) := by
    rw [← S_tri (fun t => ch m l * t ^ (m - l)) (s - x) x]
    refine S_congr _ fun d hd => ?_
    unfold Uq
    rw [show s - (x + 1 + d) = s - x - 1 - d by omega]
  rw [e1]
  unfold Uq
  rw [← S_mul, ← S_add, ← S_add]
  refine S_congr _ fun i hi => ?_
  rw [if_pos hl, show x + 1 + i - 1 = x + i by omega]
  obtain ⟨k, rfl⟩ : ∃ k, l = k + 1 := ⟨l - 1, by omega⟩
  have h1 := ch_pow m (k + 1) (x + i)
  rw [ch_succ, Nat.add_sub_cancel, show m + 1 - (k + 1) = m - k by omega] at *
  rw [Nat.add_mul, ← h1]
  generalize (x + i) ^ (m - k) = a
  generalize ch m (k + 1) * (x + i) ^ (m - (k + 1)) = b
  grind
theorem L_A {s l m g o : Nat} (hl : 1 ≤ l) (hg : 1 ≤ g) : Lop s (Aq s l m) g o = Aq s l (m + 1) g o := by
  have h := U_step (s := s) (m := m) (g := g) hl g rfl
  unfold Lop
  rw [if_pos (by omega)]
  have e : (g - 1) * Aq s l m g o + Aq s l m g (o + 1) = (if o ≤ l then ch (m + 1) (l - o) * (g - 1) ^ (m + 1 - (l - o)) else 0) + g * Uq s l m g := by
    unfold Aq
    have hU : (g - 1) * Uq s l m g + Uq s l m g = g * Uq s l m g := by
      obtain ⟨k, rfl⟩ : ∃ k, g = k + 1 := ⟨g - 1, by omega⟩
      rw [Nat.add_sub_cancel, Nat.succ_mul]
    by_cases c : o ≤ l
    · rw [if_pos c, if_pos c]
      by_cases c2 : o = l
      · subst c2
        rw [if_neg (by omega), Nat.sub_self, ch_zero, ch_zero, Nat.sub_zero, Nat.sub_zero, Nat.pow_succ]
        grind
      · rw [if_pos (by omega)]
        obtain ⟨k, hk⟩ : ∃ k, l - o = k + 1 := ⟨l - o - 1, by omega⟩
        have h1 := ch_pow m (k + 1) (g - 1)
        have hk2 : l - (o + 1) = k := by omega
        have hk3 : m + 1 - (k + 1) = m - k := by omega
        rw [hk3] at h1
        rw [hk, hk2, hk3, ch_succ, Nat.mul_add, h1, Nat.add_mul]
        omega
    · rw [if_neg c, if_neg (by omega), if_neg c, Nat.zero_add, Nat.zero_add]
      exact hU
  rw [e, Nat.add_assoc, h]
  unfold Aq
  rfl
theorem it_A {s l : Nat} (hl : 1 ≤ l) : ∀ m g o, 1 ≤ g → itL s m (phi l) g o = Aq s l m g o
  | 0, g, o, _ => by
    show phi l g o = _
    unfold phi Aq Uq
    rw [S_congr (g := fun _ => 0) _ fun i _ => by rw [ch_gt (by omega), Nat.zero_mul], S_zero, Nat.add_zero]
    by_cases c : o = l
    · subst c; rw [if_pos rfl, if_pos (Nat.le_refl _), Nat.sub_self]; rfl
    · rw [if_neg c]
      split
      · rw [ch_gt (by omega), Nat.zero_mul]
      · rfl
  | m + 1, g, o, hg => by
    rw [← L_A hl hg]
    show Lop s (itL s m (phi l)) g o = _
    unfold Lop
    rw [it_A hl m g o hg, it_A hl m g (o + 1) hg]
    congr 1
    exact S_congr _ fun d _ => it_A hl m (g + 1 + d) 1 (by omega)
/-- what the going through comes to -/
theorem it_od {s l m : Nat} (hl : 1 ≤ l) (hm : 1 ≤ m) : itL s m (phi l) 0 0 = od m s l := by
  obtain ⟨k, rfl⟩ : ∃ k, m = k + 1 := ⟨m - 1, by omega⟩
  show Lop s (itL s k (phi l)) 0 0 = _
  unfold Lop
  rw [if_neg (by omega)]
  have e : S (s - 0) (fun d => itL s k (phi l) (0 + 1 + d) 1) = S (s - 0) fun d => Aq s l k (0 + 1 + d) 1 := S_congr _ fun d _ => it_A hl k _ 1 (by omega)
  have h := U_step (s := s) (m := k) (g := 0) hl 0 rfl
  rw [e]
  have h2 : 0 * Uq s l k 0 = 0 := Nat.zero_mul _
  rw [h2, Nat.zero_add] at h
  rw [show (0 - 1) * itL s k (phi l) 0 0 = 0 by simp, h]
  unfold Uq od wy
  rw [if_pos hl, S_mul, Nat.sub_zero, Nat.zero_add]
  congr 1
  exact S_congr _ fun i _ => by rw [Nat.zero_add]
/-! ### the entries -/
abbrev En := (Nat × Nat) × Nat
def TT (L : List En) (φ : Nat → Nat → Nat) : Nat := (L.map fun e => e.2 * φ e.1.1 e.1.2).sum
def lk (L : List En) (k : Nat × Nat) : Nat := ((L.find? fun e => decide (e.1 = k)).map (·.2)).getD 0
def putL (L : List En) (k : Nat × Nat) (v : Nat) : List En := if (L.any fun e => decide (e.1 = k)) = true then L.map (fun e => if e.1 = k then (e.1, v) else e) else L ++ [(k, v)]
/-- unlike keys, within bounds -/
structure Eo (s m : Nat) (L : List En) : Prop where
  nd : (L.map (·.1)).Nodup
  bd : ∀ e ∈ L, e.1.1 ≤ s ∧ e.1.2 ≤ m
theorem putL_keys {L : List En} {k : Nat × Nat} {v : Nat} : (putL L k v).map (·.1) = if k ∈ L.map (·.1) then L.map (·.1) else L.map (·.1) ++ [k] := by
  unfold putL
  have ha : (L.any fun e => decide (e.1 = k)) = true ↔ k ∈ L.map (·.1) := by
    rw [List.any_eq_true, List.mem_map]
    exact ⟨fun ⟨e, h1, h2⟩ => ⟨e, h1, of_decide_eq_true h2⟩, fun ⟨e, h1, h2⟩ => ⟨e, h1, decide_eq_true h2⟩⟩
  by_cases c : k ∈ L.map (·.1)
  · rw [if_pos (ha.mpr c), if_pos c, List.map_map]
    refine List.map_congr_left fun e _ => ?_
    show (if e.1 = k then (e.1, v) else e).1 = e.1
    split <;> rfl
  · rw [if_neg (fun z => c (ha.mp z)), if_neg c, List.map_append]; rfl
theorem Eo.put {s m : Nat} {L : List En} (h : Eo s m L) {k : Nat × Nat} {v : Nat} (h1 : k.1 ≤ s) (h2 : k.2 ≤ m) : Eo s m (putL L k v) where
  nd := by
    rw [putL_keys]
    split
    · exact h.nd
    · rename_i c
      rw [List.nodup_append]
      exact ⟨h.nd, by simp, fun a ha b hb e => by rw [List.mem_singleton.mp hb] at e; exact c (e ▸ ha)⟩
  bd := fun e he => by
    have : e.1 ∈ (putL L k v).map (·.1) := List.mem_map.mpr ⟨e, he, rfl⟩
    rw [putL_keys] at this
    have key : ∀ x ∈ L.map (·.1), x.1 ≤ s ∧ x.2 ≤ m := fun x hx => by
      obtain ⟨e, he, rfl⟩ := List.mem_map.mp hx
      exact h.bd e he
    split at this
    · exact key _ this
    · rcases List.mem_append.mp this with z | z
      · exact key _ z
      · rw [List.mem_singleton.mp z]; exact ⟨h1, h2⟩
theorem TT_cons (e : En) (L : List En) (φ : Nat → Nat → Nat) : TT (e :: L) φ = e.2 * φ e.1.1 e.1.2 + TT L φ := by unfold TT; rw [List.map_cons, List.sum_cons]
theorem TT_append (L M : List En) (φ : Nat → Nat → Nat) : TT (L ++ M) φ = TT L φ + TT M φ := by unfold TT; rw [List.map_append, List.sum_append_nat]
theorem TT_put : ∀ {L : List En} (_ : (L.map (·.1)).Nodup) (k : Nat × Nat) (x : Nat) (φ : Nat → Nat → Nat), TT (putL L k (lk L k + x)) φ = TT L φ + x * φ k.1 k.2
  | [], _, k, x, φ => by
    show TT [(k, 0 + x)] φ = 0 + _
    rw [TT_cons]; show (0 + x) * φ k.1 k.2 + 0 = 0 + x * φ k.1 k.2; rw [Nat.zero_add, Nat.zero_add, Nat.add_zero]
  | e :: L, hn, k, x, φ => by
    rw [List.map_cons, List.nodup_cons] at hn
    by_cases c : e.1 = k
    · have e1 : lk (e :: L) k = e.2 := by unfold lk; rw [List.find?_cons]; simp [c]
      have e2 : putL (e :: L) k (lk (e :: L) k + x) = (e.1, e.2 + x) :: L := by
        unfold putL
        rw [List.any_cons, decide_eq_true c, Bool.true_or, if_pos rfl, List.map_cons, if_pos c, e1]
        congr 1
        refine (List.map_congr_left fun a ha => ?_).trans (List.map_id _)
        rw [if_neg fun z => hn.1 (List.mem_map.mpr ⟨a, ha, z.trans c.symm⟩)]; rfl
      rw [e2, TT_cons, TT_cons, ← c]
      rw [show (((e.1, e.2 + x) : En).2) = e.2 + x from rfl, Nat.add_mul]
      show e.2 * φ e.1.1 e.1.2 + x * φ e.1.1 e.1.2 + TT L φ = e.2 * φ e.1.1 e.1.2 + TT L φ + x * φ e.1.1 e.1.2
      omega
    · have e1 : lk (e :: L) k = lk L k := by unfold lk; rw [List.find?_cons, decide_eq_false c]
      have e2 : putL (e :: L) k (lk (e :: L) k + x) = e :: putL L k (lk L k + x) := by
        unfold putL
        rw [List.any_cons, decide_eq_false c, Bool.false_or, e1]
        split
        · rw [List.map_cons, if_neg c]
        · rfl
      rw [e2, TT_cons, TT_cons, TT_put hn.2 k x φ]; omega
theorem lk_get : ∀ {L : List En} (_ : (L.map (·.1)).Nodup) {i : Nat} {e : En}, L[i]? = some e → (L.find? fun a => decide (a.1 = e.1)) = some e
  | [], _, i, e, h => by simp at h
  | a :: L, hn, 0, e, h => by
    simp at h; subst h
    rw [List.find?_cons, decide_eq_true rfl]
  | a :: L, hn, i + 1, e, h => by
    rw [List.map_cons, List.nodup_cons] at hn
    rw [List.getElem?_cons_succ] at h
    rw [List.find?_cons, decide_eq_false fun z => hn.1 (List.mem_map.mpr ⟨e, List.mem_of_getElem? h, z.symm⟩)]
    exact lk_get hn.2 h
theorem nodup_le {α : Type} [DecidableEq α] : ∀ {xs ys : List α}, xs.Nodup → (∀ x ∈ xs, x ∈ ys) → xs.length ≤ ys.length
  | [], _, _, _ => Nat.zero_le _
  | x :: xs, ys, hn, hs => by
    have hx := hs x (List.mem_cons_self ..)
    have h2 := nodup_le (ys := ys.erase x) (List.nodup_cons.mp hn).2 fun y hy => (List.mem_erase_of_ne (fun e : y = x => (List.nodup_cons.mp hn).1 (by rw [← e]; exact hy))).mpr (hs y (List.mem_cons_of_mem _ hy))
    rw [List.length_erase_of_mem hx] at h2
    have := List.length_pos_of_mem hx
    rw [List.length_cons]; omega
/-- from c on, one of the first length + 1 steps round m comes to what is not there -/
theorem Eo.len {s m : Nat} {L : List En} (h : Eo s m L) : L.length ≤ (s + 1) * (m + 1) := by
  have n1 : ((L.map (·.1)).map fun k => k.1 * (m + 1) + k.2).Nodup := by
    refine List.Pairwise.map _ (fun a b hab e => ?_) (List.Pairwise.imp_of_mem (S := fun a b => a ≠ b ∧ a.2 ≤ m ∧ b.2 ≤ m) ?_ h.nd)
    · obtain ⟨n, ha, hb⟩ := hab
      have e1 : (a.1 * (m + 1) + a.2) / (m + 1) = a.1 := by rw [Nat.mul_comm, Nat.mul_add_div (by omega), Nat.div_eq_of_lt (by omega), Nat.add_zero]
      have e2 : (b.1 * (m + 1) + b.2) / (m + 1) = b.1 := by rw [Nat.mul_comm, Nat.mul_add_div (by omega), Nat.div_eq_of_lt (by omega), Nat.add_zero]
      have e3 : a.1 = b.1 := by rw [← e1, ← e2, e]
      rw [e3] at e
      exact n (Prod.ext e3 (by omega))
    · intro a b ha hb n
      obtain ⟨x, hx, rfl⟩ := List.mem_map.mp ha
      obtain ⟨y, hy, rfl⟩ := List.mem_map.mp hb
      exact ⟨n, (h.bd x hx).2, (h.bd y hy).2⟩
  have sub : ((L.map (·.1)).map fun k => k.1 * (m + 1) + k.2) ⊆ List.range ((s + 1) * (m + 1)) := fun x hx => by
    obtain ⟨k, hk, rfl⟩ := List.mem_map.mp hx
    obtain ⟨e, he, rfl⟩ := List.mem_map.mp hk
    obtain ⟨h1, h2⟩ := h.bd e he
    rw [List.mem_range]
    have : e.1.1 * (m + 1) ≤ s * (m + 1) := Nat.mul_le_mul_right _ h1
    rw [Nat.succ_mul]; omega
  have := nodup_le n1 sub
  rwa [List.length_map, List.length_map, List.length_range] at this
end Th
namespace M
open PySem L2
local macro_rules | `(tactic| walk_at "m") => `(tactic| simp only [mVar, mC, mOp, mUn, mNil, mCons, mTup, mLst, mCa, mTest, mAnd, mOr, mNot, mAndV, mOrV, mNotV, mIfE, mChain, mSl, mNo, mPart, mBM, mCall, mIsi, mLc, mIter, mRange1, mRange2, mRange3, mEnum, mZip,
  q_add1, q_add2, q_add3, q_add4, q_sub, q_mul1, q_mul2, q_fdiv, q_fdivN, q_mod, q_modN, q_pow, q_shl, q_neg, q_lt, q_le, q_gt, q_ge, q_eq1, q_eq2, q_eq3, q_eq4, q_eq5, q_eq6, q_eq7, q_eq8, q_eq9, q_ne1, q_ne2, q_ne3, q_ne4, q_ne5, q_ne6, q_ne7, q_ne8, q_ne9, q_iadd, q_ix1, q_ix2, q_ix3, q_ix4, q_sl1, q_sl2, q_sl3, q_len1, q_len2, q_len3, q_len4, q_abs, q_max2, q_min2, q_int1, q_int2, q_tuple1, q_tuple2, q_tuple3, q_list1, q_list2, q_list3, q_sum, q_all, q_any, q_maxL, q_minL, q_maxA1, q_maxA2, q_minA1, q_minA2, q_sorted, q_is1, q_is2, q_is3, q_is4, q_in1, q_in2, q_in3, q_nin1, q_nin2, q_nin3, q_setL, q_app, q_ext, q_popAt, q_pop, q_ty1, q_ty2, q_ty3, q_ty4, q_ty5, q_ty6, q_ty7, q_tym1, q_isN1, q_isN2, q_isN3, q_isN4, q_isN5, q_isN6, q_step1, q_step2, inF_ints, flat_ints, mDisp0, mDisp1, mDispN, mPairs, mDGetT, mDGet2T, mDisp0T, mDisp1T, mKeysF, mLC, q_dget, q_dgetS, q_dgetI, q_putS, q_putI, dV_cons, q_gtT1, q_gtT2, q_ltT1, q_ltT2, Sum.inr.injEq, kn_cells_at, kn_cells_digits, kn_cells_turn, kn_at_cells, kn_at_digits, kn_at_turn, kn_digits_cells, kn_digits_at, kn_digits_turn, kn_turn_cells, kn_turn_at, kn_turn_digits, Sum.inl.injEq, q_ty8, q_mulT, q_maxTup, mTupR1, mLstR1, mRev, mYes, mwipe, flatD, asg, asgs, at0, at1, at2, at3, at4, at5, ixN,
  mstart, List.length_map, List.map_cons, List.map_nil, List.length_cons, List.length_nil, List.cons_append, List.nil_append, List.append_nil, List.replicate_succ, List.replicate_zero, Nat.reduceAdd, Nat.reduceSub, Nat.zero_add, Nat.sub_zero, Int.cast_ofNat_Int, Int.reduceLE, Int.reduceLT, Int.reduceToNat, Int.toNat_zero, Int.toNat_one,
  List.getElem?_cons_zero, List.getElem?_cons_succ, List.set_cons_zero, List.set_cons_succ, Option.some.injEq, exists_eq_left', exists_eq_left, exists_eq_right, D.int.injEq, D.bl.injEq, D.str.injEq, D.ref.injEq, D.tup.injEq, MO.lst.injEq, MO.dK.injEq, MO.dT.injEq, true_and, and_true, if_true, if_false, ite_true, ite_false, reduceIte, Bool.not_true, Bool.not_false, Bool.false_eq_true, exists_and_left, and_assoc, ne_eq, not_false_eq_true, not_true_eq_false, List.cons.injEq, exists_const, exists_eq, exists_eq', srcR_item, srcR_n, srcD_n, srcD_item, srcE_n, srcE_item, srcZ_n, srcZ_item, Int.zero_add, Int.mul_one, isTy, String.reduceEq, String.reduceBEq, Bool.or_true, Bool.true_or, Bool.or_false, Bool.false_or, Bool.and_false, Bool.false_and, Bool.and_true, Bool.true_and, decide_true, decide_false, sizeLine_eq, up_same, up_up, Nat.reduceLeDiff, Nat.reduceLT, *])
local macro_rules | `(tactic| walk_at "n") => `(tactic| ((repeat (with_reducible refine seq_ ?_)); (with_reducible first | refine set_ ?_ | refine put_ ?_ | refine putD_ ?_ | refine putDT_ ?_ | refine lockT_ ?_ | refine drop_ ?_ | refine ret_ ?_ | refine if_ ?_ | refine par_ ?_ | refine for_ ?_ | refine aug_ ?_ | refine asg_ ?_ | refine asgL_ ?_ | refine next_ ?_ | refine retN_ ?_ | refine brk_ ?_ | refine ct_ ?_); (try walk_at "m")))
local macro_rules | `(tactic| walk_at "r") => `(tactic| (walk_at "n"; repeat walk_at "n"))
local macro_rules | `(tactic| walk_at "w") => `(tactic| ((try walk_at "m"); walk_at "n"))
namespace Law
/-! ### contracts -/
def Hand (h : MH) (a : Addr) (t : Nat) : Prop := ∃ s0 s1 s2 : Int, h a = some (.lst [.int s0, .int s1, .int s2]) ∧ 0 ≤ s1 ∧ s1 < 2 ^ 62 ∧ 0 ≤ s2 ∧ s2 + t ≤ 2 ^ 60
theorem Hand.less {h : MH} {a : Addr} {t u : Nat} (x : Hand h a t) (l : u ≤ t) : Hand h a u := let ⟨s0, s1, s2, e, a1, a2, a3, a4⟩ := x; ⟨s0, s1, s2, e, a1, a2, a3, by omega⟩
theorem Hand.fr {h h' : MH} {a : Addr} {t : Nat} (x : Hand h a t) (f : Fr [] h h') : Hand h' a t := let ⟨s0, s1, s2, e, r⟩ := x; ⟨s0, s1, s2, f.at0 e, r⟩
theorem Hand.put {h : MH} {a p : Addr} {t : Nat} {o : MO} (x : Hand h a t) (n : a ≠ p) : Hand (up h p o) a t := let ⟨s0, s1, s2, e, r⟩ := x; ⟨s0, s1, s2, by rw [up_ne n]; exact e, r⟩
theorem Hand.ne {h : MH} {a p : Addr} {t : Nat} (x : Hand h a t) (n : h p = none) : a ≠ p := let ⟨_, _, _, e, _⟩ := x; ne_of e n
theorem Hand.some {h : MH} {a : Addr} {t : Nat} (x : Hand h a t) : h a ≠ none := let ⟨_, _, _, e, _⟩ := x; fun z => by rw [z] at e; cases e
def c_law_hand : MSp := fun ds h Q _ => ∃ (ns : List Int) (k : Nat), ds = [.rl (ns.map .int), .int k] ∧ k ≤ 1000 ∧ ∀ p h', Fr [] h h' → h p = none → Hand h' p (2 ^ 59) → Q (.ref p) h'
def c_law_take : MSp := fun ds h Q _ => ∃ (a : Addr) (many : Int) (t : Nat), ds = [.ref a, .int many] ∧ Hand h a (t + 1) ∧ 0 < many ∧ many < 2 ^ 200 ∧ ∀ r h', 0 ≤ r → r < many → Hand h' a t → Fr [a] h h' → Q (.int r) h'
def c_law_of : MSp := fun ds h Q _ => ∃ (a b : Addr) (t : Nat) (xs : List D), ds = [.ref a, .ref b] ∧ Hand h a (t + 1) ∧ h b = some (.lst xs) ∧ a ≠ b ∧ 0 < xs.length ∧ xs.length ≤ 1000 ∧ ∀ x h', x ∈ xs → Hand h' a t → Fr [a] h h' → Q x h'
/-- ints, None, tuples of these -/
def Dd : Nat → D → Prop
  | 0, _ => False
  | n + 1, d => match d with
    | .non => True
    | .int _ => True
    | .tup ds => ds.length ≤ 100000 ∧ ∀ x ∈ ds, Dd n x
    | _ => False
def c_law_same : Nat → MSp
  | 0 => fun _ _ _ _ => False
  | n + 1 => fun ds h Q _ => ∃ d, ds = [d, d] ∧ Dd (n + 1) d ∧ ∀ h', Fr [] h h' → Q (.bl true) h'
open FrM Th
/-! ### fractions as rationals -/
def dR (q : Rat) : D := .tup [.int q.num, .int (q.den : Int)]
def c_common : MSp := fun ds h Q _ => ∃ a b : Int, ds = [.int a, .int b] ∧ Q (.int (Int.gcd a b)) h
def c_fraction : MSp := fun ds h Q _ => ∃ a b : Int, ds = [.int a, .int b] ∧ b ≠ 0 ∧ b.natAbs.log2 < 9000 ∧ Q (dR ((a : Rat) / (b : Rat))) h
def c_added : MSp := fun ds h Q _ => ∃ p q : Rat, ds = [dR p, dR q] ∧ Sz p ∧ Sz q ∧ Q (dR (p + q)) h
def c_multiplied : MSp := fun ds h Q _ => ∃ p q : Rat, ds = [dR p, dR q] ∧ Sz p ∧ Sz q ∧ Q (dR (p * q)) h
def c_power : MSp := fun ds h Q _ => ∃ a k : Nat, ds = [.int a, .int k] ∧ a < 2 ^ 60 ∧ k ≤ 4096 ∧ Q (.int ((a ^ k : Nat) : Int)) h
def c_lots : MSp := fun ds h Q _ => ∃ n k : Nat, ds = [.int n, .int k] ∧ k ≤ n ∧ n ≤ 60 ∧ Q (.int (ch n k : Int)) h
def PZ (s n : Nat) (l : Int) : Rat := if 1 ≤ l ∧ l ≤ n then PQ s n l.toNat else 0
def c_chance : MSp := fun ds h Q _ => ∃ (n s : Nat) (l : Int), ds = [.int n, .int s, .int l] ∧ 1 ≤ s ∧ s ≤ 100 ∧ n ≤ 60 ∧ ∀ h', Fr [] h h' → Q (dR (PZ s n l)) h'
def c_law_low : MSp := fun ds h Q _ => ∃ a b : Int, ds = [.int a, .int b] ∧ 0 < b ∧ b.natAbs.log2 < 9000 ∧ Q (dR ((a : Rat) / (b : Rat))) h
def c_law_plus : MSp := c_added
def c_law_times : MSp := c_multiplied
def c_law_power : MSp := c_power
theorem len_common : ∀ ds h Q E, c_common ds h Q E → ds.length = 2 := by rintro ds h Q E ⟨a, b, rfl, _⟩; rfl
theorem len_fraction : ∀ ds h Q E, c_fraction ds h Q E → ds.length = 2 := by rintro ds h Q E ⟨a, b, rfl, _⟩; rfl
theorem len_added : ∀ ds h Q E, c_added ds h Q E → ds.length = 2 := by rintro ds h Q E ⟨a, b, rfl, _⟩; rfl
theorem len_multiplied : ∀ ds h Q E, c_multiplied ds h Q E → ds.length = 2 := by rintro ds h Q E ⟨a, b, rfl, _⟩; rfl
theorem len_power : ∀ ds h Q E, c_power ds h Q E → ds.length = 2 := by rintro ds h Q E ⟨a, b, rfl, _⟩; rfl
theorem len_lots : ∀ ds h Q E, c_lots ds h Q E → ds.length = 2 := by rintro ds h Q E ⟨a, b, rfl, _⟩; rfl
theorem len_chance : ∀ ds h Q E, c_chance ds h Q E → ds.length = 3 := by rintro ds h Q E ⟨a, b, c, rfl, _⟩; rfl
theorem len_law_low : ∀ ds h Q E, c_law_low ds h Q E → ds.length = 2 := by rintro ds h Q E ⟨a, b, rfl, _⟩; rfl
theorem len_law_plus : ∀ ds h Q E, c_law_plus ds h Q E → ds.length = 2 := by rintro ds h Q E ⟨a, b, rfl, _⟩; rfl
theorem len_law_times : ∀ ds h Q E, c_law_times ds h Q E → ds.length = 2 := by rintro ds h Q E ⟨a, b, rfl, _⟩; rfl
theorem len_law_power : ∀ ds h Q E, c_law_power ds h Q E → ds.length = 2 := by rintro ds h Q E ⟨a, b, rfl, _⟩; rfl
/-! ### lists of fractions, the table -/
def lR (N : Nat) (f : Nat → Rat) : List D := (List.range (N + 1)).map fun n => dR (f n)
def Tab (h : MH) (a : Addr) (s N : Nat) : Prop := ∃ as : List Addr, h a = some (.lst (as.map .ref)) ∧ as.length = N + 1 ∧ ∀ (n : Nat) (b : Addr), as[n]? = some b → h b = some (.lst (lR n (PQ s n)))
theorem Tab.fr {h h' : MH} {a : Addr} {s N : Nat} (x : Tab h a s N) (f : Fr [] h h') : Tab h' a s N := let ⟨as, e, l, r⟩ := x; ⟨as, f.at0 e, l, fun n b hb => f.at0 (r n b hb)⟩
theorem lR_len {N : Nat} {f : Nat → Rat} : (lR N f).length = N + 1 := by unfold lR; rw [List.length_map, List.length_range]
theorem lR_get {N : Nat} {f : Nat → Rat} {i : Nat} (h : i ≤ N) : (lR N f)[i]? = some (dR (f i)) := by
  unfold lR
  rw [List.getElem?_map, List.getElem?_range (by omega)]; rfl
theorem lR_at {N : Nat} {f : Nat → Rat} {i : Nat} (h : i ≤ N) : atI (lR N f) (i : Int) = some (dR (f i)) := atI_nat (lR_get h)
theorem lR_set {N : Nat} {f : Nat → Rat} {i : Nat} {v : Rat} (h : i ≤ N) : (lR N f).set i (dR v) = lR N fun n => if n = i then v else f n := by
  refine List.ext_getElem? fun j => ?_
  by_cases c : j ≤ N
  · rw [lR_get c]
    by_cases e : j = i
    · subst e
      rw [List.getElem?_set_self (by rw [lR_len]; omega), if_pos rfl]
    · rw [List.getElem?_set_ne (Ne.symm e), lR_get c, if_neg e]
  · rw [List.getElem?_eq_none (by rw [List.length_set, lR_len]; omega), List.getElem?_eq_none (by rw [lR_len]; omega)]
theorem lR_congr {N : Nat} {f g : Nat → Rat} (h : ∀ i, i ≤ N → f i = g i) : lR N f = lR N g := by
  unfold lR
  refine List.map_congr_left fun i hi => ?_
  rw [h i (by have := List.mem_range.mp hi; omega)]
theorem dR_inj {p q : Rat} : dR p = dR q ↔ p = q := by
  constructor
  · intro h
    unfold dR at h
    simp only [D.tup.injEq, List.cons.injEq, D.int.injEq, and_true] at h
    exact Rat.ext h.1 (by omega)
  · rintro rfl; rfl
theorem dR_pu (q : Rat) : Pu 9 (dR q) := by
  intro x hx
  rcases List.mem_cons.mp hx with rfl | hx
  · trivial
  · rw [List.mem_singleton.mp hx]; trivial
def c_chances : MSp := fun ds h Q _ => ∃ many s : Nat, ds = [.int many, .int s] ∧ 1 ≤ s ∧ s ≤ 100 ∧ many ≤ 60 ∧ ∀ a h', Fr [] h h' → Tab h' a s many → Q (.ref a) h'
def c_round_on : MSp := fun ds h Q _ => ∃ (a b : Addr) (s many N : Nat) (f : Nat → Rat), ds = [.ref a, .ref b] ∧ h a = some (.lst (lR many f)) ∧ Tab h b s many ∧ 1 ≤ s ∧ s ≤ 100 ∧ 1 ≤ many ∧ many ≤ 60 ∧ Sh many f ∧ 0 < N ∧ (∀ n, Iz N (f n)) ∧ N * s ^ many < 2 ^ 4000 ∧ ∀ a' h', Fr [] h h' → h a' = none → h' a' = some (.lst (lR many (step s many f))) → Q (.ref a') h'
/-- what shares tells -/
def shL (s many r : Nat) : List Rat := fH s many 0 1 :: ((List.range r).map fun t => fH s many (t + 1) 1 + (-1) * fH s many t 1) ++ [1 + (-1) * fH s many r 1]
def c_shares : MSp := fun ds h Q _ => ∃ many s r : Nat, ds = [.int many, .int s, .int r] ∧ 1 ≤ s ∧ s ≤ 100 ∧ 1 ≤ many ∧ many ≤ 60 ∧ r ≤ 1000 ∧ s ^ (many * (r + 2)) < 2 ^ 4000 ∧ ∀ h', Fr [] h h' → Q (.tup ((shL s many r).map dR)) h'
theorem len_chances : ∀ ds h Q E, c_chances ds h Q E → ds.length = 2 := by rintro ds h Q E ⟨a, b, rfl, _⟩; rfl
theorem len_round_on : ∀ ds h Q E, c_round_on ds h Q E → ds.length = 2 := by rintro ds h Q E ⟨a, b, c, d, e, f, rfl, _⟩; rfl
theorem len_shares : ∀ ds h Q E, c_shares ds h Q E → ds.length = 3 := by rintro ds h Q E ⟨a, b, c, rfl, _⟩; rfl
def c_mean_rounds : MSp := fun ds h Q _ => ∃ n s : Nat, ds = [.int n, .int s] ∧ 2 ≤ s ∧ s ≤ 100 ∧ 1 ≤ n ∧ n ≤ 60 ∧ s ^ (n * n + n) < 2 ^ 3900 ∧ ∀ h', Fr [] h h' → Q (dR (mean s n)) h'
theorem len_mean_rounds : ∀ ds h Q E, c_mean_rounds ds h Q E → ds.length = 2 := by rintro ds h Q E ⟨a, b, rfl, _⟩; rfl
abbrev kk (g o : Nat) : List Key := [Sum.inl (g : Int), Sum.inl (o : Int)]
/-- the entries as they stand in the dict -/
def encE (L : List En) : List (List Key × D) := L.map fun e => (kk e.1.1 e.1.2, .int (e.2 : Int))
def odv (s m l : Nat) : Nat := itL s m (phi l) 0 0
def oL (s m : Nat) : List D := (List.range (m + 1)).map fun l => .int (odv s m l : Int)
def c_law_odds : MSp := fun ds h Q _ => ∃ m s : Nat, ds = [.int m, .int s] ∧ m ≤ 60 ∧ s ≤ 100 ∧ ∀ a h', Fr [] h h' → h a = none → h' a = some (.lst (oL s m)) → Q (.ref a) h'
theorem len_law_odds : ∀ ds h Q E, c_law_odds ds h Q E → ds.length = 2 := by rintro ds h Q E ⟨a, b, rfl, _⟩; rfl
def mL' (s c : Nat) : List D := (List.range c).map fun n => dR (mean s n)
def c_law_means : MSp := fun ds h Q _ => ∃ n s : Nat, ds = [.int n, .int s] ∧ 2 ≤ s ∧ s ≤ 100 ∧ 1 ≤ n ∧ n ≤ 60 ∧ s ^ (n * n + n) < 2 ^ 3900 ∧ ∀ a h', Fr [] h h' → h a = none → h' a = some (.lst (mL' s (n + 1))) → Q (.ref a) h'
theorem len_law_means : ∀ ds h Q E, c_law_means ds h Q E → ds.length = 2 := by rintro ds h Q E ⟨a, b, rfl, _⟩; rfl
def c_law : MSp := fun ds h Q _ => ∃ ns : List Int, ds = [.rl (ns.map .int)] ∧ ns.length ≤ 63 ∧ ∀ h', Q (.bl true) h'
theorem len_law : ∀ ds h Q E, c_law ds h Q E → ds.length = 1 := by rintro ds h Q E ⟨a, rfl, _⟩; rfl
abbrev k_ALL : D := .tup [(.int 1), (.int 1)]
abbrev k_NOUGHT : D := .tup [(.int 0), (.int 1)]
-- common: ['one', 'other']
abbrev m_common : MTS :=
 (mSeq (mWhile (mTest (mOp rNe (mVar 1) (mC (.int 0)))) (mPar 0 1 (mVar 1) (mOp rModN (mVar 0) (mVar 1))))
 (mRet (mCa rAbs (mCons (mVar 0) mNil))))
abbrev N_common : List Str := ["one", "other"]
-- fraction: ['number', 'parts', 'by']
abbrev m_fraction : MTS :=
 (mSeq (mSet 2 (mCall c_common noE (mCons (mVar 0) (mCons (mVar 1) mNil))))
 (mSeq (mIf (mTest (mOp rLtI (mVar 1) (mC (.int 0)))) (mSet 2 (mUn rNeg (mVar 2))) mNext)
 (mRet (mTup (mCons (mOp rFdivN (mVar 0) (mVar 2)) (mCons (mOp rFdivN (mVar 1) (mVar 2)) mNil))))))
abbrev N_fraction : List Str := ["number", "parts", "by"]
-- added: ['one', 'other']
abbrev m_added : MTS :=
 (mRet (mCall c_fraction noE (mCons (mOp rAdd (mOp rMul (mOp rIx (mVar 0) (mC (.int 0))) (mOp rIx (mVar 1) (mC (.int 1)))) (mOp rMul (mOp rIx (mVar 1) (mC (.int 0))) (mOp rIx (mVar 0) (mC (.int 1))))) (mCons (mOp rMul (mOp rIx (mVar 0) (mC (.int 1))) (mOp rIx (mVar 1) (mC (.int 1)))) mNil))))
abbrev N_added : List Str := ["one", "other"]
-- multiplied: ['one', 'other']
abbrev m_multiplied : MTS :=
 (mRet (mCall c_fraction noE (mCons (mOp rMul (mOp rIx (mVar 0) (mC (.int 0))) (mOp rIx (mVar 1) (mC (.int 0)))) (mCons (mOp rMul (mOp rIx (mVar 0) (mC (.int 1))) (mOp rIx (mVar 1) (mC (.int 1)))) mNil))))
abbrev N_multiplied : List Str := ["one", "other"]
-- power: ['number', 'times', 'found', 'turn']
abbrev m_power : MTS :=
 (mSeq (mSet 2 (mC (.int 1)))
 (mSeq (mFor (mRange1 (mVar 1)) (.nm 3) (mSet 2 (mOp rMul (mVar 2) (mVar 0))))
 (mRet (mVar 2))))
abbrev N_power : List Str := ["number", "times", "found", "turn"]
-- lots: ['many', 'some', 'found', 'place']
abbrev m_lots : MTS :=
 (mSeq (mSet 2 (mC (.int 1)))
 (mSeq (mFor (mRange1 (mVar 1)) (.nm 3) (mSet 2 (mOp rFdiv (mOp rMul (mVar 2) (mOp rSub (mVar 0) (mVar 3))) (mOp rAdd (mVar 3) (mC (.int 1))))))
 (mRet (mVar 2))))
abbrev N_lots : List Str := ["many", "some", "found", "place"]
-- chance: ['many', 'sides', 'left', 'ways', 'side']
abbrev m_chance : MTS :=
 (mSeq (mIf (mNot (mTest (mChain rLeI rLeI (mC (.int 1)) (mVar 2) (mVar 0)))) (mRet (mC (.tup [(.int 0), (.int 1)]))) mNext)
 (mSeq (mSet 3 (mCa rSum (mCons (mLc (mRange1 (mVar 1)) (.nm 4) mYes (mCall c_power noE (mCons (mVar 4) (mCons (mOp rSub (mVar 0) (mVar 2)) mNil))) [4]) mNil)))
 (mRet (mCall c_fraction noE (mCons (mOp rMul (mCall c_lots noE (mCons (mVar 0) (mCons (mVar 2) mNil))) (mVar 3)) (mCons (mCall c_power noE (mCons (mVar 1) (mCons (mVar 0) mNil))) mNil))))))
abbrev N_chance : List Str := ["many", "sides", "left", "ways", "side"]
-- chances: ['many', 'sides', 'count', 'left']
abbrev m_chances : MTS :=
 (mRet (mLc (mRange1 (mOp rAdd (mVar 0) (mC (.int 1)))) (.nm 2) mYes (mLc (mRange1 (mOp rAdd (mVar 2) (mC (.int 1)))) (.nm 3) mYes (mCall c_chance noE (mCons (mVar 2) (mCons (mVar 1) (mCons (mVar 3) mNil)))) [3]) [2]))
abbrev N_chances : List Str := ["many", "sides", "count", "left"]
-- mean_rounds: ['many', 'sides', 'table', 'means', 'count', 'total', 'left', 'going']
abbrev m_mean_rounds : MTS :=
 (mSeq (mSet 2 (mCall c_chances noE (mCons (mVar 0) (mCons (mVar 1) mNil))))
 (mSeq (mSet 3 (mLst (mCons (mC (.tup [(.int 0), (.int 1)])) (mCons (mC (.tup [(.int 0), (.int 1)])) mNil))))
 (mSeq (mFor (mRange2 (mC (.int 2)) (mOp rAdd (mVar 0) (mC (.int 1)))) (.nm 4) (mSeq (mSet 5 (mC (.tup [(.int 1), (.int 1)])))
 (mSeq (mFor (mRange2 (mC (.int 1)) (mVar 4)) (.nm 6) (mSet 5 (mCall c_added noE (mCons (mVar 5) (mCons (mCall c_multiplied noE (mCons (mOp rIx (mOp rIx (mVar 2) (mVar 4)) (mVar 6)) (mCons (mOp rIx (mVar 3) (mVar 6)) mNil))) mNil)))))
 (mSeq (mSet 7 (mCall c_added noE (mCons (mC (.tup [(.int 1), (.int 1)])) (mCons (mCall c_multiplied noE (mCons (mTup (mCons (mUn rNeg (mC (.int 1))) (mCons (mC (.int 1)) mNil))) (mCons (mOp rIx (mOp rIx (mVar 2) (mVar 4)) (mVar 4)) mNil))) mNil))))
 (mDrop (mBM "list" rAppend (mVar 3) (mCons (mCall c_fraction noE (mCons (mOp rMul (mOp rIx (mVar 5) (mC (.int 0))) (mOp rIx (mVar 7) (mC (.int 1)))) (mCons (mOp rMul (mOp rIx (mVar 5) (mC (.int 1))) (mOp rIx (mVar 7) (mC (.int 0)))) mNil))) mNil)))))))
 (mRet (mOp rIx (mVar 3) (mVar 0))))))
abbrev N_mean_rounds : List Str := ["many", "sides", "table", "means", "count", "total", "left", "going"]
-- _law_hand: ['_law_script', '_law_k', '_law_cell']
abbrev m_law_hand : MTS :=
 (mSeq (mSet 2 (mC (.int 0)))
 (mSeq (mIf (mTest (mOp rLtI (mVar 1) (mCa rLen (mCons (mVar 0) mNil)))) (mSet 2 (mCa rAbs (mCons (mOp rIx (mVar 0) (mVar 1)) mNil))) mNext)
 (mRet (mLst (mCons (mOp rMul (mVar 2) (mCa rInt1 (mCons (mOp rGeI (mVar 2) (mOp rPow (mC (.int 10)) (mC (.int 18)))) mNil))) (mCons (mOp rAdd (mOp rAdd (mOp rMod (mVar 2) (mC (.int 2305843009213693951))) (mOp rMul (mC (.int 7919)) (mVar 1))) (mC (.int 11))) (mCons (mC (.int 0)) mNil)))))))
abbrev N_law_hand : List Str := ["_law_script", "_law_k", "_law_cell"]
-- _law_take: ['_law_hand_here', '_law_many', '_law_turn', '_law_mixed', '_law_digit']
abbrev m_law_take : MTS :=
 (mSeq (mIf (mTest (mOp rGtI (mOp rIx (mVar 0) (mC (.int 0))) (mC (.int 0)))) (mSeq (mSet 4 (mOp rMod (mOp rIx (mVar 0) (mC (.int 0))) (mVar 1)))
 (mSeq (mPut rSetL (mOp rFdiv (mOp rIx (mVar 0) (mC (.int 0))) (mVar 1)) (mVar 0) (mC (.int 0)))
 (mRet (mVar 4)))) mNext)
 (mSeq (mPut rSetL (mOp rAdd (mOp rIx (mVar 0) (mC (.int 2))) (mC (.int 1))) (mVar 0) (mC (.int 2)))
 (mSeq (mSet 2 (mOp rIx (mVar 0) (mC (.int 2))))
 (mSeq (mSet 3 (mOp rMod (mOp rMul (mOp rAdd (mOp rIx (mVar 0) (mC (.int 1))) (mOp rMul (mC (.int 39373)) (mVar 2))) (mOp rAdd (mC (.int 48271)) (mOp rMul (mVar 2) (mVar 2)))) (mC (.int 2305843009213693921))))
 (mSeq (mPut rSetL (mOp rMod (mOp rMul (mVar 3) (mOp rAdd (mOp rMod (mVar 3) (mC (.int 1000003))) (mC (.int 17)))) (mC (.int 2305843009213693907))) (mVar 0) (mC (.int 1)))
 (mRet (mOp rMod (mOp rFdiv (mOp rIx (mVar 0) (mC (.int 1))) (mC (.int 131071))) (mVar 1))))))))
abbrev N_law_take : List Str := ["_law_hand_here", "_law_many", "_law_turn", "_law_mixed", "_law_digit"]
-- _law_of: ['_law_hand_here', '_law_some']
abbrev m_law_of : MTS :=
 (mRet (mOp rIx (mVar 1) (mCall c_law_take noE (mCons (mVar 0) (mCons (mCa rLen (mCons (mVar 1) mNil)) mNil)))))
abbrev N_law_of : List Str := ["_law_hand_here", "_law_some"]
-- _law_same: ['_law_found', '_law_due', '_law_one', '_law_other']
abbrev m_law_same (n : Nat) : MTS :=
 (mSeq (mIf (mTest (mIsi "tuple" (mVar 1))) (mRet (mAndV (mIsi "tuple" (mVar 0)) (mAndV (mOp rEq (mCa rLen (mCons (mVar 0) mNil)) (mCa rLen (mCons (mVar 1) mNil))) (mCa rAll (mCons (mLc (mZip (mVar 0) (mVar 1)) (.tp [(.nm 2), (.nm 3)]) mYes (mCall (c_law_same n) noE (mCons (mVar 2) (mCons (mVar 3) mNil))) [2, 3]) mNil))))) mNext)
 (mSeq (mIf (mTest (mOp (rIs false) (mVar 1) (mC .non))) (mRet (mOp (rIs false) (mVar 0) (mC .non))) mNext)
 (mRet (mAndV (mIsi "int" (mVar 0)) (mAndV (mNotV (mTest (mIsi "bool" (mVar 0)))) (mOp rEq (mVar 0) (mVar 1)))))))
abbrev N_law_same : List Str := ["_law_found", "_law_due", "_law_one", "_law_other"]
-- _law_low: ['_law_top', '_law_bottom', '_law_one', '_law_other']
abbrev m_law_low : MTS :=
 (mSeq (mPar 2 3 (mCa rAbs (mCons (mVar 0) mNil)) (mVar 1))
 (mSeq (mWhile (mTest (mOp rGtI (mVar 3) (mC (.int 0)))) (mPar 2 3 (mVar 3) (mOp rMod (mVar 2) (mVar 3))))
 (mRet (mTup (mCons (mOp rFdiv (mVar 0) (mVar 2)) (mCons (mOp rFdiv (mVar 1) (mVar 2)) mNil))))))
abbrev N_law_low : List Str := ["_law_top", "_law_bottom", "_law_one", "_law_other"]
-- _law_plus: ['_law_one', '_law_other']
abbrev m_law_plus : MTS :=
 (mRet (mCall c_law_low noE (mCons (mOp rAdd (mOp rMul (mOp rIx (mVar 0) (mC (.int 0))) (mOp rIx (mVar 1) (mC (.int 1)))) (mOp rMul (mOp rIx (mVar 1) (mC (.int 0))) (mOp rIx (mVar 0) (mC (.int 1))))) (mCons (mOp rMul (mOp rIx (mVar 0) (mC (.int 1))) (mOp rIx (mVar 1) (mC (.int 1)))) mNil))))
abbrev N_law_plus : List Str := ["_law_one", "_law_other"]
-- _law_times: ['_law_one', '_law_other']
abbrev m_law_times : MTS :=
 (mRet (mCall c_law_low noE (mCons (mOp rMul (mOp rIx (mVar 0) (mC (.int 0))) (mOp rIx (mVar 1) (mC (.int 0)))) (mCons (mOp rMul (mOp rIx (mVar 0) (mC (.int 1))) (mOp rIx (mVar 1) (mC (.int 1)))) mNil))))
abbrev N_law_times : List Str := ["_law_one", "_law_other"]
-- _law_power: ['_law_number', '_law_times_here', '_law_found', '_law_turn']
abbrev m_law_power : MTS :=
 (mSeq (mSet 2 (mC (.int 1)))
 (mSeq (mFor (mRange1 (mVar 1)) (.nm 3) (mSet 2 (mOp rMul (mVar 2) (mVar 0))))
 (mRet (mVar 2))))
abbrev N_law_power : List Str := ["_law_number", "_law_times_here", "_law_found", "_law_turn"]
-- _law_odds: ['_law_many', '_law_sides', '_law_seen', '_law_house', '_law_found', '_law_greatest', '_law_often', '_law_later', '_law_ways', '_law_side']
abbrev m_law_odds : MTS :=
 (mSeq (mSet 2 (mDisp1T (mCons (mC (.int 0)) (mCons (mC (.int 0)) mNil)) (mC (.int 1))))
 (mSeq (mFor (mRange1 (mVar 0)) (.nm 3) (mSeq (mSet 7 mDisp0T)
 (mSeq (mLockT 2 (mFor (mKeysF 2) (.tp [(.nm 5), (.nm 6)]) (mSeq (mSet 8 (mDGetT (mVar 2) (mCons (mVar 5) (mCons (mVar 6) mNil))))
 (mSeq (mPutDT (mOp rAdd (mDGet2T (mVar 7) (mCons (mVar 5) (mCons (mVar 6) mNil)) (mC (.int 0))) (mOp rMul (mVar 8) (mCa rMax2 (mCons (mC (.int 0)) (mCons (mOp rSub (mVar 5) (mC (.int 1))) mNil))))) (mVar 7) (mCons (mVar 5) (mCons (mVar 6) mNil)))
 (mSeq (mPutDT (mOp rAdd (mDGet2T (mVar 7) (mCons (mVar 5) (mCons (mOp rAdd (mVar 6) (mC (.int 1))) mNil)) (mC (.int 0))) (mOp rMul (mVar 8) (mCa rInt1 (mCons (mOp rGtI (mVar 5) (mC (.int 0))) mNil)))) (mVar 7) (mCons (mVar 5) (mCons (mOp rAdd (mVar 6) (mC (.int 1))) mNil)))
 (mFor (mRange2 (mOp rAdd (mVar 5) (mC (.int 1))) (mOp rAdd (mVar 1) (mC (.int 1)))) (.nm 9) (mPutDT (mOp rAdd (mDGet2T (mVar 7) (mCons (mVar 9) (mCons (mC (.int 1)) mNil)) (mC (.int 0))) (mVar 8)) (mVar 7) (mCons (mVar 9) (mCons (mC (.int 1)) mNil)))))))))
 (mSet 2 (mVar 7)))))
 (mSeq (mSet 4 (mOp rMul (mLst (mCons (mC (.int 0)) mNil)) (mOp rAdd (mVar 0) (mC (.int 1)))))
 (mSeq (mLockT 2 (mFor (mKeysF 2) (.tp [(.nm 5), (.nm 6)]) (mPut rSetL (mOp rAdd (mOp rIx (mVar 4) (mVar 6)) (mDGetT (mVar 2) (mCons (mVar 5) (mCons (mVar 6) mNil)))) (mVar 4) (mVar 6))))
 (mRet (mVar 4))))))
abbrev N_law_odds : List Str := ["_law_many", "_law_sides", "_law_seen", "_law_house", "_law_found", "_law_greatest", "_law_often", "_law_later", "_law_ways", "_law_side"]
-- _law_means: ['_law_many', '_law_sides', '_law_means_here', '_law_count', '_law_odds_here', '_law_whole', '_law_total', '_law_left']
abbrev m_law_means : MTS :=
 (mSeq (mSet 2 (mLst (mCons (mTup (mCons (mC (.int 0)) (mCons (mC (.int 1)) mNil))) (mCons (mTup (mCons (mC (.int 0)) (mCons (mC (.int 1)) mNil))) mNil))))
 (mSeq (mFor (mRange2 (mC (.int 2)) (mOp rAdd (mVar 0) (mC (.int 1)))) (.nm 3) (mSeq (mPar 4 5 (mCall c_law_odds noE (mCons (mVar 3) (mCons (mVar 1) mNil))) (mCall c_law_power noE (mCons (mVar 1) (mCons (mVar 3) mNil))))
 (mSeq (mSet 6 (mTup (mCons (mVar 5) (mCons (mC (.int 1)) mNil))))
 (mSeq (mFor (mRange2 (mC (.int 2)) (mVar 3)) (.nm 7) (mSet 6 (mCall c_law_plus noE (mCons (mVar 6) (mCons (mCall c_law_times noE (mCons (mTup (mCons (mOp rIx (mVar 4) (mVar 7)) (mCons (mC (.int 1)) mNil))) (mCons (mOp rIx (mVar 2) (mVar 7)) mNil))) mNil)))))
 (mDrop (mBM "list" rAppend (mVar 2) (mCons (mCall c_law_low noE (mCons (mOp rIx (mVar 6) (mC (.int 0))) (mCons (mOp rMul (mOp rIx (mVar 6) (mC (.int 1))) (mOp rSub (mVar 5) (mOp rIx (mVar 4) (mVar 3)))) mNil))) mNil)))))))
 (mRet (mVar 2))))
abbrev N_law_means : List Str := ["_law_many", "_law_sides", "_law_means_here", "_law_count", "_law_odds_here", "_law_whole", "_law_total", "_law_left"]
-- law: ['_law_script', '_law_k', '_law_hand_here', '_law_many', '_law_sides', '_law_means_here', '_law_count']
abbrev m_law : MTS :=
 (mSeq (mFor (mRange1 (mCa rMax2 (mCons (mC (.int 1)) (mCons (mCa rMin2 (mCons (mC (.int 5)) (mCons (mCa rLen (mCons (mVar 0) mNil)) mNil))) mNil)))) (.nm 1) (mSeq (mSet 2 (mCall c_law_hand noE (mCons (mVar 0) (mCons (mVar 1) mNil))))
 (mSeq (mSet 3 (mCall c_law_of noE (mCons (mVar 2) (mCons (mLst (mCons (mC (.int 1)) (mCons (mC (.int 2)) (mCons (mC (.int 3)) (mCons (mC (.int 4)) (mCons (mC (.int 5)) (mCons (mC (.int 7)) (mCons (mC (.int 9)) (mCons (mOp rAdd (mC (.int 1)) (mCall c_law_take noE (mCons (mVar 2) (mCons (mC (.int 24)) mNil)))) mNil))))))))) mNil))))
 (mSeq (mSet 4 (mOp rAdd (mC (.int 2)) (mCall c_law_of noE (mCons (mVar 2) (mCons (mLst (mCons (mC (.int 0)) (mCons (mC (.int 0)) (mCons (mC (.int 1)) (mCons (mC (.int 4)) (mCons (mCall c_law_take noE (mCons (mVar 2) (mCons (mOp rIx (mLst (mCons (mC (.int 63)) (mCons (mC (.int 6)) mNil))) (mCa rInt1 (mCons (mOp rGtI (mVar 3) (mC (.int 9))) mNil))) mNil))) mNil)))))) mNil)))))
 (mSeq (mSet 5 (mCall c_law_means noE (mCons (mVar 3) (mCons (mVar 4) mNil))))
 (mFor (mIter (mLst (mCons (mVar 3) (mCons (mOp rAdd (mC (.int 1)) (mCall c_law_take noE (mCons (mVar 2) (mCons (mVar 3) mNil)))) (mCons (mC (.int 1)) mNil))))) (.nm 6) (mIf (mNot (mTest (mCall (c_law_same 4) noE (mCons (mCall c_mean_rounds noE (mCons (mVar 6) (mCons (mVar 4) mNil))) (mCons (mOp rIx (mVar 5) (mVar 6)) mNil))))) (mRet (mC (.bl false))) mNext)))))))
 (mRet (mC (.bl true))))
abbrev N_law : List Str := ["_law_script", "_law_k", "_law_hand_here", "_law_many", "_law_sides", "_law_means_here", "_law_count"]
theorem p_common : ∀ ds h Q E, c_common ds h Q E → m_common { nx := fun _ h' => Q .non h', rt := Q } (mstart N_common ds) h := by
  rintro ds h Q E ⟨a, b, rfl, q⟩
  refine seq_ ⟨fun m env h' => h' = h ∧ ∃ x y : Int, env = [some (.int x), some (.int y)] ∧ y.natAbs = m ∧ Int.gcd x y = Int.gcd a b, ⟨_, rfl, a, b, rfl, rfl, rfl⟩, ?_⟩
  rintro m env h' ⟨rfl, x, y, rfl, rfl, g⟩
  walk_at "m"
  refine iteb_ (fun c => ?_) (fun c => ?_)
  · have hy : y ≠ 0 := by simpa using c
    walk_at "n"
    exact ⟨_, fmod_lt x y hy, rfl, (gcd_fmod x y).trans g⟩
  · have hy : y = 0 := by simpa using c
    subst hy
    walk_at "n"
    have e : (if x < 0 then -x else x) = (Int.gcd a b : Int) := by
      rw [← g, Int.gcd_zero_right]
      split <;> omega
    rw [e]; exact q
theorem p_fraction : ∀ ds h Q E, c_fraction ds h Q E → m_fraction { nx := fun _ h' => Q .non h', rt := Q } (mstart N_fraction ds) h := by
  rintro ds h Q E ⟨a, b, rfl, hb, hl, q⟩
  have hg := gcd_log (a := a) hb hl
  have hz := gcd_pos (a := a) hb
  have e1 : a.fdiv (by' a b) = (fr a b).1 := Int.fdiv_eq_ediv_of_dvd (by_dvdL a b)
  have e2 : b.fdiv (by' a b) = (fr a b).2 := Int.fdiv_eq_ediv_of_dvd (by_dvdR a b)
  have q : Q (.tup [.int (fr a b).1, .int (fr a b).2]) h := by rw [fr_rat hb]; exact q
  walk_at "n"
  refine ⟨a, b, rfl, ?_⟩
  walk_at "n"
  refine ite_ (fun c => ?_) (fun c => ?_)
  · walk_at "n"
    walk_at "n"
    have e : by' a b = -(Int.gcd a b : Int) := if_pos c
    rw [e] at e1 e2
    refine ⟨⟨by omega, by rw [Int.natAbs_neg, Int.natAbs_natCast]; exact hg⟩, ⟨by omega, by rw [Int.natAbs_neg, Int.natAbs_natCast]; exact hg⟩, ?_⟩
    rw [e1, e2]; exact q
  · walk_at "n"
    walk_at "n"
    have e : by' a b = (Int.gcd a b : Int) := if_neg c
    rw [e] at e1 e2
    refine ⟨⟨by omega, by rw [Int.natAbs_natCast]; exact hg⟩, ⟨by omega, by rw [Int.natAbs_natCast]; exact hg⟩, ?_⟩
    rw [e1, e2]; exact q
theorem p_power : ∀ ds h Q E, c_power ds h Q E → m_power { nx := fun _ h' => Q .non h', rt := Q } (mstart N_power ds) h := by
  rintro ds h Q E ⟨a, k, rfl, ha, hk, q⟩
  walk_at "n"
  walk_at "n"
  refine ⟨by omega, by omega, ?_⟩
  have hn : (srcR 0 (k : Int).toNat 1).n = k := by rw [srcR_n]; omega
  refine forW (fun i env h' => h' = h ∧ ∃ x, env = [some (.int a), some (.int k), some (.int ((a ^ i : Nat) : Int)), x]) ⟨rfl, none, rfl⟩ (fun _ _ _ _ => trivial) ?_ ?_
  · rintro i env h' hi ⟨rfl, x, rfl⟩
    refine ⟨_, rfl, ?_⟩
    walk_at "n"
    refine ⟨mulOkR (by omega) (by omega), ?_⟩
    rw [Nat.pow_succ, Int.natCast_mul]
  · rintro env h' ⟨rfl, x, rfl⟩
    rw [hn]
    walk_at "n"
theorem p_lots : ∀ ds h Q E, c_lots ds h Q E → m_lots { nx := fun _ h' => Q .non h', rt := Q } (mstart N_lots ds) h := by
  rintro ds h Q E ⟨n, k, rfl, hk, hn60, q⟩
  walk_at "n"
  walk_at "n"
  refine ⟨by omega, by omega, ?_⟩
  have hn : (srcR 0 (k : Int).toNat 1).n = k := by rw [srcR_n]; omega
  refine forW (fun i env h' => h' = h ∧ ∃ x, env = [some (.int n), some (.int k), some (.int (ch n i : Int)), x]) ⟨rfl, none, by rw [ch_zero]; rfl⟩ (fun _ _ _ _ => trivial) ?_ ?_
  · rintro i env h' hi ⟨rfl, x, rfl⟩
    rw [hn] at hi
    refine ⟨_, rfl, ?_⟩
    walk_at "n"
    refine ⟨mulOkR (by omega) (by omega), divOk (by omega) (by omega), ?_⟩
    have e := ch_mul n i
    have e2 : (ch n i : Int) * ((n : Int) - (i : Int)) = (ch n (i + 1) : Int) * ((i : Int) + 1) := by
      have e3 : ((n - i : Nat) : Int) = (n : Int) - (i : Int) := by omega
      rw [← e3, ← Int.natCast_mul, ← e, Int.natCast_mul]; rfl
    rw [e2, Int.mul_ediv_cancel _ (by omega)]
  · rintro env h' ⟨rfl, x, rfl⟩
    rw [hn]
    walk_at "n"
theorem ch_le : ∀ n k, ch n k ≤ 2 ^ n
  | n, 0 => by rw [ch_zero]; exact Nat.one_le_two_pow
  | 0, k + 1 => by rw [ch_gt (by omega)]; omega
  | n + 1, k + 1 => by
    have h1 := ch_le n k
    have h2 := ch_le n (k + 1)
    rw [ch_succ, Nat.pow_succ]; omega
theorem pow_log {s n b k : Nat} (h : s ≤ 2 ^ b) (h0 : 1 ≤ s) (hb : b * n < k) : (s ^ n).log2 < k := by
  have h1 : s ^ n ≤ 2 ^ (b * n) := by rw [Nat.pow_mul]; exact Nat.pow_le_pow_left h n
  have h2 : 2 ^ (b * n) < 2 ^ k := Nat.pow_lt_pow_right (by decide) hb
  exact (Nat.log2_lt (by have := Nat.pow_pos (n := n) h0; omega)).mpr (by omega)
theorem p_chance : ∀ ds h Q E, c_chance ds h Q E → m_chance { nx := fun _ h' => Q .non h', rt := Q } (mstart N_chance ds) h := by
  rintro ds h Q E ⟨n, s, l, rfl, s1, s2, hn60, q⟩
  unfold PZ at q
  by_cases c : 1 ≤ l ∧ l ≤ n
  · rw [if_pos c] at q
    obtain ⟨c1, c2⟩ := c
    obtain ⟨k, rfl⟩ : ∃ k : Nat, l = (k : Int) := ⟨l.toNat, by omega⟩
    have d1 : decide ((1 : Int) ≤ k) = true := decide_eq_true c1
    have d2 : decide ((k : Int) ≤ n) = true := decide_eq_true c2
    walk_at "n"
    walk_at "n"
    walk_at "n"
    refine ⟨by omega, by omega, ?_⟩
    have hn : (srcR 0 (s : Int).toNat 1).n = s := by rw [srcR_n]; omega
    refine lcP (fun i => some (.int ((i ^ (n - k) : Nat) : Int))) (fun _ _ => trivial) (by rw [hn]; omega) (fun i h3 hi fr => ⟨_, rfl, fun R r => ?_⟩) (fun p h3 fr np ep => ?_)
    · rw [hn] at hi
      have r := r h3 .refl
      have ek : (n : Int) - (k : Int) = ((n - k : Nat) : Int) := by omega
      walk_at "m"
      refine ⟨i, n - k, rfl, by omega, by omega, r⟩
    · rw [hn, fm_some] at ep
      have ep2 : h3 p = some (.lst (((List.range s).map fun i => ((i ^ (n - k) : Nat) : Int)).map .int)) := by rw [ep, List.map_map]; rfl
      have es : ((List.range s).map fun i => ((i ^ (n - k) : Nat) : Int)).sum = ((wy n s k : Nat) : Int) := by
        unfold wy
        rw [← S_list]
        have : ∀ xs : List Nat, (xs.map fun i => ((i ^ (n - k) : Nat) : Int)).sum = (((xs.map fun i => i ^ (n - k)).sum : Nat) : Int) := fun xs => by
          induction xs with
          | nil => rfl
          | cons x xs ih => rw [List.map_cons, List.map_cons, List.sum_cons, List.sum_cons, ih, Int.natCast_add]
        exact this _
      have q := q h3 fr
      have eo : od n s k = ch n k * wy n s k := by unfold od; rw [if_pos (by omega)]
      have e7 : ((((ch n k : Nat) : Int) * (wy n s k : Nat) : Int) : Rat) / (((s ^ n : Nat) : Int) : Rat) = PQ s n k := by
        unfold PQ
        rw [eo, ← Int.natCast_mul]
        norm_cast
      have hlog := pow_log (s := s) (n := n) (b := 7) (k := 9000) (by omega) s1 (by omega)
      have hc := ch_le n k
      have hc2 : 2 ^ n ≤ 2 ^ 60 := Nat.pow_le_pow_right (by decide) hn60
      have hp : 0 < s ^ n := Nat.pow_pos s1
      clear ep q
      walk_at "m"
      refine ⟨_, rfl, ?_⟩
      walk_at "n"
      refine ⟨n, k, rfl, by omega, hn60, ?_⟩
      show rMul (.int (ch n k : Int)) (.int (wy n s k : Int)) h3 _
      rw [q_mul1]
      refine ⟨mulOkL (by omega) (by omega), s, n, rfl, by omega, by omega, _, _, rfl, by omega, by rw [Int.natAbs_natCast]; exact hlog, ?_⟩
      rw [e7]
      rw [Int.toNat_natCast] at q
      exact q h3 fr
  · rw [if_neg c] at q
    have q := q h .refl
    have dd : ((decide ((1 : Int) ≤ l)) && decide (l ≤ (n : Int))) = false := by
      rw [Bool.and_eq_false_iff, decide_eq_false_iff_not, decide_eq_false_iff_not]
      omega
    walk_at "n"
    have q2 : Q (.tup [.int 0, .int 1]) h := q
    clear q
    refine ite_ (fun c1 => ?_) (fun c1 => ?_)
    · have d2 : decide (l ≤ (n : Int)) = false := decide_eq_false (by omega)
      rw [d2]
      walk_at "m"
      walk_at "n"
    · walk_at "n"
theorem p_law_low : ∀ ds h Q E, c_law_low ds h Q E → m_law_low { nx := fun _ h' => Q .non h', rt := Q } (mstart N_law_low ds) h := by
  rintro ds h Q E ⟨a, b, rfl, hb, hl, q⟩
  have hb0 : b ≠ 0 := by omega
  have hg := gcd_log (a := a) hb0 hl
  have hz := gcd_pos (a := a) hb0
  have e1 : a / (Int.gcd a b : Int) = (fr a b).1 := by unfold fr by'; rw [if_neg (by omega)]
  have e2 : b / (Int.gcd a b : Int) = (fr a b).2 := by unfold fr by'; rw [if_neg (by omega)]
  have q : Q (.tup [.int (fr a b).1, .int (fr a b).2]) h := by rw [fr_rat hb0]; exact q
  walk_at "n"
  refine seq_ (while_ (fun m env h' => h' = h ∧ ∃ x y : Int, env = [some (.int a), some (.int b), some (.int x), some (.int y)] ∧ y.natAbs = m ∧ 0 ≤ x ∧ 0 ≤ y ∧ Int.gcd x y = Int.gcd a b) b.natAbs ⟨rfl, _, b, rfl, rfl, by split <;> omega, by omega, by split <;> simp [Int.neg_gcd]⟩ ?_)
  rintro m env h' ⟨rfl, x, y, rfl, rfl, hx, hy, g⟩
  walk_at "m"
  refine ite_ (fun c => ?_) (fun c => ?_)
  · have h1 := Int.emod_nonneg x (show y ≠ 0 by omega)
    have h2 := Int.emod_lt_of_pos x c
    walk_at "n"
    exact ⟨_, by omega, rfl, (gcd_emod x y).trans g⟩
  · have e : y = 0 := by omega
    subst e
    rw [Int.gcd_zero_right] at g
    have e : x = (Int.gcd a b : Int) := by omega
    subst e
    have dv : DivOk (Int.gcd a b : Int) := ⟨by omega, by rw [Int.natAbs_natCast]; exact hg⟩
    walk_at "n"
theorem rat_add (p q : Rat) : ((p.num * (q.den : Int) + q.num * (p.den : Int) : Int) : Rat) / ((p.den * q.den : Int) : Rat) = p + q := by
  have h1 := rat_self p
  have h2 := rat_self q
  have d1 : (p.den : Rat) ≠ 0 := by have := p.den_nz; exact_mod_cast this
  have d2 : (q.den : Rat) ≠ 0 := by have := q.den_nz; exact_mod_cast this
  rw [Rat.intCast_add, Rat.intCast_mul, Rat.intCast_mul, Rat.intCast_mul, ← h1, ← h2]
  have e1 : ((p.den : Int) : Rat) = (p.den : Rat) := by norm_cast
  have e2 : ((q.den : Int) : Rat) = (q.den : Rat) := by norm_cast
  rw [e1, e2]
  generalize (p.den : Rat) = x at *
  generalize (q.den : Rat) = y at *
  grind
theorem rat_mul (p q : Rat) : ((p.num * q.num : Int) : Rat) / ((p.den * q.den : Int) : Rat) = p * q := by
  have h1 := rat_self p
  have h2 := rat_self q
  have d1 : (p.den : Rat) ≠ 0 := by have := p.den_nz; exact_mod_cast this
  have d2 : (q.den : Rat) ≠ 0 := by have := q.den_nz; exact_mod_cast this
  rw [Rat.intCast_mul, Rat.intCast_mul, ← h1, ← h2]
  have e1 : ((p.den : Int) : Rat) = (p.den : Rat) := by norm_cast
  have e2 : ((q.den : Int) : Rat) = (q.den : Rat) := by norm_cast
  rw [e1, e2]
  generalize (p.den : Rat) = x at *
  generalize (q.den : Rat) = y at *
  grind
theorem sz_mul {p q : Rat} (a : Sz p) (b : Sz q) : MulOk p.num q.num := mulOkX a.2 b.2 (by decide)
theorem sz_mul2 {p q : Rat} (a : Sz p) (b : Sz q) : MulOk p.num (q.den : Int) := mulOkX (b := 4000) a.2 (by rw [Int.natAbs_natCast]; exact b.1) (by decide)
theorem sz_mul3 {p q : Rat} (a : Sz p) (b : Sz q) : MulOk (p.den : Int) (q.den : Int) := mulOkX (a := 4000) (b := 4000) (by rw [Int.natAbs_natCast]; exact a.1) (by rw [Int.natAbs_natCast]; exact b.1) (by decide)
theorem den_ne (p q : Rat) : (p.den : Int) * (q.den : Int) ≠ 0 := by
  have h1 := p.den_nz
  have h2 := q.den_nz
  exact Int.mul_ne_zero (by omega) (by omega)
theorem den_pos (p q : Rat) : 0 < (p.den : Int) * (q.den : Int) := by
  have h1 := p.den_nz
  have h2 := q.den_nz
  exact Int.mul_pos (by omega) (by omega)
theorem sz_log {p q : Rat} (a : Sz p) (b : Sz q) : ((p.den : Int) * (q.den : Int)).natAbs.log2 < 9000 := by
  have h1 : ((p.den : Int) * (q.den : Int)).natAbs < 2 ^ (4000 + 4000) := by
    rw [Int.natAbs_mul, Int.natAbs_natCast, Int.natAbs_natCast, Nat.pow_add]
    exact Nat.mul_lt_mul'' a.1 b.1
  refine Nat.lt_of_lt_of_le ((Nat.log2_lt ?_).mpr h1) (by decide)
  have := den_ne p q
  omega
theorem p_added : ∀ ds h Q E, c_added ds h Q E → m_added { nx := fun _ h' => Q .non h', rt := Q } (mstart N_added ds) h := by
  rintro ds h Q E ⟨p, q, rfl, s1, s2, qq⟩
  unfold m_added dR
  walk_at "n"
  exact ⟨sz_mul2 s1 s2, sz_mul2 s2 s1, sz_mul3 s1 s2, _, _, rfl, den_ne p q, sz_log s1 s2, by rw [rat_add]; exact qq⟩
theorem p_multiplied : ∀ ds h Q E, c_multiplied ds h Q E → m_multiplied { nx := fun _ h' => Q .non h', rt := Q } (mstart N_multiplied ds) h := by
  rintro ds h Q E ⟨p, q, rfl, s1, s2, qq⟩
  unfold m_multiplied dR
  walk_at "n"
  exact ⟨sz_mul s1 s2, sz_mul3 s1 s2, _, _, rfl, den_ne p q, sz_log s1 s2, by rw [rat_mul]; exact qq⟩
theorem p_law_plus : ∀ ds h Q E, c_law_plus ds h Q E → m_law_plus { nx := fun _ h' => Q .non h', rt := Q } (mstart N_law_plus ds) h := by
  rintro ds h Q E ⟨p, q, rfl, s1, s2, qq⟩
  unfold m_law_plus dR
  walk_at "n"
  exact ⟨sz_mul2 s1 s2, sz_mul2 s2 s1, sz_mul3 s1 s2, _, _, rfl, den_pos p q, sz_log s1 s2, by rw [rat_add]; exact qq⟩
theorem p_law_times : ∀ ds h Q E, c_law_times ds h Q E → m_law_times { nx := fun _ h' => Q .non h', rt := Q } (mstart N_law_times ds) h := by
  rintro ds h Q E ⟨p, q, rfl, s1, s2, qq⟩
  unfold m_law_times dR
  walk_at "n"
  exact ⟨sz_mul s1 s2, sz_mul3 s1 s2, _, _, rfl, den_pos p q, sz_log s1 s2, by rw [rat_mul]; exact qq⟩
theorem PZ_nat {s n l : Nat} : PZ s n (l : Int) = PQ s n l := by
  unfold PZ
  rw [Int.toNat_natCast]
  split
  · rfl
  · exact (PQ_zero (by omega)).symm
theorem p_chances : ∀ ds h Q E, c_chances ds h Q E → m_chances { nx := fun _ h' => Q .non h', rt := Q } (mstart N_chances ds) h := by
  rintro ds h Q E ⟨many, s, rfl, s1, s2, hm, q⟩
  walk_at "n"
  refine ⟨by omega, by omega, ?_⟩
  have hn : (srcR 0 ((many : Int) + 1).toNat 1).n = many + 1 := by rw [srcR_n]; omega
  refine lcR (fun n => .lst (lR n (PQ s n))) (fun _ _ => trivial) (by rw [hn]; omega) (fun n h1 hk f1 => ⟨_, rfl, fun R r => ?_⟩) (fun p h1 as f1 np e1 la ha => ?_)
  · rw [hn] at hk
    walk_at "m"
    refine ⟨by omega, by omega, ?_⟩
    have hn2 : (srcR 0 ((n : Int) + 1).toNat 1).n = n + 1 := by rw [srcR_n]; omega
    refine lcP (fun l => some (dR (PQ s n l))) (fun _ _ => trivial) (by rw [hn2]; omega) (fun l h2 hl f2 => ⟨_, rfl, fun R r => ?_⟩) (fun p2 h2 f2 np2 e2 => ?_)
    · rw [hn2] at hl
      walk_at "m"
      refine ⟨n, s, l, rfl, s1, s2, by omega, fun h3 f3 => ?_⟩
      rw [PZ_nat]
      exact r h3 f3
    · rw [hn2, fm_some] at e2
      exact r p2 h2 f2 np2 e2
  · rw [hn] at la
    exact q p h1 f1 ⟨as, e1, la, ha⟩
theorem tab_at {h : MH} {b : Addr} {s many k : Nat} (t : Tab h b s many) (hk : k ≤ many) : ∃ (as : List Addr) (c : Addr), h b = some (.lst (as.map .ref)) ∧ atI (as.map D.ref) (k : Int) = some (.ref c) ∧ h c = some (.lst (lR k (PQ s k))) := by
  obtain ⟨as, t1, t2, t3⟩ := t
  have hg : as[k]? = some as[k] := List.getElem?_eq_getElem (by omega)
  exact ⟨as, as[k], t1, atI_map hg, t3 k _ hg⟩
theorem lR_getD {N : Nat} {f : Nat → Rat} {i : Nat} (h : i ≤ N) : (lR N f).getD i .non = dR (f i) := by
  rw [List.getD_eq_getElem?_getD, lR_get h]; rfl
theorem ixN_lR {N : Nat} {f : Nat → Rat} {i : Nat} (h : i ≤ N) : ixN (lR N f).length (i : Int) = some i := by
  unfold ixN
  rw [lR_len, if_pos (by omega), if_pos (by omega), Int.toNat_natCast]
theorem ne_dR {p : Rat} {y : D} {h : MH} {Q : MQ} (q : rNeD (dR p) y h Q) : rNe (dR p) y h Q := by
  unfold dR at q ⊢
  rw [q_ne7]; exact q
theorem rat_div (p q : Rat) (hq : q ≠ 0) : ((p.num * (q.den : Int) : Int) : Rat) / (((p.den : Int) * q.num : Int) : Rat) = p / q := by
  have h1 := rat_self p
  have h2 := rat_self q
  have d1 : (p.den : Rat) ≠ 0 := by have := p.den_nz; exact_mod_cast this
  have d2 : (q.den : Rat) ≠ 0 := by have := q.den_nz; exact_mod_cast this
  rw [Rat.intCast_mul, Rat.intCast_mul, ← h1, ← h2]
  have e1 : ((p.den : Int) : Rat) = (p.den : Rat) := by norm_cast
  have e2 : ((q.den : Int) : Rat) = (q.den : Rat) := by norm_cast
  rw [e1, e2]
  generalize (p.den : Rat) = x at *
  generalize (q.den : Rat) = y at *
  grind
/-- the list of means so far -/
def mL (s c : Nat) : List D := (List.range c).map fun n => dR (mean s n)
theorem mL_at {s c i : Nat} (h : i < c) : atI (mL s c) (i : Int) = some (dR (mean s i)) := atI_nat (by
  unfold mL
  rw [List.getElem?_map, List.getElem?_range h]; rfl)
theorem mL_len {s c : Nat} : (mL s c).length = c := by unfold mL; rw [List.length_map, List.length_range]
theorem mL_succ {s c : Nat} : mL s (c + 1) = mL s c ++ [dR (mean s c)] := by unfold mL; rw [List.range_succ, List.map_append]; rfl
/-- the sizes that the means need -/
theorem mean_sz {s n : Nat} (hs : 2 ≤ s) (hN : s ^ (n * n + n) < 2 ^ 3900) (hn60 : n ≤ 60) {c : Nat} (hc : c ≤ n) (c1 : 1 ≤ c) :
    Sz (mean s c) ∧ (∀ l, Sz (PQ s c l)) ∧ (∀ l, l < c → Sz (PQ s c l * mean s l)) ∧ (∀ j, j ≤ c → Sz (1 + R j fun l => PQ s c l * mean s l)) ∧ Sz (1 - PQ s c c) := by
  have hs1 : 1 ≤ s := by omega
  have e4 : ∀ i, i ≤ 60 → 4 ^ i + 2 < 2 ^ 90000 := fun i hi => by
    have h1 : 4 ^ i ≤ 4 ^ 60 := Nat.pow_le_pow_right (by decide) hi
    have h2 : 4 ^ 60 + 2 < 2 ^ 200 := by decide
    have h3 : 2 ^ 200 ≤ 2 ^ 90000 := Nat.pow_le_pow_right (by decide) (by decide)
    omega
  have big : 2 ^ 3900 ≤ 2 ^ 4000 := Nat.pow_le_pow_right (by decide) (by decide)
  have cc : c * c + c ≤ n * n + n := Nat.add_le_add (Nat.mul_le_mul hc hc) hc
  have pw : s ^ c * MM s c < 2 ^ 4000 := by
    have h1 := Nat.mul_le_mul_left (s ^ c) (MM_le hs c)
    rw [← Nat.pow_add] at h1
    have h2 : s ^ (c + c * c) ≤ s ^ (n * n + n) := Nat.pow_le_pow_right hs1 (by omega)
    omega
  have mp := MM_pos hs c
  have sp : 0 < s ^ c := Nat.pow_pos hs1
  have pp : 0 < s ^ c * MM s c := Nat.mul_pos sp mp
  have pm : MM s c < 2 ^ 4000 := Nat.lt_of_le_of_lt (Nat.le_mul_of_pos_left _ sp) pw
  have ps : s ^ c < 2 ^ 4000 := Nat.lt_of_le_of_lt (Nat.le_mul_of_pos_right _ mp) pw
  have bd := fun i => mean_bd hs i
  have neg : ∀ (B : Nat) (q : Rat), 0 ≤ q → -(B : Rat) ≤ q := fun B q h => by
    have : (0 : Rat) ≤ (B : Rat) := by exact_mod_cast Nat.zero_le _
    grind
  have up4 : ∀ l, l ≤ c → ((4 ^ l : Nat) : Rat) ≤ ((4 ^ c : Nat) : Rat) := fun l hl => by
    have : 4 ^ l ≤ 4 ^ c := Nat.pow_le_pow_right (by omega) hl
    exact_mod_cast this
  have q0 := fun l => PQ_nonneg hs1 c l
  have izl : ∀ l, l < c → Iz (s ^ c * MM s c) (PQ s c l * mean s l) := fun l hl => (Iz_PQ hs1 c l).mul ((Iz_mean hs l).up (MM_dvd (by omega)))
  have pl : ∀ l, l < c → PQ s c l * mean s l ≤ ((4 ^ c : Nat) : Rat) * PQ s c l := fun l hl => by
    rw [Rat.mul_comm _ (PQ s c l)]
    exact Rat.mul_le_mul_of_nonneg_left (Rat.le_trans (bd l).2 (up4 l (by omega))) (q0 l)
  refine ⟨sz_of (Iz_mean hs c) mp pm (neg _ _ (bd c).1) (bd c).2 (by have := e4 c (by omega); omega), fun l => sz01 (Iz_PQ hs1 c l) sp ps (q0 l) (PQ_le hs1 c1), fun l hl => sz_of (izl l hl) pp pw (neg (4 ^ c) _ (Rat.mul_nonneg (q0 l) (bd l).1)) ?_ (by have := e4 c (by omega); omega), fun j hj => sz_of (B := 4 ^ c + 2) ((Iz.one _).add (Iz_R j fun i hi => izl i (by omega))) pp pw (neg _ _ ?_) ?_ (e4 c (by omega)), sz01 ((Iz.one _).sub (Iz_PQ hs1 c c)) sp ps (by have := PQ_le hs1 (n := c) (l := c) c1; grind) (by have := q0 c; grind)⟩
  · have h1 := pl l hl
    have h2 := PQ_le hs1 (n := c) (l := l) c1
    have h3 : (0 : Rat) ≤ ((4 ^ c : Nat) : Rat) := by exact_mod_cast Nat.zero_le _
    have h4 := Rat.mul_le_mul_of_nonneg_left h2 h3
    grind
  · have := R_nonneg (f := fun l => PQ s c l * mean s l) j fun i _ => Rat.mul_nonneg (q0 i) (bd i).1
    grind
  · have h1 : R j (fun l => PQ s c l * mean s l) ≤ R j fun l => ((4 ^ c : Nat) : Rat) * PQ s c l := R_le j fun i hi => pl i (by omega)
    rw [R_mul] at h1
    have h2 := R_mono q0 (n := j) (m := c + 1) (by omega)
    rw [PQ_sum hs1 c1] at h2
    have h3 : (0 : Rat) ≤ ((4 ^ c : Nat) : Rat) := by exact_mod_cast Nat.zero_le _
    have h4 := Rat.mul_le_mul_of_nonneg_left h2 h3
    rw [Rat.natCast_add]
    have : ((2 : Nat) : Rat) = 2 := rfl
    rw [this]
    grind
theorem q_dR0 {q : Rat} {h : MH} {Q : MQ} : rIx (dR q) (.int 0) h Q = (∃ d, some (D.int q.num) = some d ∧ Q d h) := rfl
theorem q_dR1 {q : Rat} {h : MH} {Q : MQ} : rIx (dR q) (.int 1) h Q = (∃ d, some (D.int (q.den : Int)) = some d ∧ Q d h) := rfl
theorem p_mean_rounds : ∀ ds h Q E, c_mean_rounds ds h Q E → m_mean_rounds { nx := fun _ h' => Q .non h', rt := Q } (mstart N_mean_rounds ds) h := by
  rintro ds h Q E ⟨n, s, rfl, s1, s2, n1, n60, hN, q⟩
  have hs1 : 1 ≤ s := by omega
  walk_at "n"
  refine ⟨n, s, rfl, hs1, s2, n60, fun b h1 f1 tb => ?_⟩
  walk_at "m"
  walk_at "n"
  intro p np
  walk_at "n"
  refine ⟨by omega, by omega, ?_⟩
  refine ⟨by omega, by omega, ?_⟩
  have hn : (srcR 2 ((n : Int) + 1 - 2).toNat 1).n = n - 1 := by rw [srcR_n]; omega
  refine forW (fun k env h' => Fr [] h1 h' ∧ ∃ x4 x5 x6 x7, env = [some (.int n), some (.int s), some (.ref b), some (.ref p), x4, x5, x6, x7] ∧ h' p = some (.lst (mL s (2 + k)))) ⟨.new np, none, none, none, none, rfl, up_same⟩ (fun _ _ _ _ => trivial) ?_ ?_
  · rintro k env h' hk ⟨fr, x4, x5, x6, x7, rfl, ep⟩
    rw [hn] at hk
    generalize hc : 2 + k = c at ep
    rw [srcR_item, show (2 : Int) + (k : Nat) * 1 = ((c : Nat) : Int) by omega]
    refine ⟨_, rfl, ?_⟩
    obtain ⟨zm, zp, zpm, zr, zg⟩ := mean_sz s1 hN n60 (c := c) (by omega) (by omega)
    obtain ⟨as, c2, t1, t2, t3⟩ := tab_at (tb.fr fr) (k := c) (by omega)
    walk_at "n"
    walk_at "n"
    refine ⟨by omega, by omega, ?_⟩
    refine ⟨by omega, by omega, ?_⟩
    have hn2 : (srcR 1 ((c : Int) - 1).toNat 1).n = c - 1 := by rw [srcR_n]; omega
    refine forW (fun j env h2 => h2 = h' ∧ ∃ x6 x7, env = [some (.int n), some (.int s), some (.ref b), some (.ref p), some (.int c), some (dR (1 + R (j + 1) fun l => PQ s c l * mean s l)), x6, x7]) ⟨rfl, x6, x7, ?_⟩ (fun _ _ _ _ => trivial) ?_ ?_
    · have : (1 + R (0 + 1) fun l => PQ s c l * mean s l) = 1 := by
        show 1 + (0 + PQ s c 0 * mean s 0) = 1
        rw [mean_zero]; grind
      rw [this]; rfl
    · rintro j env h2 hj ⟨rfl, x6, x7, rfl⟩
      rw [hn2] at hj
      rw [srcR_item, show (1 : Int) + (j : Nat) * 1 = ((j + 1 : Nat) : Int) by omega]
      refine ⟨_, rfl, ?_⟩
      have a1 := lR_at (N := c) (f := PQ s c) (i := j + 1) (by omega)
      have a2 := mL_at (s := s) (c := c) (i := j + 1) (by omega)
      have z1 := (mean_sz s1 hN n60 (c := j + 1) (by omega) (by omega)).1
      walk_at "n"
      refine ⟨_, _, rfl, zp (j + 1), z1, ?_⟩
      refine ⟨_, _, rfl, zr (j + 1) (by omega), zpm (j + 1) (by omega), ?_⟩
      refine ⟨rfl, congrArg dR ?_⟩
      show (1 + R (j + 1) fun l => PQ s c l * mean s l) + _ = 1 + ((R (j + 1) fun l => PQ s c l * mean s l) + _)
      grind
    · rintro env h2 ⟨rfl, x6, x7, rfl⟩
      rw [hn2, show c - 1 + 1 = c by omega]
      have zt := zr c (Nat.le_refl _)
      have em := mean_rec s c (by omega)
      have hh := PQ_half s1 (n := c) (by omega)
      have h0 := PQ_nonneg hs1 c c
      generalize ht : (1 + R c fun l => PQ s c l * mean s l) = tt at zt em
      have a1 := lR_at (N := c) (f := PQ s c) (i := c) (Nat.le_refl _)
      have r0 := @q_dR0
      have r1 := @q_dR1
      clear ht
      walk_at "n"
      refine ⟨-1, PQ s c c, rfl, ?_, zp c, ?_⟩
      · exact ⟨by decide, by show 1 < 2 ^ 100000; exact Nat.one_lt_two_pow (by decide)⟩
      have z2 : Sz ((-1) * PQ s c c) := by
        have := zp c
        refine ⟨?_, ?_⟩
        · rw [show (-1) * PQ s c c = -PQ s c c by grind, Rat.neg_den]; exact this.1
        · rw [show (-1) * PQ s c c = -PQ s c c by grind, Rat.neg_num, Int.natAbs_neg]; exact this.2
      refine ⟨1, _, rfl, ⟨by decide, by show 1 < 2 ^ 100000; exact Nat.one_lt_two_pow (by decide)⟩, z2, ?_⟩
      have eg : 1 + (-1) * PQ s c c = 1 - PQ s c c := by grind
      rw [eg]
      have g0 : (1 : Rat) / 2 ≤ 1 - PQ s c c := by grind
      have g1 : 1 - PQ s c c ≤ 1 := by grind
      generalize hg : 1 - PQ s c c = g at em g0 g1 zg
      have gn := rat_self g
      have gd : (0 : Rat) < (g.den : Rat) := by
        have := g.den_nz
        have : 0 < g.den := by omega
        exact_mod_cast this
      have gne : g ≠ 0 := fun z => by rw [z] at g0; grind
      have g2 : (g.num : Rat) ≤ (g.den : Rat) := by
        rw [← gn]
        have := Rat.mul_le_mul_of_nonneg_left g1 (Rat.le_of_lt gd)
        grind
      have g2 : g.num ≤ (g.den : Int) := by exact_mod_cast g2
      have g3 : 0 ≤ g.num := Rat.num_nonneg.mpr (by grind)
      have g4 : g.num ≠ 0 := fun z => by
        rw [z] at gn
        have : g * (g.den : Rat) = 0 := gn
        have hd : (g.den : Rat) ≠ 0 := fun z => by rw [z] at gd; exact Rat.lt_irrefl gd
        grind
      have zgn : g.num.natAbs < 2 ^ 4000 := by have := zg.1; omega
      have td := tt.den_nz
      walk_at "m"
      walk_at "n"
      refine ⟨sz_mul2 zt zg, mulOkX (a := 4000) (b := 4000) (by rw [Int.natAbs_natCast]; exact zt.1) zgn (by decide), _, _, rfl, Int.mul_ne_zero (by omega) g4, ?_, ?_⟩
      · have h1 : ((tt.den : Int) * g.num).natAbs < 2 ^ (4000 + 4000) := by
          rw [Int.natAbs_mul, Int.natAbs_natCast, Nat.pow_add]
          exact Nat.mul_lt_mul'' zt.1 zgn
        refine Nat.lt_of_lt_of_le ((Nat.log2_lt ?_).mpr h1) (by decide)
        have := Int.mul_ne_zero (show (tt.den : Int) ≠ 0 by omega) g4
        omega
      · rw [rat_div _ _ gne, ← em]
        refine ⟨_, ep, by rw [mL_len]; omega, Fr.over np fr, ?_⟩
        rw [show 2 + (k + 1) = c + 1 by omega, mL_succ]
  · rintro env h' ⟨fr, x4, x5, x6, x7, rfl, ep⟩
    rw [hn] at ep
    have a2 := mL_at (s := s) (c := 2 + (n - 1)) (i := n) (by omega)
    walk_at "n"
    exact q h' (f1.trans fr)
theorem key_eq {g o g' o' : Nat} : kk g o = kk g' o' ↔ ((g, o) : Nat × Nat) = (g', o') := by
  constructor
  · intro h
    injection h with h1 h2
    injection h2 with h2 _
    have h1 := Sum.inl.inj h1
    have h2 := Sum.inl.inj h2
    exact Prod.ext (by show g = g'; omega) (by show o = o'; omega)
  · intro h
    injection h with h1 h2
    rw [h1, h2]
theorem enc_len {L : List En} : (encE L).length = L.length := List.length_map ..
theorem dG_enc {g o : Nat} : ∀ {L : List En}, dG (encE L) (kk g o) = (L.find? fun e => decide (e.1 = (g, o))).map fun e => D.int (e.2 : Int)
  | [] => rfl
  | ((g', o'), v) :: L => by
    have ih := dG_enc (g := g) (o := o) (L := L)
    unfold dG encE at *
    rw [List.map_cons, List.find?_cons, List.find?_cons]
    by_cases c : ((g', o') : Nat × Nat) = (g, o)
    · rw [decide_eq_true (key_eq.mpr c), decide_eq_true c]; rfl
    · rw [decide_eq_false (fun z => c (key_eq.mp z)), decide_eq_false c]
      exact ih
theorem getD_enc {g o : Nat} {L : List En} : (dG (encE L) (kk g o)).getD (.int 0) = .int (lk L (g, o) : Int) := by
  rw [dG_enc]
  unfold lk
  cases L.find? fun e => decide (e.1 = (g, o)) <;> rfl
theorem put_enc {g o v : Nat} {L : List En} : dPutG (encE L) (kk g o) (.int (v : Int)) = encE (putL L (g, o) v) := by
  unfold dPutG putL
  have ha : ((encE L).any fun kv => decide (kv.1 = (kk g o))) = L.any fun e => decide (e.1 = (g, o)) := by
    unfold encE
    rw [List.any_map]
    congr 1
    funext e
    show decide _ = decide _
    exact decide_eq_decide.mpr key_eq
  rw [ha]
  split
  · unfold encE
    rw [List.map_map, List.map_map]
    refine List.map_congr_left fun e _ => ?_
    show (if kk e.1.1 e.1.2 = (kk g o) then ((kk e.1.1 e.1.2), D.int (v : Int)) else ((kk e.1.1 e.1.2), D.int (e.2 : Int))) = _
    by_cases c : e.1 = (g, o)
    · rw [if_pos (key_eq.mpr c)]
      show _ = (kk (if e.1 = (g, o) then (e.1, v) else e).1.1 (if e.1 = (g, o) then (e.1, v) else e).1.2, D.int ((if e.1 = (g, o) then (e.1, v) else e).2 : Int))
      rw [if_pos c]
    · rw [if_neg (fun z => c (key_eq.mp z))]
      show _ = (kk (if e.1 = (g, o) then (e.1, v) else e).1.1 (if e.1 = (g, o) then (e.1, v) else e).1.2, D.int ((if e.1 = (g, o) then (e.1, v) else e).2 : Int))
      rw [if_neg c]
  · unfold encE
    rw [List.map_append]; rfl
/-- what the first i entries give -/
def part (s : Nat) (L : List En) (φ : Nat → Nat → Nat) (i : Nat) : Nat := TT (L.take i) (Lop s φ)
/-- how many of the first i entries have so many -/
def fv (L : List En) (l i : Nat) : Nat := TT (L.take i) (phi l)
def fL (L : List En) (m i : Nat) : List D := (List.range (m + 1)).map fun l => .int (fv L l i : Int)
theorem fL_len {L : List En} {m i : Nat} : (fL L m i).length = m + 1 := by unfold fL; rw [List.length_map, List.length_range]
theorem fL_get {L : List En} {m i o : Nat} (h : o ≤ m) : (fL L m i)[o]? = some (.int (fv L o i : Int)) := by
  unfold fL
  rw [List.getElem?_map, List.getElem?_range (by omega)]; rfl
theorem rep_f {L : List En} {m : Nat} : (List.replicate (m + 1) [D.int 0]).flatten = fL L m 0 := by
  have : fL L m 0 = (List.range (m + 1)).map fun _ => D.int 0 := rfl
  rw [this, List.map_const', List.length_range]
  induction m + 1 with
  | zero => rfl
  | succ n ih => rw [List.replicate_succ, List.flatten_cons, ih, List.replicate_succ]; rfl
theorem fL_set {L : List En} {m i g o v : Nat} (he : L[i]? = some ((g, o), v)) (h : o ≤ m) : (fL L m i).set o (.int ((fv L o i + v : Nat) : Int)) = fL L m (i + 1) := by
  have step : ∀ l, fv L l (i + 1) = fv L l i + v * phi l g o := fun l => by
    unfold fv
    rw [List.take_succ, he]
    show TT (L.take i ++ [((g, o), v)]) (phi l) = _
    rw [TT_append, TT_cons]; rfl
  refine List.ext_getElem? fun j => ?_
  by_cases c : j ≤ m
  · by_cases ej : j = o
    · subst ej
      rw [List.getElem?_set_self (by rw [fL_len]; omega), fL_get h, step]
      unfold phi; rw [if_pos rfl, Nat.mul_one]
    · rw [List.getElem?_set_ne (Ne.symm ej), fL_get c, fL_get c, step]
      unfold phi; rw [if_neg (Ne.symm ej), Nat.mul_zero, Nat.add_zero]
  · rw [List.getElem?_eq_none (by rw [List.length_set, fL_len]; omega), List.getElem?_eq_none (by rw [fL_len]; omega)]
theorem p_law_odds : ∀ ds h Q E, c_law_odds ds h Q E → m_law_odds { nx := fun _ h' => Q .non h', rt := Q } (mstart N_law_odds ds) h := by
  rintro ds h Q E ⟨m, s, rfl, hm, hs, q⟩
  walk_at "n"
  intro p np
  refine ⟨[Sum.inl 0, Sum.inl 0], rfl, ?_⟩
  walk_at "n"
  refine ⟨by omega, by omega, ?_⟩
  have hn : (srcR 0 (m : Int).toNat 1).n = m := by rw [srcR_n]; omega
  refine forW (fun k env h' => Fr [] h h' ∧ ∃ ps L x3 x4 x5 x6 x7 x8 x9, env = [some (.int m), some (.int s), some (.ref ps), x3, x4, x5, x6, x7, x8, x9] ∧ h ps = none ∧ h' ps = some (.dT (encE L)) ∧ Eo s k L ∧ ∀ φ, TT L φ = itL s k φ 0 0) ⟨.new np, p, [((0, 0), 1)], none, none, none, none, none, none, none, rfl, np, up_same, ⟨by simp, by simp⟩, fun φ => by
    show 1 * φ 0 0 + 0 = φ 0 0; omega⟩ (fun _ _ _ _ => trivial) ?_ ?_
  · rintro k env h1 hk ⟨fr, ps, L, x3, x4, x5, x6, x7, x8, x9, rfl, ns, es, eo, eT⟩
    rw [hn] at hk
    refine ⟨_, rfl, ?_⟩
    walk_at "n"
    intro pl npl
    have n3 : h pl = none := fr.free npl
    have es2 : (up h1 pl (.dT [])) ps = some (.dT (encE L)) := by rw [up_ne (ne_of es npl)]; exact es
    have el2 : (up h1 pl (.dT [])) pl = some (.dT (encE [])) := up_same
    have fr2 : Fr [] h (up h1 pl (.dT [])) := fr.trans (.new npl)
    have np2 : pl ≠ ps := fun z => by rw [z, es] at npl; cases npl
    have np3 := Ne.symm np2
    generalize up h1 pl (.dT []) = h2 at es2 el2 fr2 ⊢
    clear npl
    refine seq_ (lockT_ ⟨ps, encE L, rfl, es2, fun ws od => ?_⟩)
    refine for_ ⟨ps, encE L, ws, od, rfl, up_same, ?_⟩
    have hnL : (srcT ps (encE L) ws od).n = L.length := enc_len
    refine forW (fun i env h' => Fr [] h h' ∧ h' ps = some (.fT (encE L) ws od) ∧ ∃ L2 x5 x6 x8 x9, env = [some (.int m), some (.int s), some (.ref ps), some (.int k), x4, x5, x6, some (.ref pl), x8, x9] ∧ h' pl = some (.dT (encE L2)) ∧ Eo s (k + 1) L2 ∧ ∀ φ, TT L2 φ = TT (L.take i) (Lop s φ)) ⟨Fr.over ns fr2, up_same, [], x5, x6, x8, x9, rfl, by rw [up_ne np2]; exact el2, ⟨by simp, by simp⟩, fun φ => by rw [List.take_zero]; rfl⟩ (fun i env h' w => w.2.1) ?_ ?_
    · rintro i env h3 hi ⟨fr3, es3, L2, x5, x6, x8, x9, rfl, el3, eo2, eT2⟩
      rw [hnL] at hi
      obtain ⟨⟨⟨g, o⟩, v⟩, he⟩ : ∃ e, L[i]? = some e := ⟨L[i], List.getElem?_eq_getElem hi⟩
      have ek : (encE L)[i]? = some (kk g o, .int (v : Int)) := by unfold encE; rw [List.getElem?_map, he]; rfl
      have ei : (srcT ps (encE L) ws od).item i = .tup [.int (g : Int), .int (o : Int)] := by
        show (match (encE L)[i]? with
          | some kv => keyT kv.1
          | none => .non) = _
        rw [ek]; rfl
      obtain ⟨bg, bo⟩ := eo.bd _ (List.mem_of_getElem? he)
      have bg : g ≤ s := bg
      have bo : o ≤ k := bo
      have ev : dG (encE L) (kk g o) = some (.int (v : Int)) := by rw [dG_enc, lk_get eo.nd he]; rfl
      rw [ei]
      refine ⟨_, rfl, ?_⟩
      clear es es2 el2
      walk_at "n"
      refine ⟨encE L, .inr ⟨ws, od, es3⟩, kk g o, rfl, .int (v : Int), ev, ?_⟩
      walk_at "n"
      have lim : ∀ {M : List En}, Eo s (k + 1) M → (encE M).length < 16777216 := fun {M} hM => by
        rw [enc_len]
        have h1 := hM.len
        have h2 : (s + 1) * (k + 1 + 1) ≤ 101 * 62 := Nat.mul_le_mul (by omega) (by omega)
        omega
      have hmx : (if (g : Int) - 1 > 0 then (g : Int) - 1 else 0) = ((g - 1 : Nat) : Int) := by split <;> omega
      rw [hmx]
      refine ⟨⟨_, .inl el3⟩, encE L2, .inl el3, kk g o, rfl, mulOkR (by omega) (by omega), ?_⟩
      rw [getD_enc, q_add1, ← Int.natCast_mul, ← Int.natCast_add]
      refine ⟨encE L2, el3, kk g o, rfl, lim eo2, ?_⟩
      rw [put_enc]
      have sA := eo2.put (k := (g, o)) (v := lk L2 (g, o) + v * (g - 1)) bg (by show o ≤ k + 1; omega)
      have tA := fun φ => TT_put eo2.nd (g, o) (v * (g - 1)) φ
      generalize putL L2 (g, o) (lk L2 (g, o) + v * (g - 1)) = LA at sA tA ⊢
      have elA : (up h3 pl (.dT (encE LA))) pl = some (.dT (encE LA)) := up_same
      have esA : (up h3 pl (.dT (encE LA))) ps = some (.fT (encE L) ws od) := by rw [up_ne np3]; exact es3
      have frA : Fr [] h (up h3 pl (.dT (encE LA))) := Fr.over n3 fr3
      generalize up h3 pl (.dT (encE LA)) = h4 at elA esA frA ⊢
      clear el3 es3 hmx ei ek
      walk_at "n"
      have hmx : (if decide ((0 : Int) < (g : Int)) = true then (1 : Int) else 0) = ((if 0 < g then 1 else 0 : Nat) : Int) := by
        by_cases c : 0 < g
        · rw [if_pos c, if_pos (decide_eq_true (by omega))]; rfl
        · rw [if_neg c, if_neg (by simp; omega)]; rfl
      rw [hmx]
      generalize hc : (if 0 < g then 1 else 0 : Nat) = cc
      have cc1 : cc ≤ 1 := by rw [← hc]; split <;> omega
      refine ⟨⟨_, .inl elA⟩, encE LA, .inl elA, kk g (o + 1), rfl, mulOkR (by omega) (by omega), ?_⟩
      rw [getD_enc, q_add1, ← Int.natCast_mul, ← Int.natCast_add]
      refine ⟨encE LA, elA, kk g (o + 1), rfl, lim sA, ?_⟩
      rw [put_enc]
      have sB := sA.put (k := (g, o + 1)) (v := lk LA (g, o + 1) + v * cc) bg (by show o + 1 ≤ k + 1; omega)
      have tB := fun φ => TT_put sA.nd (g, o + 1) (v * cc) φ
      generalize putL LA (g, o + 1) (lk LA (g, o + 1) + v * cc) = LB at sB tB ⊢
      have elB : (up h4 pl (.dT (encE LB))) pl = some (.dT (encE LB)) := up_same
      have esB : (up h4 pl (.dT (encE LB))) ps = some (.fT (encE L) ws od) := by rw [up_ne np3]; exact esA
      have frB : Fr [] h (up h4 pl (.dT (encE LB))) := Fr.over n3 frA
      generalize up h4 pl (.dT (encE LB)) = h5 at elB esB frB ⊢
      clear elA esA hmx
      walk_at "n"
      refine ⟨by omega, by omega, ?_⟩
      try refine ⟨by omega, by omega, ?_⟩
      have hn3 : (srcR ((g : Int) + 1) ((s : Int) + 1 - ((g : Int) + 1)).toNat 1).n = s - g := by rw [srcR_n]; omega
      refine forW (fun j env h' => Fr [] h h' ∧ h' ps = some (.fT (encE L) ws od) ∧ ∃ LC x9, env = [some (.int m), some (.int s), some (.ref ps), some (.int k), x4, some (.int (g : Int)), some (.int (o : Int)), some (.ref pl), some (.int (v : Int)), x9] ∧ h' pl = some (.dT (encE LC)) ∧ Eo s (k + 1) LC ∧ ∀ φ, TT LC φ = TT LB φ + v * S j fun d => φ (g + 1 + d) 1) ⟨frB, esB, LB, x9, rfl, elB, sB, fun φ => by show TT LB φ = TT LB φ + v * 0; omega⟩ (fun _ _ _ _ => trivial) ?_ ?_
      · rintro j env h6 hj ⟨fr6, es6, LC, x9, rfl, el6, sC, tC⟩
        rw [hn3] at hj
        rw [srcR_item, show (g : Int) + 1 + (j : Nat) * 1 = ((g + 1 + j : Nat) : Int) by omega]
        refine ⟨_, rfl, ?_⟩
        clear elB esB
        walk_at "n"
        refine ⟨⟨_, .inl el6⟩, encE LC, .inl el6, kk (g + 1 + j) 1, rfl, ?_⟩
        rw [getD_enc, q_add1, ← Int.natCast_add]
        refine ⟨encE LC, el6, kk (g + 1 + j) 1, rfl, lim sC, ?_⟩
        rw [put_enc]
        refine ⟨Fr.over n3 fr6, by rw [up_ne np3]; exact es6, ?_⟩
        refine ⟨_, rfl, sC.put (by show g + 1 + j ≤ s; omega) (by show 1 ≤ k + 1; omega), fun φ => ?_⟩
        rw [TT_put sC.nd, tC, tB, tA, eT2]
        rw [show S (j + 1) (fun d => φ (g + 1 + d) 1) = S j (fun d => φ (g + 1 + d) 1) + φ (g + 1 + j) 1 from rfl, Nat.mul_add]
        dsimp only
        omega
      · rintro env h6 ⟨fr6, es6, LC, x9, rfl, el6, sC, tC⟩
        rw [hn3] at tC
        refine ⟨fr6, es6, LC, _, _, _, _, rfl, el6, sC, fun φ => ?_⟩
        rw [tC, tB, tA, eT2, List.take_succ, he]
        show _ = TT (L.take i ++ [((g, o), v)]) (Lop s φ)
        rw [TT_append, TT_cons]
        show _ = _ + (v * Lop s φ g o + 0)
        unfold Lop
        rw [Nat.mul_add, Nat.mul_add]
        have e1 : v * cc * φ g (o + 1) = v * (if 0 < g then φ g (o + 1) else 0) := by
          rw [← hc]
          split <;> simp
        rw [e1, Nat.mul_assoc]
        dsimp only
        omega
    · rintro env h3 ⟨fr3, es3, L2, x5, x6, x8, x9, rfl, el3, eo2, eT2⟩
      rw [hnL] at eT2
      refine ⟨es3, ?_⟩
      clear es es2 el2
      walk_at "n"
      exact ⟨Fr.over ns fr3, L2, by rw [up_ne np2]; exact el3, eo2, fun φ => by rw [eT2, List.take_length, eT, itL_comm]⟩
  · rintro env h1 ⟨fr, ps, L, x3, x4, x5, x6, x7, x8, x9, rfl, ns, es, eo, eT⟩
    rw [hn] at eo eT
    walk_at "n"
    intro p1 np1
    refine ⟨by omega, by omega, by omega, fun p2 np2 => ?_⟩
    have n2 : h p2 = none := fr.free ((Fr.new (S := []) (o := .lst [.int 0]) np1).free np2)
    have es2 : (up (up h1 p1 (.lst [.int 0])) p2 (.lst (List.replicate ((m : Int) + 1).toNat [D.int 0]).flatten)) ps = some (.dT (encE L)) := by
      rw [up_ne (fun z => by rw [← z, up_ne (ne_of es np1), es] at np2; cases np2), up_ne (ne_of es np1)]; exact es
    have fr2 : Fr [] h (up (up h1 p1 (.lst [.int 0])) p2 (.lst (List.replicate ((m : Int) + 1).toNat [D.int 0]).flatten)) := fr.trans ((Fr.new np1).trans (.new np2))
    have e2 : (up (up h1 p1 (.lst [.int 0])) p2 (.lst (List.replicate ((m : Int) + 1).toNat [D.int 0]).flatten)) p2 = some (.lst (fL L m 0)) := by
      rw [up_same, show ((m : Int) + 1).toNat = m + 1 by omega, rep_f]
    have n12 : p2 ≠ ps := fun z => by rw [z, up_ne (ne_of es np1), es] at np2; cases np2
    generalize up (up h1 p1 (.lst [.int 0])) p2 (.lst (List.replicate ((m : Int) + 1).toNat [D.int 0]).flatten) = h2 at es2 fr2 e2 ⊢
    clear np1 np2 es
    refine seq_ (lockT_ ⟨ps, encE L, rfl, es2, fun ws od => ?_⟩)
    refine for_ ⟨ps, encE L, ws, od, rfl, up_same, ?_⟩
    have hnL : (srcT ps (encE L) ws od).n = L.length := enc_len
    refine forW (fun i env h' => Fr [] h h' ∧ h' ps = some (.fT (encE L) ws od) ∧ ∃ x5 x6, env = [some (.int m), some (.int s), some (.ref ps), x3, some (.ref p2), x5, x6, x7, x8, x9] ∧ h' p2 = some (.lst (fL L m i))) ⟨Fr.over ns fr2, up_same, x5, x6, rfl, by rw [up_ne n12]; exact e2⟩ (fun i env h' w => w.2.1) ?_ ?_
    · rintro i env h3 hi ⟨fr3, es3, x5, x6, rfl, e3⟩
      rw [hnL] at hi
      obtain ⟨⟨⟨g, o⟩, v⟩, he⟩ : ∃ e, L[i]? = some e := ⟨L[i], List.getElem?_eq_getElem hi⟩
      have ek : (encE L)[i]? = some (kk g o, .int (v : Int)) := by unfold encE; rw [List.getElem?_map, he]; rfl
      have ei : (srcT ps (encE L) ws od).item i = .tup [.int (g : Int), .int (o : Int)] := by
        show (match (encE L)[i]? with
          | some kv => keyT kv.1
          | none => .non) = _
        rw [ek]; rfl
      have bo : o ≤ m := (eo.bd _ (List.mem_of_getElem? he)).2
      have ev : dG (encE L) (kk g o) = some (.int (v : Int)) := by rw [dG_enc, lk_get eo.nd he]; rfl
      rw [ei]
      refine ⟨_, rfl, ?_⟩
      have a1 : atI (fL L m i) (o : Int) = some (.int (fv L o i : Int)) := atI_nat (fL_get bo)
      have a3 : ixN (fL L m i).length (o : Int) = some o := by
        unfold ixN
        rw [fL_len, if_pos (by omega), if_pos (by omega), Int.toNat_natCast]
      clear es2 e2 ei ek
      walk_at "n"
      refine ⟨encE L, .inr ⟨ws, od, es3⟩, kk g o, rfl, .int (v : Int), ev, ?_⟩
      rw [q_add1, ← Int.natCast_add]
      exact ⟨_, e3, o, a3, Fr.over n2 fr3, by rw [up_ne (Ne.symm n12)]; exact es3, fL_set he bo⟩
    · rintro env h3 ⟨fr3, es3, x5, x6, rfl, e3⟩
      rw [hnL] at e3
      refine ⟨es3, ?_⟩
      have el : fL L m L.length = oL s m := by
        unfold fL oL
        refine List.map_congr_left fun l _ => ?_
        unfold fv odv
        rw [List.take_length, eT]
      rw [el] at e3
      clear es2 e2
      walk_at "n"
      exact q p2 _ (Fr.over ns fr3) n2 (by rw [up_ne n12]; exact e3)
theorem oL_at {s m l : Nat} (h : l ≤ m) : atI (oL s m) (l : Int) = some (.int (odv s m l : Int)) := atI_nat (by
  unfold oL
  rw [List.getElem?_map, List.getElem?_range (by omega)]; rfl)
theorem odv_PQ {s m l : Nat} (hl : 1 ≤ l) (hm : 1 ≤ m) : ((odv s m l : Int) : Rat) / (((s ^ m : Nat) : Int) : Rat) = PQ s m l := by
  unfold odv PQ
  rw [it_od hl hm]
  norm_cast
theorem pow_log9 {s m : Nat} (s1 : 1 ≤ s) (s2 : s ≤ 100) (m2 : m ≤ 60) : (((s ^ m : Nat) : Int)).natAbs.log2 < 9000 := by
  rw [Int.natAbs_natCast]
  exact pow_log (b := 7) (by omega) s1 (by omega)
theorem dd_dR {q : Rat} {n : Nat} : Dd (n + 2) (dR q) := ⟨by show 2 ≤ 100000; decide, fun x hx => by
  rcases List.mem_cons.mp hx with rfl | hx
  · trivial
  · rw [List.mem_singleton.mp hx]; trivial⟩
theorem p_law_power : ∀ ds h Q E, c_law_power ds h Q E → m_law_power { nx := fun _ h' => Q .non h', rt := Q } (mstart N_law_power ds) h := by
  rintro ds h Q E ⟨a, k, rfl, ha, hk, q⟩
  walk_at "n"
  walk_at "n"
  refine ⟨by omega, by omega, ?_⟩
  have hn : (srcR 0 (k : Int).toNat 1).n = k := by rw [srcR_n]; omega
  refine forW (fun i env h' => h' = h ∧ ∃ x, env = [some (.int a), some (.int k), some (.int ((a ^ i : Nat) : Int)), x]) ⟨rfl, none, rfl⟩ (fun _ _ _ _ => trivial) ?_ ?_
  · rintro i env h' hi ⟨rfl, x, rfl⟩
    refine ⟨_, rfl, ?_⟩
    walk_at "n"
    refine ⟨mulOkR (by omega) (by omega), ?_⟩
    rw [Nat.pow_succ, Int.natCast_mul]
  · rintro env h' ⟨rfl, x, rfl⟩
    rw [hn]
    walk_at "n"
theorem mean_sz' {s n : Nat} (hs : 2 ≤ s) (hN : s ^ (n * n + n) < 2 ^ 3900) (hn60 : n ≤ 60) {c : Nat} (hc : c ≤ n) (c1 : 1 ≤ c) : Sz (mean s c) := by
  have hs1 : 1 ≤ s := by omega
  have big : 2 ^ 3900 ≤ 2 ^ 4000 := Nat.pow_le_pow_right (by decide) (by decide)
  have h1 := MM_le hs c
  have h2 : s ^ (c * c) ≤ s ^ (n * n + n) := Nat.pow_le_pow_right hs1 (Nat.le_trans (Nat.mul_le_mul hc hc) (Nat.le_add_right ..))
  have b := mean_bd hs c
  refine sz_of (B := 4 ^ c) (Iz_mean hs c) (MM_pos hs c) (by omega) ?_ b.2 ?_
  · have : (0 : Rat) ≤ ((4 ^ c : Nat) : Rat) := by exact_mod_cast Nat.zero_le _
    have := b.1
    grind
  · have h1 : 4 ^ c ≤ 4 ^ 60 := Nat.pow_le_pow_right (by decide) (by omega)
    have h2 : 4 ^ 60 + 2 < 2 ^ 200 := by decide
    have h3 : 2 ^ 200 ≤ 2 ^ 90000 := Nat.pow_le_pow_right (by decide) (by decide)
    omega
/-! ### proofs -/
theorem len_law_hand : ∀ ds h Q E, c_law_hand ds h Q E → ds.length = 2 := by rintro ds h Q E ⟨a, b, rfl, _⟩; rfl
theorem len_law_take : ∀ ds h Q E, c_law_take ds h Q E → ds.length = 2 := by rintro ds h Q E ⟨a, b, c, rfl, _⟩; rfl
theorem len_law_of : ∀ ds h Q E, c_law_of ds h Q E → ds.length = 2 := by rintro ds h Q E ⟨a, b, c, d, rfl, _⟩; rfl
theorem len_law_same : ∀ n ds h Q E, c_law_same n ds h Q E → ds.length = 2
  | 0, _, _, _, _, q => q.elim
  | n + 1, _, _, _, _, ⟨d, e, _⟩ => by rw [e]; rfl
theorem p_law_hand : ∀ ds h Q E, c_law_hand ds h Q E → m_law_hand { nx := fun _ h' => Q .non h', rt := Q } (mstart N_law_hand ds) h := by
  rintro ds h Q E ⟨ns, k, rfl, hk, q⟩
  walk_at "n"
  have fin : ∀ cell : Int, mRet (mLst (mCons (mOp rMul (mVar 2) (mCa rInt1 (mCons (mOp rGeI (mVar 2) (mOp rPow (mC (.int 10)) (mC (.int 18)))) mNil))) (mCons (mOp rAdd (mOp rAdd (mOp rMod (mVar 2) (mC (.int 2305843009213693951))) (mOp rMul (mC (.int 7919)) (mVar 1))) (mC (.int 11))) (mCons (mC (.int 0)) mNil)))) { nx := fun _ h' => Q .non h', rt := Q } [some (.rl (ns.map .int)), some (.int k), some (.int cell)] h := fun cell => by
    walk_at "n"
    have h1 := Int.emod_nonneg cell (show (2305843009213693951 : Int) ≠ 0 by decide)
    have h2 := Int.emod_lt_of_pos cell (show (0 : Int) < 2305843009213693951 by decide)
    refine ⟨⟨by decide, by decide, by decide⟩, mulOkR (by split <;> decide) (by split <;> decide), mulOkL (by decide) (by decide), fun p np => ?_⟩
    refine q p _ (.new np) np ⟨_, _, _, up_same, by omega, by omega, by omega, by omega⟩
  walk_at "n"
  refine ite_ (fun c => ?_) (fun c => ?_)
  · have hl : k < ns.length := by simpa using c
    have e : atI (ns.map D.int) (k : Int) = some (.int ns[k]) := atI_nat (by rw [List.getElem?_map, List.getElem?_eq_getElem hl]; rfl)
    walk_at "n"
  · walk_at "n"
theorem natAbs_lt {x : Int} {n : Nat} (h0 : 0 ≤ x) (h : x < (n : Int)) : x.natAbs < n := by omega
theorem p_law_take : ∀ ds h Q E, c_law_take ds h Q E → m_law_take { nx := fun _ h' => Q .non h', rt := Q } (mstart N_law_take ds) h := by
  rintro ds h Q E ⟨a, many, t, rfl, ⟨s0, s1, s2, e, a1, a2, a3, a4⟩, hm, hm2, q⟩
  have dv : DivOk many := divOk hm hm2
  have r0 : ∀ x : Int, 0 ≤ x % many := fun x => Int.emod_nonneg x (by omega)
  have r1 : ∀ x : Int, x % many < many := fun x => Int.emod_lt_of_pos x hm
  walk_at "n"
  refine ite_ (fun c => ?_) (fun c => ?_)
  · walk_at "n"
    walk_at "n"
    walk_at "n"
    exact q _ _ (r0 _) (r1 _) ⟨_, _, _, up_same, a1, a2, a3, by omega⟩ (.put (by simp))
  · walk_at "n"
    walk_at "n"
    walk_at "n"
    walk_at "n"
    have dd : ∀ d : Int, 0 < d → d < 2 ^ 62 → DivOk d := fun d h1 h2 => divOk h1 (by omega)
    have sq : (s2 + 1) * (s2 + 1) ≤ 2 ^ 60 * 2 ^ 60 := Int.mul_le_mul (by omega) (by omega) (by omega) (by decide)
    have sq0 : 0 ≤ (s2 + 1) * (s2 + 1) := Int.mul_nonneg (by omega) (by omega)
    have mm : MulOk (s1 + 39373 * (s2 + 1)) (48271 + (s2 + 1) * (s2 + 1)) := by
      refine mulOkX (a := 80) (b := 124) (natAbs_lt (by omega) ?_) (natAbs_lt (by omega) ?_) (by decide)
      · have : ((2 ^ 80 : Nat) : Int) = 1208925819614629174706176 := rfl
        rw [this]; omega
      · have : ((2 ^ 124 : Nat) : Int) = 21267647932558653966460912964485513216 := rfl
        rw [this]; omega
    refine ⟨mulOkL (by decide) (by decide), mulOkL (by omega) (by omega), mm, ?_⟩
    generalize hx : (s1 + 39373 * (s2 + 1)) * (48271 + (s2 + 1) * (s2 + 1)) % 2305843009213693921 = x
    have hx0 : 0 ≤ x := by rw [← hx]; exact Int.emod_nonneg _ (by decide)
    have hx1 : x < 2305843009213693921 := by rw [← hx]; exact Int.emod_lt_of_pos _ (by decide)
    clear hx sq sq0 mm
    walk_at "n"
    refine ⟨mulOkL (by omega) (by omega), ?_⟩
    generalize hy : x * (x % 1000003 + 17) % 2305843009213693907 = y
    have hy0 : 0 ≤ y := by rw [← hy]; exact Int.emod_nonneg _ (by decide)
    have hy1 : y < 2305843009213693907 := by rw [← hy]; exact Int.emod_lt_of_pos _ (by decide)
    walk_at "n"
    exact ⟨dd _ (by decide) (by decide), q _ _ (r0 _) (r1 _) ⟨_, _, _, up_same, by omega, by omega, by omega, by omega⟩ (.put (by simp))⟩
theorem p_law_of : ∀ ds h Q E, c_law_of ds h Q E → m_law_of { nx := fun _ h' => Q .non h', rt := Q } (mstart N_law_of ds) h := by
  rintro ds h Q E ⟨a, b, t, xs, rfl, hd, eb, ne, l0, l1, q⟩
  walk_at "n"
  refine ⟨a, xs.length, t, rfl, hd, by omega, by omega, fun r h1 r0 r1 hd1 f1 => ?_⟩
  obtain ⟨d, e1, e2⟩ := atI_lt r0 r1
  exact ⟨xs, f1.at1 eb (Ne.symm ne), d, e1, q d h1 e2 hd1 f1⟩
theorem p_law_same : ∀ n ds h Q E, c_law_same (n + 1) ds h Q E → m_law_same n { nx := fun _ h' => Q .non h', rt := Q } (mstart N_law_same ds) h := by
  rintro n ds h Q E ⟨d, rfl, dd, q⟩
  have q0 := q h .refl
  cases d with
  | non =>
    walk_at "r"
  | int i =>
    walk_at "r"
  | tup xs =>
    obtain ⟨hl, hx⟩ := dd
    walk_at "n"
    walk_at "n"
    have e : srcZ xs xs (fun _ => True) = ⟨xs.length, fun i => .tup [xs.getD i .non, xs.getD i .non], fun _ => True⟩ := by
      unfold srcZ; rw [Nat.min_self]
    rw [e]
    refine lcP (fun _ => some (.bl true)) (fun _ _ => trivial) hl (fun k h' hk fr => ⟨_, rfl, fun R r => ?_⟩) (fun p h' fr np ep => ?_)
    · have hk : k < xs.length := hk
      have hm : Dd n (xs.getD k .non) := by
        rw [List.getD_eq_getElem?_getD, List.getElem?_eq_getElem hk]
        exact hx _ (List.getElem_mem hk)
      cases n with
      | zero => exact hm.elim
      | succ n =>
        walk_at "m"
        exact ⟨_, rfl, hm, fun h3 f3 => r h3 f3⟩
    · have e2 : (List.range xs.length).filterMap (fun _ => some (D.bl true)) = (List.replicate xs.length true).map .bl := by
        rw [fm_some, List.map_const', List.length_range, List.map_replicate]
      refine ⟨List.replicate xs.length true, by rw [← e2]; exact ep, ?_⟩
      have e3 : (List.replicate xs.length true).all id = true := by
        rw [List.all_eq_true]
        intro x hx
        exact (List.mem_replicate.mp hx).2
      rw [e3]
      exact q h' fr
  | bl _ => exact dd.elim
  | str _ => exact dd.elim
  | rl _ => exact dd.elim
  | ref _ => exact dd.elim
theorem sz_int (z : Int) (h : z.natAbs < 2 ^ 100000) : Sz (z : Rat) := ⟨by rw [Rat.den_intCast]; exact Nat.one_lt_two_pow (by decide), by rw [Rat.num_intCast]; exact h⟩
theorem memI {x : D} {xs : List Int} (h : x ∈ xs.map D.int) : ∃ i, x = .int i ∧ i ∈ xs := let ⟨i, a, b⟩ := List.mem_map.mp h; ⟨i, b.symm, a⟩
theorem rat_div_int (p : Rat) (z : Int) (hz : z ≠ 0) : ((p.num : Int) : Rat) / (((p.den : Int) * z : Int) : Rat) = p / (z : Rat) := by
  have h1 := rat_self p
  have d1 : (p.den : Rat) ≠ 0 := by have := p.den_nz; exact_mod_cast this
  have d2 : (z : Rat) ≠ 0 := by exact_mod_cast hz
  rw [Rat.intCast_mul, ← h1]
  have e1 : ((p.den : Int) : Rat) = (p.den : Rat) := by norm_cast
  rw [e1]
  generalize (p.den : Rat) = x at *
  grind
theorem cast_nat (n : Nat) : ((n : Int) : Rat) = (n : Rat) := by norm_cast
/-- the sums on the way to a mean -/
def tq (s c j : Nat) : Rat := ((s ^ c : Nat) : Rat) * (1 + R j fun l => PQ s c l * mean s l)
theorem tq_succ {s c j : Nat} (hs : 1 ≤ s) : tq s c (j + 1) = tq s c j + (od c s j : Rat) * mean s j := by
  have h := PQ_mul hs c j
  unfold tq
  show _ * (1 + (R j _ + PQ s c j * mean s j)) = _
  rw [← h]
  generalize R j _ = x
  grind
theorem tq_sz {s c j : Nat} (hs : 2 ≤ s) (c1 : 1 ≤ c) (c60 : c ≤ 60) (hj : j ≤ c) (hN : s ^ (c * c + c) < 2 ^ 3900) : Sz (tq s c j) ∧ (∀ l, l < c → Sz ((od c s l : Rat) * mean s l)) ∧ (∀ l, l ≤ c → od c s l < 2 ^ 3900) ∧ s ^ c < 2 ^ 3900 := by
  have hs1 : 1 ≤ s := by omega
  have ps : s ^ c < 2 ^ 3900 := Nat.lt_of_le_of_lt (Nat.pow_le_pow_right hs1 (by omega)) hN
  have mp := MM_pos hs c
  have pm : MM s c < 2 ^ 4000 := by
    have h1 := MM_le hs c
    have h2 : s ^ (c * c) ≤ s ^ (c * c + c) := Nat.pow_le_pow_right hs1 (by omega)
    have big : 2 ^ 3900 ≤ 2 ^ 4000 := Nat.pow_le_pow_right (by decide) (by decide)
    omega
  have e4 : 4 ^ c + 2 < 2 ^ 200 := by
    have h1 : 4 ^ c ≤ 4 ^ 60 := Nat.pow_le_pow_right (by decide) c60
    have h2 : 4 ^ 60 + 2 < 2 ^ 200 := by decide
    omega
  have hB : s ^ c * (4 ^ c + 2) < 2 ^ 90000 := by
    have h1 : s ^ c * (4 ^ c + 2) < 2 ^ 3900 * 2 ^ 200 := Nat.mul_lt_mul'' ps e4
    have h2 : 2 ^ 3900 * 2 ^ 200 ≤ 2 ^ 90000 := by rw [← Nat.pow_add]; exact Nat.pow_le_pow_right (by decide) (by decide)
    exact Nat.lt_of_lt_of_le h1 h2
  have bd := fun i => mean_bd hs i
  have odr : ∀ l, (0 : Rat) ≤ (od c s l : Rat) := fun l => by exact_mod_cast Nat.zero_le _
  have odl : ∀ l, l ≤ c → (od c s l : Rat) ≤ ((s ^ c : Nat) : Rat) := fun l hl => by exact_mod_cast od_le c s l c1 hl
  have iz : ∀ l, l < c → Iz (MM s c) ((od c s l : Rat) * mean s l) := fun l hl => by
    have := (Iz.int 1 (od c s l : Int)).mul ((Iz_mean hs l).up (MM_dvd (show l ≤ c by omega)))
    rw [Nat.one_mul] at this
    exact this
  have up4 : ∀ l, l < c → mean s l ≤ ((4 ^ c : Nat) : Rat) := fun l hl => by
    have h : 4 ^ l ≤ 4 ^ c := Nat.pow_le_pow_right (by omega) (by omega)
    have h : ((4 ^ l : Nat) : Rat) ≤ ((4 ^ c : Nat) : Rat) := by exact_mod_cast h
    exact Rat.le_trans (bd l).2 h
  have w0 : (0 : Rat) ≤ ((s ^ c : Nat) : Rat) := by exact_mod_cast Nat.zero_le _
  have f0 : (0 : Rat) ≤ ((4 ^ c : Nat) : Rat) := by exact_mod_cast Nat.zero_le _
  have eB : ((s ^ c * (4 ^ c + 2) : Nat) : Rat) = ((s ^ c : Nat) : Rat) * (((4 ^ c : Nat) : Rat) + 2) := by rw [Rat.natCast_mul, Rat.natCast_add]; rfl
  have neg : ∀ q : Rat, 0 ≤ q → -((s ^ c * (4 ^ c + 2) : Nat) : Rat) ≤ q := fun q h => by
    have : (0 : Rat) ≤ ((s ^ c * (4 ^ c + 2) : Nat) : Rat) := by exact_mod_cast Nat.zero_le _
    grind
  have itq : ∀ j, j ≤ c → Iz (MM s c) (tq s c j) := fun j => by
    induction j with
    | zero =>
      intro _
      have : tq s c 0 = (((s ^ c : Nat) : Int) : Rat) := by unfold tq; show _ * (1 + 0) = _; rw [Rat.add_zero, Rat.mul_one]; exact (cast_nat _).symm
      rw [this]; exact Iz.int _ _
    | succ j ih => intro h; rw [tq_succ hs1]; exact (ih (by omega)).add (iz j (by omega))
  have q0 := fun l => PQ_nonneg hs1 c l
  have R0 := R_nonneg (f := fun l => PQ s c l * mean s l) j fun i _ => Rat.mul_nonneg (q0 i) (bd i).1
  have R1 : R j (fun l => PQ s c l * mean s l) ≤ ((4 ^ c : Nat) : Rat) := by
    have h1 : R j (fun l => PQ s c l * mean s l) ≤ R j fun l => ((4 ^ c : Nat) : Rat) * PQ s c l := R_le j fun i hi => by
      rw [Rat.mul_comm _ (PQ s c i)]
      exact Rat.mul_le_mul_of_nonneg_left (up4 i (by omega)) (q0 i)
    rw [R_mul] at h1
    have h2 := R_mono q0 (n := j) (m := c + 1) (by omega)
    rw [PQ_sum hs1 c1] at h2
    have h4 := Rat.mul_le_mul_of_nonneg_left h2 f0
    grind
  refine ⟨sz_of (itq j hj) mp pm (neg _ ?_) ?_ hB, fun l hl => sz_of (iz l hl) mp pm (neg _ (Rat.mul_nonneg (odr l) (bd l).1)) ?_ hB, fun l hl => Nat.lt_of_le_of_lt (od_le c s l c1 hl) ps, ps⟩
  · exact Rat.mul_nonneg w0 (by grind)
  · rw [eB]
    exact Rat.mul_le_mul_of_nonneg_left (by grind) w0
  · rw [eB]
    have h1 := Rat.mul_le_mul_of_nonneg_left (up4 l hl) (odr l)
    have h2 := Rat.mul_le_mul_of_nonneg_left (odl l (by omega)) f0
    have h3 : ((s ^ c : Nat) : Rat) * (((4 ^ c : Nat) : Rat) + 2) = ((4 ^ c : Nat) : Rat) * ((s ^ c : Nat) : Rat) + 2 * ((s ^ c : Nat) : Rat) := by grind
    rw [h3]
    rw [Rat.mul_comm (((4 ^ c : Nat) : Rat)) (od c s l : Rat)] at h2
    grind
theorem mL_at' {s c i : Nat} (h : i < c) : atI (mL' s c) (i : Int) = some (dR (mean s i)) := atI_nat (by
  unfold mL'
  rw [List.getElem?_map, List.getElem?_range h]; rfl)
theorem mL_len' {s c : Nat} : (mL' s c).length = c := by unfold mL'; rw [List.length_map, List.length_range]
theorem mL_succ' {s c : Nat} : mL' s (c + 1) = mL' s c ++ [dR (mean s c)] := by unfold mL'; rw [List.range_succ, List.map_append]; rfl
theorem tq_end {s c : Nat} (hs : 2 ≤ s) (hc : 2 ≤ c) : tq s c c / ((((s ^ c : Nat) : Int) - (od c s c : Int) : Int) : Rat) = mean s c := by
  have hs1 : 1 ≤ s := by omega
  rw [od_self c s (by omega), mean_rec s c hc]
  have h1 := PQ_self_mul hs1 (n := c) (by omega)
  have h2 := PQ_half hs hc
  have h3 := pw_pos hs1 c
  unfold tq
  rw [Rat.intCast_sub]
  have e1 : (((s ^ c : Nat) : Int) : Rat) = ((s ^ c : Nat) : Rat) := by norm_cast
  have e2 : ((s : Int) : Rat) = (s : Rat) := by norm_cast
  rw [e1, e2, ← h1]
  generalize ((s ^ c : Nat) : Rat) = w at *
  generalize PQ s c c = p at *
  generalize R c _ = x
  have w0 : w ≠ 0 := fun z => by rw [z] at h3; exact Rat.lt_irrefl h3
  have p0 : 1 - p ≠ 0 := by grind
  have : w - p * w ≠ 0 := by grind
  grind
theorem p_law_means : ∀ ds h Q E, c_law_means ds h Q E → m_law_means { nx := fun _ h' => Q .non h', rt := Q } (mstart N_law_means ds) h := by
  rintro ds h Q E ⟨n, s, rfl, s1, s2, n1, n60, hN, q⟩
  have hs1 : 1 ≤ s := by omega
  walk_at "n"
  intro p np
  walk_at "n"
  refine ⟨by omega, by omega, ?_⟩
  try refine ⟨by omega, by omega, ?_⟩
  have hn : (srcR 2 ((n : Int) + 1 - 2).toNat 1).n = n - 1 := by rw [srcR_n]; omega
  refine forW (fun k env h' => Fr [] h h' ∧ ∃ x3 x4 x5 x6 x7, env = [some (.int n), some (.int s), some (.ref p), x3, x4, x5, x6, x7] ∧ h' p = some (.lst (mL' s (2 + k)))) ⟨.new np, none, none, none, none, none, rfl, up_same⟩ (fun _ _ _ _ => trivial) ?_ ?_
  · rintro k env h1 hk ⟨fr, x3, x4, x5, x6, x7, rfl, ep⟩
    rw [hn] at hk
    generalize hc : 2 + k = c at ep
    rw [srcR_item, show (2 : Int) + (k : Nat) * 1 = ((c : Nat) : Int) by omega]
    refine ⟨_, rfl, ?_⟩
    have hNc : s ^ (c * c + c) < 2 ^ 3900 := Nat.lt_of_le_of_lt (Nat.pow_le_pow_right hs1 (Nat.add_le_add (Nat.mul_le_mul (show c ≤ n by omega) (show c ≤ n by omega)) (by omega))) hN
    walk_at "n"
    refine ⟨c, s, rfl, by omega, s2, fun a h2 f2 n2 e2 => ?_⟩
    refine ⟨s, c, rfl, by omega, by omega, ?_⟩
    have ep2 := f2.at0 ep
    have fr2 := fr.trans f2
    clear ep
    walk_at "w"
    walk_at "n"
    refine ⟨by omega, by omega, ?_⟩
    try refine ⟨by omega, by omega, ?_⟩
    have hn2 : (srcR 2 ((c : Int) - 2).toNat 1).n = c - 2 := by rw [srcR_n]; omega
    refine forW (fun j env h' => h' = h2 ∧ ∃ x7, env = [some (.int n), some (.int s), some (.ref p), some (.int c), some (.ref a), some (.int ((s ^ c : Nat) : Int)), some (dR (tq s c (2 + j))), x7]) ⟨rfl, x7, ?_⟩ (fun _ _ _ _ => trivial) ?_ ?_
    · have : tq s c (2 + 0) = (((s ^ c : Nat) : Int) : Rat) := by
        show tq s c 2 = _
        rw [tq_succ hs1, tq_succ hs1, mean_zero, mean_one]
        have : tq s c 0 = (((s ^ c : Nat) : Int) : Rat) := by unfold tq; show _ * (1 + 0) = _; rw [Rat.add_zero, Rat.mul_one]; exact (cast_nat _).symm
        rw [this]; grind
      rw [this]; rfl
    · rintro j env h3 hj ⟨rfl, x7, rfl⟩
      rw [hn2] at hj
      rw [srcR_item, show (2 : Int) + (j : Nat) * 1 = ((2 + j : Nat) : Int) by omega]
      refine ⟨_, rfl, ?_⟩
      generalize hl : 2 + j = l
      have a1 := oL_at (s := s) (m := c) (l := l) (by omega)
      have eo : odv s c l = od c s l := it_od (by omega) (by omega)
      rw [eo] at a1
      have a2 := mL_at' (s := s) (c := c) (i := l) (by omega)
      obtain ⟨z1, z2, z3, _⟩ := tq_sz (j := l) s1 (by omega) (by omega) (show l ≤ c by omega) hNc
      have z4 := (mean_sz' s1 hNc (by omega) (c := l) (by omega) (by omega))
      have z5 : Sz ((od c s l : Int) : Rat) := sz_int _ (by
        rw [Int.natAbs_natCast]
        exact Nat.lt_trans (z3 l (by omega)) (Nat.pow_lt_pow_right (by decide) (by decide)))
      walk_at "n"
      refine ⟨((od c s l : Int) : Rat), mean s l, rfl, z5, z4, ?_⟩
      refine ⟨tq s c l, _, rfl, z1, ?_, ?_⟩
      · have := z2 l (by omega)
        have e : ((od c s l : Int) : Rat) = (od c s l : Rat) := by norm_cast
        rw [e]; exact this
      · refine ⟨rfl, ?_⟩
        rw [show 2 + (j + 1) = l + 1 by omega, tq_succ hs1]
        have e : ((od c s l : Int) : Rat) = (od c s l : Rat) := by norm_cast
        rw [e]
    · rintro env h3 ⟨rfl, x7, rfl⟩
      rw [hn2, show 2 + (c - 2) = c by omega]
      obtain ⟨z1, _, _, zw⟩ := tq_sz (j := c) s1 (by omega) (by omega) (Nat.le_refl c) hNc
      have a1 := oL_at (s := s) (m := c) (l := c) (by omega)
      have eo : odv s c c = od c s c := it_od (by omega) (by omega)
      rw [eo] at a1
      have te := tq_end s1 (show 2 ≤ c by omega)
      have os := od_self c s (show 1 ≤ c by omega)
      have gt := pw_gt s1 (show 2 ≤ c by omega)
      have gp : 0 < ((s ^ c : Nat) : Int) - (od c s c : Int) := by omega
      generalize hg : ((s ^ c : Nat) : Int) - (od c s c : Int) = g at te gp
      have gs : g.natAbs < 2 ^ 4000 := Nat.lt_trans (show g.natAbs < 2 ^ 3900 by omega) (Nat.pow_lt_pow_right (by decide) (by decide))
      have r0 := @q_dR0
      have r1 := @q_dR1
      generalize tq s c c = t at z1 te
      have td := t.den_nz
      rw [os] at hg
      walk_at "n"
      refine ⟨mulOkX (a := 4000) (b := 4000) (by rw [Int.natAbs_natCast]; exact z1.1) gs (by decide), _, _, rfl, Int.mul_pos (by omega) gp, ?_, ?_⟩
      · have h1 : ((t.den : Int) * g).natAbs < 2 ^ (4000 + 4000) := by
          rw [Int.natAbs_mul, Int.natAbs_natCast, Nat.pow_add]
          exact Nat.mul_lt_mul'' z1.1 gs
        refine Nat.lt_of_lt_of_le ((Nat.log2_lt ?_).mpr h1) (by decide)
        have := Int.mul_pos (show 0 < (t.den : Int) by omega) gp
        omega
      · rw [rat_div_int _ _ (by omega), te]
        refine ⟨_, ep2, by rw [mL_len']; omega, Fr.over np fr2, ?_⟩
        rw [show 2 + (k + 1) = c + 1 by omega, mL_succ']
  · rintro env h' ⟨fr, x3, x4, x5, x6, x7, rfl, ep⟩
    rw [hn, show 2 + (n - 1) = n + 1 by omega] at ep
    have q := q p h' fr np ep
    walk_at "n"
theorem pow_lt {s b e k : Nat} (hs : s ≤ 2 ^ b) (h : b * e < k) : s ^ e < 2 ^ k := by
  have h1 : s ^ e ≤ 2 ^ (b * e) := by rw [Nat.pow_mul]; exact Nat.pow_le_pow_left hs e
  exact Nat.lt_of_le_of_lt h1 (Nat.pow_lt_pow_right (by decide) h)
theorem p_law : ∀ ds h Q E, c_law ds h Q E → m_law { nx := fun _ h' => Q .non h', rt := Q } (mstart N_law ds) h := by
  rintro ds h Q E ⟨ns, rfl, hl, q⟩
  walk_at "n"
  refine ⟨by split <;> omega, by split <;> omega, ?_⟩
  generalize hK : (if (if (ns.length : Int) < 5 then (ns.length : Int) else 5) > 1 then if (ns.length : Int) < 5 then (ns.length : Int) else 5 else 1) = K
  have hK5 : K ≤ 5 := by rw [← hK]; split <;> omega
  clear hK
  have hn : (srcR 0 K.toNat 1).n = K.toNat := srcR_n
  refine forW (fun k env h' => ∃ x1 x2 x3 x4 x5 x6, env = [some (.rl (ns.map .int)), x1, x2, x3, x4, x5, x6]) ⟨_, _, _, _, _, _, rfl⟩ (fun _ _ _ _ => trivial) ?_ ?_
  · rintro k env h1 hk ⟨x1, x2, x3, x4, x5, x6, rfl⟩
    rw [hn] at hk
    refine ⟨_, rfl, ?_⟩
    walk_at "n"
    refine ⟨ns, k, rfl, by omega, fun a h2 f2 n2 hd2 => ?_⟩
    walk_at "w"
    refine ⟨a, 24, 2 ^ 59 - 1, rfl, hd2, by decide, by decide, fun r3 h3 r30 r31 hd3 f3 => ?_⟩
    walk_at "m"
    intro p3 np3
    refine ⟨a, p3, 2 ^ 59 - 2, _, rfl, (hd3.put (hd3.ne np3)).less (by omega), up_same, hd3.ne np3, by simp, by simp, fun x h4 hx hd4 f4 => ?_⟩
    obtain ⟨m, rfl, m1, m2⟩ : ∃ m : Nat, x = .int m ∧ 1 ≤ m ∧ m ≤ 24 := by
      obtain ⟨i, rfl, hi⟩ := memI (xs := [1, 2, 3, 4, 5, 7, 9, 1 + r3]) hx
      simp only [List.mem_cons, List.not_mem_nil, or_false] at hi
      exact ⟨i.toNat, by rw [Int.toNat_of_nonneg (by omega)], by omega, by omega⟩
    clear hx
    obtain ⟨bb, sm, hb, h63, hsr⟩ : ∃ (bb : Bool) (sm : Int), decide ((9 : Int) < (m : Int)) = bb ∧ atI [D.int 63, .int 6] (if bb = true then 1 else 0) = some (.int sm) ∧ ((m ≤ 9 ∧ sm = 63) ∨ sm = 6) := by
      by_cases c : (9 : Int) < (m : Int)
      · exact ⟨true, 6, decide_eq_true c, at1, .inr rfl⟩
      · exact ⟨false, 63, decide_eq_false c, at0, .inl ⟨by omega, rfl⟩⟩
    walk_at "w"
    intro p5 np5
    have hd5 := hd4.put (o := .lst [.int 63, .int 6]) (hd4.ne np5)
    have sm1 : 0 < sm := by omega
    have sm2 : sm < 2 ^ 200 := by omega
    refine ⟨a, sm, 2 ^ 59 - 4, rfl, hd5.less (by omega), sm1, sm2, fun r6 h6 r60 r61 hd6 f6 => ?_⟩
    walk_at "m"
    intro p7 np7
    refine ⟨a, p7, 2 ^ 59 - 5, _, rfl, (hd6.put (hd6.ne np7)).less (by omega), up_same, hd6.ne np7, by simp, by simp, fun x h8 hx hd8 f8 => ?_⟩
    obtain ⟨sd, rfl, s1, s2⟩ : ∃ sd : Nat, x = .int sd ∧ sd ≤ 62 ∧ (m ≤ 9 ∨ sd ≤ 5) := by
      obtain ⟨i, rfl, hi⟩ := memI (xs := [0, 0, 1, 4, r6]) hx
      simp only [List.mem_cons, List.not_mem_nil, or_false] at hi
      exact ⟨i.toNat, by rw [Int.toNat_of_nonneg (by omega)], by omega, by omega⟩
    clear hx
    have es : (2 : Int) + (sd : Int) = ((2 + sd : Nat) : Int) := by omega
    have b0 : ∀ c, c ≤ m → (2 + sd) ^ (c * c + c) < 2 ^ 3900 := fun c hc => by
      have h1 : c * c ≤ m * m := Nat.mul_le_mul hc hc
      rcases Nat.lt_or_ge 9 m with c9 | c9
      · refine pow_lt (b := 3) (by omega) ?_
        have h2 : m * m ≤ 24 * 24 := Nat.mul_le_mul m2 m2
        omega
      · refine pow_lt (b := 6) (by omega) ?_
        have h2 : m * m ≤ 9 * 9 := Nat.mul_le_mul c9 c9
        omega
    have t1 : 2 ≤ 2 + sd := by omega
    have t2 : 2 + sd ≤ 100 := by omega
    generalize hs' : 2 + sd = s at es b0 t1 t2
    walk_at "w"
    refine ⟨m, s, rfl, t1, t2, m1, by omega, b0 m (Nat.le_refl _), fun b h9 f9 n9 e9 => ?_⟩
    have hd9 := hd8.fr f9
    walk_at "w"
    refine ⟨a, m, 2 ^ 59 - 20, rfl, hd9.less (by omega), by omega, by omega, fun r10 h10 r100 r101 hd10 f10 => ?_⟩
    have nba : b ≠ a := fun z => by
      obtain ⟨_, _, _, e, _⟩ := hd8
      rw [z, e] at n9; cases n9
    have e10 := f10.at1 e9 nba
    walk_at "m"
    intro p11 np11
    have hx : ∀ j, j < 3 → ∃ c : Nat, [D.int (m : Int), .int (1 + r10), .int 1].getD j .non = .int (c : Int) ∧ 1 ≤ c ∧ c ≤ m := fun j hj => by
      match j, hj with
      | 0, _ => exact ⟨m, rfl, m1, Nat.le_refl _⟩
      | 1, _ => exact ⟨(1 + r10).toNat, by show D.int (1 + r10) = _; rw [Int.toNat_of_nonneg (by omega)], by omega, by omega⟩
      | 2, _ => exact ⟨1, rfl, by omega, m1⟩
    have e11 : (up h10 p11 (.lst [D.int (m : Int), .int (1 + r10), .int 1])) b = some (.lst (mL' s (m + 1))) := by rw [up_ne (ne_of e10 np11)]; exact e10
    generalize hXX : [D.int (m : Int), .int (1 + r10), .int 1] = XX at hx e11 ⊢
    have hXl : XX.length = 3 := by rw [← hXX]; rfl
    clear hXX
    have e12 : (up h10 p11 (.lst XX)) p11 = some (.lst XX) := up_same
    generalize up h10 p11 (.lst XX) = h11 at e11 e12 ⊢
    have hn5 : ∀ ok, (srcD XX ok).n = 3 := fun ok => by rw [srcD_n, hXl]
    refine forW (fun j env h' => Fr [] h11 h' ∧ ∃ x6, env = [some (.rl (ns.map .int)), some (.int (k : Int)), some (.ref a), some (.int m), some (.int s), some (.ref b), x6]) ⟨.refl, x6, rfl⟩ (fun j env h' w => w.1.at0 e12) ?_ ?_
    · rintro j env h13 hj ⟨fr, x6, rfl⟩
      rw [hn5] at hj
      obtain ⟨c, el, c1, c2⟩ := hx j hj
      rw [srcD_item, el]
      refine ⟨_, rfl, ?_⟩
      have e13 := fr.at0 e11
      have am := mL_at' (s := s) (c := m + 1) (i := c) (by omega)
      clear hXl e12 e11
      walk_at "n"
      refine ⟨c, s, rfl, t1, t2, c1, by omega, b0 c c2, fun h14 f14 => ?_⟩
      have e14 := f14.at0 e13
      walk_at "m"
      refine ⟨_, rfl, dd_dR, fun h15 f15 => ?_⟩
      have fr2 := fr.trans (f14.trans f15)
      walk_at "m"
      walk_at "n"
    · rintro env h13 ⟨fr, x6, rfl⟩
      exact ⟨_, _, _, _, _, _, rfl⟩
  · rintro env h1 ⟨x1, x2, x3, x4, x5, x6, rfl⟩
    have q := q h1
    walk_at "n"
theorem law_start (ns : List Int) (hl : ns.length ≤ 63) (hb : ∀ z ∈ ns, Builtin.Int.intBits z ≤ 1048576) : c_law [.rl (ns.map .int)] (fun _ => none) (fun d _ => d = .bl true) noE := ⟨ns, rfl, hl, fun _ => rfl⟩
def top (i : Nat) : Stmt := PySem.Challenge.pw_ringchief_k80_means_of_rounds.main.body.getD i (.Pass ⟨0, 0, 0, 0⟩)
abbrev s_common : Stmt := top 1
theorem sc_common : FnScope ["one", "other"] ["one", "other"] (defScope s_common) := ⟨rfl, rfl, rfl, by decide +kernel, rfl, by decide +kernel, by decide +kernel⟩
abbrev s_fraction : Stmt := top 2
theorem sc_fraction : FnScope ["number", "parts", "by"] ["number", "parts"] (defScope s_fraction) := ⟨rfl, rfl, rfl, by decide +kernel, rfl, by decide +kernel, by decide +kernel⟩
abbrev s_added : Stmt := top 3
theorem sc_added : FnScope ["one", "other"] ["one", "other"] (defScope s_added) := ⟨rfl, rfl, rfl, by decide +kernel, rfl, by decide +kernel, by decide +kernel⟩
abbrev s_multiplied : Stmt := top 4
theorem sc_multiplied : FnScope ["one", "other"] ["one", "other"] (defScope s_multiplied) := ⟨rfl, rfl, rfl, by decide +kernel, rfl, by decide +kernel, by decide +kernel⟩
abbrev s_power : Stmt := top 8
theorem sc_power : FnScope ["number", "times", "found", "turn"] ["number", "times"] (defScope s_power) := ⟨rfl, rfl, rfl, by decide +kernel, rfl, by decide +kernel, by decide +kernel⟩
abbrev s_lots : Stmt := top 9
theorem sc_lots : FnScope ["many", "some", "found", "place"] ["many", "some"] (defScope s_lots) := ⟨rfl, rfl, rfl, by decide +kernel, rfl, by decide +kernel, by decide +kernel⟩
abbrev s_chance : Stmt := top 10
theorem sc_chance : FnScope ["many", "sides", "left", "ways", "side"] ["many", "sides", "left"] (defScope s_chance) := ⟨rfl, rfl, rfl, by decide +kernel, rfl, by decide +kernel, by decide +kernel⟩
abbrev s_chances : Stmt := top 11
theorem sc_chances : FnScope ["many", "sides", "count", "left"] ["many", "sides"] (defScope s_chances) := ⟨rfl, rfl, rfl, by decide +kernel, rfl, by decide +kernel, by decide +kernel⟩
abbrev s_mean_rounds : Stmt := top 12
theorem sc_mean_rounds : FnScope ["many", "sides", "table", "means", "count", "total", "left", "going"] ["many", "sides"] (defScope s_mean_rounds) := ⟨rfl, rfl, rfl, by decide +kernel, rfl, by decide +kernel, by decide +kernel⟩
abbrev s_law_hand : Stmt := top 14
theorem sc_law_hand : FnScope ["_law_script", "_law_k", "_law_cell"] ["_law_script", "_law_k"] (defScope s_law_hand) := ⟨rfl, rfl, rfl, by decide +kernel, rfl, by decide +kernel, by decide +kernel⟩
abbrev s_law_take : Stmt := top 15
theorem sc_law_take : FnScope ["_law_hand_here", "_law_many", "_law_turn", "_law_mixed", "_law_digit"] ["_law_hand_here", "_law_many"] (defScope s_law_take) := ⟨rfl, rfl, rfl, by decide +kernel, rfl, by decide +kernel, by decide +kernel⟩
abbrev s_law_of : Stmt := top 16
theorem sc_law_of : FnScope ["_law_hand_here", "_law_some"] ["_law_hand_here", "_law_some"] (defScope s_law_of) := ⟨rfl, rfl, rfl, by decide +kernel, rfl, by decide +kernel, by decide +kernel⟩
abbrev s_law_same : Stmt := top 17
theorem sc_law_same : FnScope ["_law_found", "_law_due", "_law_one", "_law_other"] ["_law_found", "_law_due"] (defScope s_law_same) := ⟨rfl, rfl, rfl, by decide +kernel, rfl, by decide +kernel, by decide +kernel⟩
abbrev s_law_low : Stmt := top 18
theorem sc_law_low : FnScope ["_law_top", "_law_bottom", "_law_one", "_law_other"] ["_law_top", "_law_bottom"] (defScope s_law_low) := ⟨rfl, rfl, rfl, by decide +kernel, rfl, by decide +kernel, by decide +kernel⟩
abbrev s_law_plus : Stmt := top 19
theorem sc_law_plus : FnScope ["_law_one", "_law_other"] ["_law_one", "_law_other"] (defScope s_law_plus) := ⟨rfl, rfl, rfl, by decide +kernel, rfl, by decide +kernel, by decide +kernel⟩
abbrev s_law_times : Stmt := top 20
theorem sc_law_times : FnScope ["_law_one", "_law_other"] ["_law_one", "_law_other"] (defScope s_law_times) := ⟨rfl, rfl, rfl, by decide +kernel, rfl, by decide +kernel, by decide +kernel⟩
abbrev s_law_power : Stmt := top 21
theorem sc_law_power : FnScope ["_law_number", "_law_times_here", "_law_found", "_law_turn"] ["_law_number", "_law_times_here"] (defScope s_law_power) := ⟨rfl, rfl, rfl, by decide +kernel, rfl, by decide +kernel, by decide +kernel⟩
abbrev s_law_odds : Stmt := top 22
theorem sc_law_odds : FnScope ["_law_many", "_law_sides", "_law_seen", "_law_house", "_law_found", "_law_greatest", "_law_often", "_law_later", "_law_ways", "_law_side"] ["_law_many", "_law_sides"] (defScope s_law_odds) := ⟨rfl, rfl, rfl, by decide +kernel, rfl, by decide +kernel, by decide +kernel⟩
abbrev s_law_means : Stmt := top 23
theorem sc_law_means : FnScope ["_law_many", "_law_sides", "_law_means_here", "_law_count", "_law_odds_here", "_law_whole", "_law_total", "_law_left"] ["_law_many", "_law_sides"] (defScope s_law_means) := ⟨rfl, rfl, rfl, by decide +kernel, rfl, by decide +kernel, by decide +kernel⟩
abbrev s_law : Stmt := top 24
theorem sc_law : FnScope ["_law_script", "_law_k", "_law_hand_here", "_law_many", "_law_sides", "_law_means_here", "_law_count"] ["_law_script"] (defScope s_law) := ⟨rfl, rfl, rfl, by decide +kernel, rfl, by decide +kernel, by decide +kernel⟩
structure Txt (K : PySem.W.Frag) (mg : Str → Option Value) where
  f_common : Fd K mg "common" "common" s_common ["one", "other"]
  f_fraction : Fd K mg "fraction" "fraction" s_fraction ["number", "parts"]
  f_added : Fd K mg "added" "added" s_added ["one", "other"]
  f_multiplied : Fd K mg "multiplied" "multiplied" s_multiplied ["one", "other"]
  f_power : Fd K mg "power" "power" s_power ["number", "times"]
  f_lots : Fd K mg "lots" "lots" s_lots ["many", "some"]
  f_chance : Fd K mg "chance" "chance" s_chance ["many", "sides", "left"]
  f_chances : Fd K mg "chances" "chances" s_chances ["many", "sides"]
  f_mean_rounds : Fd K mg "mean_rounds" "mean_rounds" s_mean_rounds ["many", "sides"]
  f_law_hand : Fd K mg "_law_hand" "_law_hand" s_law_hand ["_law_script", "_law_k"]
  f_law_take : Fd K mg "_law_take" "_law_take" s_law_take ["_law_hand_here", "_law_many"]
  f_law_of : Fd K mg "_law_of" "_law_of" s_law_of ["_law_hand_here", "_law_some"]
  f_law_same : Fd K mg "_law_same" "_law_same" s_law_same ["_law_found", "_law_due"]
  f_law_low : Fd K mg "_law_low" "_law_low" s_law_low ["_law_top", "_law_bottom"]
  f_law_plus : Fd K mg "_law_plus" "_law_plus" s_law_plus ["_law_one", "_law_other"]
  f_law_times : Fd K mg "_law_times" "_law_times" s_law_times ["_law_one", "_law_other"]
  f_law_power : Fd K mg "_law_power" "_law_power" s_law_power ["_law_number", "_law_times_here"]
  f_law_odds : Fd K mg "_law_odds" "_law_odds" s_law_odds ["_law_many", "_law_sides"]
  f_law_means : Fd K mg "_law_means" "_law_means" s_law_means ["_law_many", "_law_sides"]
  f_law : Fd K mg "law" "law" s_law ["_law_script"]
  b_abs : mg "abs" = none
  b_all : mg "all" = none
  b_bool : mg "bool" = none
  b_int : mg "int" = none
  b_isinstance : mg "isinstance" = none
  b_len : mg "len" = none
  b_max : mg "max" = none
  b_min : mg "min" = none
  b_range : mg "range" = none
  b_sum : mg "sum" = none
  b_tuple : mg "tuple" = none
  b_zip : mg "zip" = none
  g_ALL : Gc K mg "ALL" k_ALL
  g_NOUGHT : Gc K mg "NOUGHT" k_NOUGHT
section
variable {P : Program} {w : World} {K : PySem.W.Frag} {mg : Str → Option Value} {base : Heap}
theorem ok_common (T : Txt K mg) : FnOk P w K mg base CX0 1 T.f_common.a T.f_common.fd ["one", "other"] (liftSp K c_common) :=
  fnM (k := 0) (N := ["one", "other"]) (m := m_common) T.f_common.F sc_common len_common (fun cdv A outer s H E hr =>
 (iss_cons (is_while PassesOwn.never (it_cmp (om_ne hr.units) (ie_var 1) ie_int (nomark _))
 (iss_one (is_par 0 1 rfl sc_common.nd (ie_var 1) (ie_op om_modN (ie_var 0) (ie_var 1)))))
 (iss_one (is_ret (ie_callB cm_abs (by rfl) T.b_abs PyProof.Rows.boot_abs (ia_cons (ie_var 0) ia_nil))))))
  p_common
theorem ok_fraction (T : Txt K mg) : FnOk P w K mg base CX0 2 T.f_fraction.a T.f_fraction.fd ["number", "parts"] (liftSp K c_fraction) :=
  fnM (k := 1) (N := ["number", "parts", "by"]) (m := m_fraction) T.f_fraction.F sc_fraction len_fraction (fun cdv A outer s H E hr =>
 (iss_cons (is_set 2 sc_fraction.nd (ie_call (ok_common T) (hr.mono (by omega)) T.f_common.m T.f_common.F.kp T.f_common.b (ia_cons (ie_var 0) (ia_cons (ie_var 1) ia_nil))))
 (iss_cons (is_if (it_cmp om_ltI (ie_var 1) ie_int (nomark _))
 (iss_one (is_set 2 sc_fraction.nd (ie_un um_neg (ie_var 2))))
 iss_nil)
 (iss_one (is_ret (ie_tup (ia_cons (ie_op om_fdivN (ie_var 0) (ie_var 2)) (ia_cons (ie_op om_fdivN (ie_var 1) (ie_var 2)) ia_nil))))))))
  p_fraction
theorem ok_added (T : Txt K mg) : FnOk P w K mg base CX0 3 T.f_added.a T.f_added.fd ["one", "other"] (liftSp K c_added) :=
  fnM (k := 2) (N := ["one", "other"]) (m := m_added) T.f_added.F sc_added len_added (fun cdv A outer s H E hr =>
 (iss_one (is_ret (ie_call (ok_fraction T) (hr.mono (by omega)) T.f_fraction.m T.f_fraction.F.kp T.f_fraction.b (ia_cons (ie_op om_add (ie_op om_mul (ie_ix ix_m (ie_var 0) ie_int (fun _ _ => rfl)) (ie_ix ix_m (ie_var 1) ie_int (fun _ _ => rfl))) (ie_op om_mul (ie_ix ix_m (ie_var 1) ie_int (fun _ _ => rfl)) (ie_ix ix_m (ie_var 0) ie_int (fun _ _ => rfl)))) (ia_cons (ie_op om_mul (ie_ix ix_m (ie_var 0) ie_int (fun _ _ => rfl)) (ie_ix ix_m (ie_var 1) ie_int (fun _ _ => rfl))) ia_nil))))))
  p_added
theorem ok_multiplied (T : Txt K mg) : FnOk P w K mg base CX0 3 T.f_multiplied.a T.f_multiplied.fd ["one", "other"] (liftSp K c_multiplied) :=
  fnM (k := 2) (N := ["one", "other"]) (m := m_multiplied) T.f_multiplied.F sc_multiplied len_multiplied (fun cdv A outer s H E hr =>
 (iss_one (is_ret (ie_call (ok_fraction T) (hr.mono (by omega)) T.f_fraction.m T.f_fraction.F.kp T.f_fraction.b (ia_cons (ie_op om_mul (ie_ix ix_m (ie_var 0) ie_int (fun _ _ => rfl)) (ie_ix ix_m (ie_var 1) ie_int (fun _ _ => rfl))) (ia_cons (ie_op om_mul (ie_ix ix_m (ie_var 0) ie_int (fun _ _ => rfl)) (ie_ix ix_m (ie_var 1) ie_int (fun _ _ => rfl))) ia_nil))))))
  p_multiplied
theorem ok_power (T : Txt K mg) : FnOk P w K mg base CX0 1 T.f_power.a T.f_power.fd ["number", "times"] (liftSp K c_power) :=
  fnM (k := 0) (N := ["number", "times", "found", "turn"]) (m := m_power) T.f_power.F sc_power len_power (fun cdv A outer s H E hr =>
 (iss_cons (is_set 2 sc_power.nd ie_int)
 (iss_cons (is_for PassesOwn.never rfl (ii_range1 T.b_range (ie_var 1)) (ig_name 3 sc_power.nd)
 (iss_one (is_set 2 sc_power.nd (ie_op om_mul (ie_var 2) (ie_var 0)))))
 (iss_one (is_ret (ie_var 2))))))
  p_power
theorem ok_lots (T : Txt K mg) : FnOk P w K mg base CX0 1 T.f_lots.a T.f_lots.fd ["many", "some"] (liftSp K c_lots) :=
  fnM (k := 0) (N := ["many", "some", "found", "place"]) (m := m_lots) T.f_lots.F sc_lots len_lots (fun cdv A outer s H E hr =>
 (iss_cons (is_set 2 sc_lots.nd ie_int)
 (iss_cons (is_for PassesOwn.never rfl (ii_range1 T.b_range (ie_var 1)) (ig_name 3 sc_lots.nd)
 (iss_one (is_set 2 sc_lots.nd (ie_op om_fdiv (ie_op om_mul (ie_var 2) (ie_op om_sub (ie_var 0) (ie_var 3))) (ie_op om_add (ie_var 3) ie_int)))))
 (iss_one (is_ret (ie_var 2))))))
  p_lots
theorem ok_chance (T : Txt K mg) : FnOk P w K mg base CX0 3 T.f_chance.a T.f_chance.fd ["many", "sides", "left"] (liftSp K c_chance) :=
  fnM (k := 2) (N := ["many", "sides", "left", "ways", "side"]) (m := m_chance) T.f_chance.F sc_chance len_chance (fun cdv A outer s H E hr =>
 (iss_cons (is_if (it_not (it_chain om_leI om_leI ie_int (ie_var 2) (ie_var 0)))
 (iss_one (is_ret (T.g_NOUGHT.ie)))
 iss_nil)
 (iss_cons (is_set 3 sc_chance.nd (ie_callB (cm_sum rfl) (by rfl) T.b_sum PyProof.Rows.boot_sum (ia_cons (ie_lc (own := [("side", 4)]) rfl sc_chance.nd rfl (ii_range1 T.b_range (ie_var 1)) (blkOk_by (show blkC ["many", "sides", "left", "ways", "side"] (defScope s_chance) _ _ = true from by decide +kernel)) (fun _ _ _ _ _ => (ig_name 4 sc_chance.nd)) (fun _ _ _ _ _ => its_nil) (fun _ _ _ _ _ => (ie_call (ok_power T) (hr.mono (by omega)) T.f_power.m T.f_power.F.kp T.f_power.b (ia_cons (ie_var 4) (ia_cons (ie_op om_sub (ie_var 0) (ie_var 2)) ia_nil))))) ia_nil)))
 (iss_one (is_ret (ie_call (ok_fraction T) (hr.mono (by omega)) T.f_fraction.m T.f_fraction.F.kp T.f_fraction.b (ia_cons (ie_op om_mul (ie_call (ok_lots T) (hr.mono (by omega)) T.f_lots.m T.f_lots.F.kp T.f_lots.b (ia_cons (ie_var 0) (ia_cons (ie_var 2) ia_nil))) (ie_var 3)) (ia_cons (ie_call (ok_power T) (hr.mono (by omega)) T.f_power.m T.f_power.F.kp T.f_power.b (ia_cons (ie_var 1) (ia_cons (ie_var 0) ia_nil))) ia_nil))))))))
  p_chance
theorem ok_chances (T : Txt K mg) : FnOk P w K mg base CX0 4 T.f_chances.a T.f_chances.fd ["many", "sides"] (liftSp K c_chances) :=
  fnM (k := 3) (N := ["many", "sides", "count", "left"]) (m := m_chances) T.f_chances.F sc_chances len_chances (fun cdv A outer s H E hr =>
 (iss_one (is_ret (ie_lc (own := [("count", 2)]) rfl sc_chances.nd rfl (ii_range1 T.b_range (ie_op om_add (ie_var 0) ie_int)) (blkOk_by (show blkC ["many", "sides", "count", "left"] (defScope s_chances) _ _ = true from by decide +kernel)) (fun _ _ _ _ _ => (ig_name 2 sc_chances.nd)) (fun _ _ _ _ _ => its_nil) (fun _ _ _ _ _ => (ie_lc (own := [("left", 3)]) rfl sc_chances.nd rfl (ii_range1 T.b_range (ie_op om_add (ie_var 2) ie_int)) (blkOk_by (by kernel_rfl)) (fun _ _ _ _ _ => (ig_name 3 sc_chances.nd)) (fun _ _ _ _ _ => its_nil) (fun _ _ _ _ _ => (ie_call (ok_chance T) (hr.mono (by omega)) T.f_chance.m T.f_chance.F.kp T.f_chance.b (ia_cons (ie_var 2) (ia_cons (ie_var 1) (ia_cons (ie_var 3) ia_nil)))))))))))
  p_chances
theorem ok_mean_rounds (T : Txt K mg) : FnOk P w K mg base CX0 5 T.f_mean_rounds.a T.f_mean_rounds.fd ["many", "sides"] (liftSp K c_mean_rounds) :=
  fnM (k := 4) (N := ["many", "sides", "table", "means", "count", "total", "left", "going"]) (m := m_mean_rounds) T.f_mean_rounds.F sc_mean_rounds len_mean_rounds (fun cdv A outer s H E hr =>
 (iss_cons (is_set 2 sc_mean_rounds.nd (ie_call (ok_chances T) (hr.mono (by omega)) T.f_chances.m T.f_chances.F.kp T.f_chances.b (ia_cons (ie_var 0) (ia_cons (ie_var 1) ia_nil))))
 (iss_cons (is_set 3 sc_mean_rounds.nd (ie_lst (ia_cons (T.g_NOUGHT.ie) (ia_cons (T.g_NOUGHT.ie) ia_nil))))
 (iss_cons (is_for PassesOwn.never rfl (ii_range2 T.b_range ie_int (ie_op om_add (ie_var 0) ie_int)) (ig_name 4 sc_mean_rounds.nd)
 (iss_cons (is_set 5 sc_mean_rounds.nd (T.g_ALL.ie))
 (iss_cons (is_for PassesOwn.never rfl (ii_range2 T.b_range ie_int (ie_var 4)) (ig_name 6 sc_mean_rounds.nd)
 (iss_one (is_set 5 sc_mean_rounds.nd (ie_call (ok_added T) (hr.mono (by omega)) T.f_added.m T.f_added.F.kp T.f_added.b (ia_cons (ie_var 5) (ia_cons (ie_call (ok_multiplied T) (hr.mono (by omega)) T.f_multiplied.m T.f_multiplied.F.kp T.f_multiplied.b (ia_cons (ie_ix ix_m (ie_ix ix_m (ie_var 2) (ie_var 4) (fun _ _ => rfl)) (ie_var 6) (fun _ _ => rfl)) (ia_cons (ie_ix ix_m (ie_var 3) (ie_var 6) (fun _ _ => rfl)) ia_nil))) ia_nil))))))
 (iss_cons (is_set 7 sc_mean_rounds.nd (ie_call (ok_added T) (hr.mono (by omega)) T.f_added.m T.f_added.F.kp T.f_added.b (ia_cons (T.g_ALL.ie) (ia_cons (ie_call (ok_multiplied T) (hr.mono (by omega)) T.f_multiplied.m T.f_multiplied.F.kp T.f_multiplied.b (ia_cons (ie_tup (ia_cons (ie_un um_neg ie_int) (ia_cons ie_int ia_nil))) (ia_cons (ie_ix ix_m (ie_ix ix_m (ie_var 2) (ie_var 4) (fun _ _ => rfl)) (ie_var 4) (fun _ _ => rfl)) ia_nil))) ia_nil))))
 (iss_one (is_expr (ie_bm PySem.F.plainAttrs_list PySem.F.slot_list_append PySem.F.type_list_append mi_append (ie_var 3) (ia_cons (ie_call (ok_fraction T) (hr.mono (by omega)) T.f_fraction.m T.f_fraction.F.kp T.f_fraction.b (ia_cons (ie_op om_mul (ie_ix ix_m (ie_var 5) ie_int (fun _ _ => rfl)) (ie_ix ix_m (ie_var 7) ie_int (fun _ _ => rfl))) (ia_cons (ie_op om_mul (ie_ix ix_m (ie_var 5) ie_int (fun _ _ => rfl)) (ie_ix ix_m (ie_var 7) ie_int (fun _ _ => rfl))) ia_nil))) ia_nil))))))))
 (iss_one (is_ret (ie_ix ix_m (ie_var 3) (ie_var 0) (fun _ _ => rfl))))))))
  p_mean_rounds
theorem ok_law_hand (T : Txt K mg) : FnOk P w K mg base CX0 1 T.f_law_hand.a T.f_law_hand.fd ["_law_script", "_law_k"] (liftSp K c_law_hand) :=
  fnM (k := 0) (N := ["_law_script", "_law_k", "_law_cell"]) (m := m_law_hand) T.f_law_hand.F sc_law_hand len_law_hand (fun cdv A outer s H E hr =>
 (iss_cons (is_set 2 sc_law_hand.nd ie_int)
 (iss_cons (is_if (it_cmp om_ltI (ie_var 1) (ie_callB cm_len (by rfl) T.b_len PySem.boot_len (ia_cons (ie_var 0) ia_nil)) (nomark _))
 (iss_one (is_set 2 sc_law_hand.nd (ie_callB cm_abs (by rfl) T.b_abs PyProof.Rows.boot_abs (ia_cons (ie_ix ix_m (ie_var 0) (ie_var 1) (fun _ _ => rfl)) ia_nil))))
 iss_nil)
 (iss_one (is_ret (ie_lst (ia_cons (ie_op om_mul (ie_var 2) (ie_callTy cm_int (by rfl) T.b_int PyProof.Rows.boot_int (ia_cons (ie_cmp om_geI (ie_var 2) (ie_op om_pow ie_int ie_int) (nomark _)) ia_nil))) (ia_cons (ie_op om_add (ie_op om_add (ie_op om_mod (ie_var 2) ie_int) (ie_op om_mul ie_int (ie_var 1))) ie_int) (ia_cons ie_int ia_nil)))))))))
  p_law_hand
theorem ok_law_take (T : Txt K mg) : FnOk P w K mg base CX0 1 T.f_law_take.a T.f_law_take.fd ["_law_hand_here", "_law_many"] (liftSp K c_law_take) :=
  fnM (k := 0) (N := ["_law_hand_here", "_law_many", "_law_turn", "_law_mixed", "_law_digit"]) (m := m_law_take) T.f_law_take.F sc_law_take len_law_take (fun cdv A outer s H E hr =>
 (iss_cons (is_if (it_cmp om_gtI (ie_ix ix_m (ie_var 0) ie_int (fun _ _ => rfl)) ie_int (nomark _))
 (iss_cons (is_set 4 sc_law_take.nd (ie_op om_mod (ie_ix ix_m (ie_var 0) ie_int (fun _ _ => rfl)) (ie_var 1)))
 (iss_cons (is_put se_list (ie_op om_fdiv (ie_ix ix_m (ie_var 0) ie_int (fun _ _ => rfl)) (ie_var 1)) (ie_var 0) ie_int)
 (iss_one (is_ret (ie_var 4)))))
 iss_nil)
 (iss_cons (is_put se_list (ie_op om_add (ie_ix ix_m (ie_var 0) ie_int (fun _ _ => rfl)) ie_int) (ie_var 0) ie_int)
 (iss_cons (is_set 2 sc_law_take.nd (ie_ix ix_m (ie_var 0) ie_int (fun _ _ => rfl)))
 (iss_cons (is_set 3 sc_law_take.nd (ie_op om_mod (ie_op om_mul (ie_op om_add (ie_ix ix_m (ie_var 0) ie_int (fun _ _ => rfl)) (ie_op om_mul ie_int (ie_var 2))) (ie_op om_add ie_int (ie_op om_mul (ie_var 2) (ie_var 2)))) ie_int))
 (iss_cons (is_put se_list (ie_op om_mod (ie_op om_mul (ie_var 3) (ie_op om_add (ie_op om_mod (ie_var 3) ie_int) ie_int)) ie_int) (ie_var 0) ie_int)
 (iss_one (is_ret (ie_op om_mod (ie_op om_fdiv (ie_ix ix_m (ie_var 0) ie_int (fun _ _ => rfl)) ie_int) (ie_var 1))))))))))
  p_law_take
theorem ok_law_of (T : Txt K mg) : FnOk P w K mg base CX0 2 T.f_law_of.a T.f_law_of.fd ["_law_hand_here", "_law_some"] (liftSp K c_law_of) :=
  fnM (k := 1) (N := ["_law_hand_here", "_law_some"]) (m := m_law_of) T.f_law_of.F sc_law_of len_law_of (fun cdv A outer s H E hr =>
 (iss_one (is_ret (ie_ix ix_m (ie_var 1) (ie_call (ok_law_take T) (hr.mono (by omega)) T.f_law_take.m T.f_law_take.F.kp T.f_law_take.b (ia_cons (ie_var 0) (ia_cons (ie_callB cm_len (by rfl) T.b_len PySem.boot_len (ia_cons (ie_var 1) ia_nil)) ia_nil))) (fun _ _ => rfl)))))
  p_law_of
theorem ok_law_same (T : Txt K mg) : ∀ n : Nat, FnOk P w K mg base CX0 (1 + n) T.f_law_same.a T.f_law_same.fd ["_law_found", "_law_due"] (liftSp K (c_law_same n))
  | 0 => fnNone fun _ _ _ _ q => q
  | n + 1 => fnM (k := 1 + n) (N := ["_law_found", "_law_due", "_law_one", "_law_other"]) (m := m_law_same n) T.f_law_same.F sc_law_same (len_law_same (n + 1)) (fun cdv A outer s H E hr =>
 (iss_cons (is_if (it_val (ie_isi T.b_isinstance T.b_tuple (ie_var 1) bt_tuple kt_tuple))
 (iss_one (is_ret (ie_and (ie_isi T.b_isinstance T.b_tuple (ie_var 0) bt_tuple kt_tuple) (ie_and (ie_cmp (om_eq hr.units) (ie_callB cm_len (by rfl) T.b_len PySem.boot_len (ia_cons (ie_var 0) ia_nil)) (ie_callB cm_len (by rfl) T.b_len PySem.boot_len (ia_cons (ie_var 1) ia_nil)) (nomark _)) (ie_one (ie_callB (cm_all rfl) (by rfl) T.b_all PyProof.Rows.boot_all (ia_cons (ie_lc (own := [("_law_one", 2), ("_law_other", 3)]) rfl sc_law_same.nd rfl (ii_zip T.b_zip (ie_var 0) (ie_var 1)) (blkOk_by (show blkC ["_law_found", "_law_due", "_law_one", "_law_other"] (defScope s_law_same) _ _ = true from by decide +kernel)) (fun _ _ _ _ _ => (ig_tup rfl (ig_cons (ig_name 2 sc_law_same.nd) (ig_cons (ig_name 3 sc_law_same.nd) ig_nil)))) (fun _ _ _ _ _ => its_nil) (fun _ _ _ _ _ => (ie_call (ok_law_same T n) (hr.mono (by omega)) T.f_law_same.m T.f_law_same.F.kp T.f_law_same.b (ia_cons (ie_var 2) (ia_cons (ie_var 3) ia_nil))))) ia_nil)))))))
 iss_nil)
 (iss_cons (is_if (it_cmp om_is (ie_var 1) ie_non (nomark _))
 (iss_one (is_ret (ie_cmp om_is (ie_var 0) ie_non (nomark _))))
 iss_nil)
 (iss_one (is_ret (ie_and (ie_isi T.b_isinstance T.b_int (ie_var 0) bt_int kt_int) (ie_and (ie_not (ie_isi T.b_isinstance T.b_bool (ie_var 0) bt_bool kt_bool)) (ie_one (ie_cmp (om_eq hr.units) (ie_var 0) (ie_var 1) (nomark _))))))))))
      (p_law_same n)
theorem ok_law_low (T : Txt K mg) : FnOk P w K mg base CX0 1 T.f_law_low.a T.f_law_low.fd ["_law_top", "_law_bottom"] (liftSp K c_law_low) :=
  fnM (k := 0) (N := ["_law_top", "_law_bottom", "_law_one", "_law_other"]) (m := m_law_low) T.f_law_low.F sc_law_low len_law_low (fun cdv A outer s H E hr =>
 (iss_cons (is_par 2 3 rfl sc_law_low.nd (ie_callB cm_abs (by rfl) T.b_abs PyProof.Rows.boot_abs (ia_cons (ie_var 0) ia_nil)) (ie_var 1))
 (iss_cons (is_while PassesOwn.never (it_cmp om_gtI (ie_var 3) ie_int (nomark _))
 (iss_one (is_par 2 3 rfl sc_law_low.nd (ie_var 3) (ie_op om_mod (ie_var 2) (ie_var 3)))))
 (iss_one (is_ret (ie_tup (ia_cons (ie_op om_fdiv (ie_var 0) (ie_var 2)) (ia_cons (ie_op om_fdiv (ie_var 1) (ie_var 2)) ia_nil))))))))
  p_law_low
theorem ok_law_plus (T : Txt K mg) : FnOk P w K mg base CX0 2 T.f_law_plus.a T.f_law_plus.fd ["_law_one", "_law_other"] (liftSp K c_law_plus) :=
  fnM (k := 1) (N := ["_law_one", "_law_other"]) (m := m_law_plus) T.f_law_plus.F sc_law_plus len_law_plus (fun cdv A outer s H E hr =>
 (iss_one (is_ret (ie_call (ok_law_low T) (hr.mono (by omega)) T.f_law_low.m T.f_law_low.F.kp T.f_law_low.b (ia_cons (ie_op om_add (ie_op om_mul (ie_ix ix_m (ie_var 0) ie_int (fun _ _ => rfl)) (ie_ix ix_m (ie_var 1) ie_int (fun _ _ => rfl))) (ie_op om_mul (ie_ix ix_m (ie_var 1) ie_int (fun _ _ => rfl)) (ie_ix ix_m (ie_var 0) ie_int (fun _ _ => rfl)))) (ia_cons (ie_op om_mul (ie_ix ix_m (ie_var 0) ie_int (fun _ _ => rfl)) (ie_ix ix_m (ie_var 1) ie_int (fun _ _ => rfl))) ia_nil))))))
  p_law_plus
theorem ok_law_times (T : Txt K mg) : FnOk P w K mg base CX0 2 T.f_law_times.a T.f_law_times.fd ["_law_one", "_law_other"] (liftSp K c_law_times) :=
  fnM (k := 1) (N := ["_law_one", "_law_other"]) (m := m_law_times) T.f_law_times.F sc_law_times len_law_times (fun cdv A outer s H E hr =>
 (iss_one (is_ret (ie_call (ok_law_low T) (hr.mono (by omega)) T.f_law_low.m T.f_law_low.F.kp T.f_law_low.b (ia_cons (ie_op om_mul (ie_ix ix_m (ie_var 0) ie_int (fun _ _ => rfl)) (ie_ix ix_m (ie_var 1) ie_int (fun _ _ => rfl))) (ia_cons (ie_op om_mul (ie_ix ix_m (ie_var 0) ie_int (fun _ _ => rfl)) (ie_ix ix_m (ie_var 1) ie_int (fun _ _ => rfl))) ia_nil))))))
  p_law_times
theorem ok_law_power (T : Txt K mg) : FnOk P w K mg base CX0 1 T.f_law_power.a T.f_law_power.fd ["_law_number", "_law_times_here"] (liftSp K c_law_power) :=
  fnM (k := 0) (N := ["_law_number", "_law_times_here", "_law_found", "_law_turn"]) (m := m_law_power) T.f_law_power.F sc_law_power len_law_power (fun cdv A outer s H E hr =>
 (iss_cons (is_set 2 sc_law_power.nd ie_int)
 (iss_cons (is_for PassesOwn.never rfl (ii_range1 T.b_range (ie_var 1)) (ig_name 3 sc_law_power.nd)
 (iss_one (is_set 2 sc_law_power.nd (ie_op om_mul (ie_var 2) (ie_var 0)))))
 (iss_one (is_ret (ie_var 2))))))
  p_law_power
theorem ok_law_odds (T : Txt K mg) : FnOk P w K mg base CX0 1 T.f_law_odds.a T.f_law_odds.fd ["_law_many", "_law_sides"] (liftSp K c_law_odds) :=
  fnM (k := 0) (N := ["_law_many", "_law_sides", "_law_seen", "_law_house", "_law_found", "_law_greatest", "_law_often", "_law_later", "_law_ways", "_law_side"]) (m := m_law_odds) T.f_law_odds.F sc_law_odds len_law_odds (fun cdv A outer s H E hr =>
 (iss_cons (is_set 2 sc_law_odds.nd (ie_disp1T hr.units (ia_cons ie_int (ia_cons ie_int ia_nil)) ie_int))
 (iss_cons (is_for PassesOwn.never rfl (ii_range1 T.b_range (ie_var 0)) (ig_name 3 sc_law_odds.nd)
 (iss_cons (is_set 7 sc_law_odds.nd ie_disp0T)
 (iss_cons (is_lockT (n := 2) (is_for PassesOwn.never rfl (ii_keysF (ie_var 2)) (ig_tup rfl (ig_cons (ig_name 5 sc_law_odds.nd) (ig_cons (ig_name 6 sc_law_odds.nd) ig_nil)))
 (iss_cons (is_set 8 sc_law_odds.nd (ie_dgetT hr.units (ie_var 2) (ia_cons (ie_var 5) (ia_cons (ie_var 6) ia_nil)) (fun _ _ => rfl)))
 (iss_cons (is_dputT hr.units (ie_op om_add (ie_dget2T hr.units (ie_var 7) (ia_cons (ie_var 5) (ia_cons (ie_var 6) ia_nil)) ie_int ⟨rfl, rfl, rfl, rfl⟩) (ie_op om_mul (ie_var 8) (ie_callB (cm_max2 rfl) (by rfl) T.b_max PyProof.Rows.boot_max (ia_cons ie_int (ia_cons (ie_op om_sub (ie_var 5) ie_int) ia_nil))))) (ie_var 7) (ia_cons (ie_var 5) (ia_cons (ie_var 6) ia_nil)))
 (iss_cons (is_dputT hr.units (ie_op om_add (ie_dget2T hr.units (ie_var 7) (ia_cons (ie_var 5) (ia_cons (ie_op om_add (ie_var 6) ie_int) ia_nil)) ie_int ⟨rfl, rfl, rfl, rfl⟩) (ie_op om_mul (ie_var 8) (ie_callTy cm_int (by rfl) T.b_int PyProof.Rows.boot_int (ia_cons (ie_cmp om_gtI (ie_var 5) ie_int (nomark _)) ia_nil)))) (ie_var 7) (ia_cons (ie_var 5) (ia_cons (ie_op om_add (ie_var 6) ie_int) ia_nil)))
 (iss_one (is_for PassesOwn.never rfl (ii_range2 T.b_range (ie_op om_add (ie_var 5) ie_int) (ie_op om_add (ie_var 1) ie_int)) (ig_name 9 sc_law_odds.nd)
 (iss_one (is_dputT hr.units (ie_op om_add (ie_dget2T hr.units (ie_var 7) (ia_cons (ie_var 9) (ia_cons ie_int ia_nil)) ie_int ⟨rfl, rfl, rfl, rfl⟩) (ie_var 8)) (ie_var 7) (ia_cons (ie_var 9) (ia_cons ie_int ia_nil)))))))))))
 (iss_one (is_set 2 sc_law_odds.nd (ie_var 7))))))
 (iss_cons (is_set 4 sc_law_odds.nd (ie_op om_mul (ie_lst (ia_cons ie_int ia_nil)) (ie_op om_add (ie_var 0) ie_int)))
 (iss_cons (is_lockT (n := 2) (is_for PassesOwn.never rfl (ii_keysF (ie_var 2)) (ig_tup rfl (ig_cons (ig_name 5 sc_law_odds.nd) (ig_cons (ig_name 6 sc_law_odds.nd) ig_nil)))
 (iss_one (is_put se_list (ie_op om_add (ie_ix ix_m (ie_var 4) (ie_var 6) (fun _ _ => rfl)) (ie_dgetT hr.units (ie_var 2) (ia_cons (ie_var 5) (ia_cons (ie_var 6) ia_nil)) (fun _ _ => rfl))) (ie_var 4) (ie_var 6)))))
 (iss_one (is_ret (ie_var 4))))))))
  p_law_odds
theorem ok_law_means (T : Txt K mg) : FnOk P w K mg base CX0 3 T.f_law_means.a T.f_law_means.fd ["_law_many", "_law_sides"] (liftSp K c_law_means) :=
  fnM (k := 2) (N := ["_law_many", "_law_sides", "_law_means_here", "_law_count", "_law_odds_here", "_law_whole", "_law_total", "_law_left"]) (m := m_law_means) T.f_law_means.F sc_law_means len_law_means (fun cdv A outer s H E hr =>
 (iss_cons (is_set 2 sc_law_means.nd (ie_lst (ia_cons (ie_tup (ia_cons ie_int (ia_cons ie_int ia_nil))) (ia_cons (ie_tup (ia_cons ie_int (ia_cons ie_int ia_nil))) ia_nil))))
 (iss_cons (is_for PassesOwn.never rfl (ii_range2 T.b_range ie_int (ie_op om_add (ie_var 0) ie_int)) (ig_name 3 sc_law_means.nd)
 (iss_cons (is_par 4 5 rfl sc_law_means.nd (ie_call (ok_law_odds T) (hr.mono (by omega)) T.f_law_odds.m T.f_law_odds.F.kp T.f_law_odds.b (ia_cons (ie_var 3) (ia_cons (ie_var 1) ia_nil))) (ie_call (ok_law_power T) (hr.mono (by omega)) T.f_law_power.m T.f_law_power.F.kp T.f_law_power.b (ia_cons (ie_var 1) (ia_cons (ie_var 3) ia_nil))))
 (iss_cons (is_set 6 sc_law_means.nd (ie_tup (ia_cons (ie_var 5) (ia_cons ie_int ia_nil))))
 (iss_cons (is_for PassesOwn.never rfl (ii_range2 T.b_range ie_int (ie_var 3)) (ig_name 7 sc_law_means.nd)
 (iss_one (is_set 6 sc_law_means.nd (ie_call (ok_law_plus T) (hr.mono (by omega)) T.f_law_plus.m T.f_law_plus.F.kp T.f_law_plus.b (ia_cons (ie_var 6) (ia_cons (ie_call (ok_law_times T) (hr.mono (by omega)) T.f_law_times.m T.f_law_times.F.kp T.f_law_times.b (ia_cons (ie_tup (ia_cons (ie_ix ix_m (ie_var 4) (ie_var 7) (fun _ _ => rfl)) (ia_cons ie_int ia_nil))) (ia_cons (ie_ix ix_m (ie_var 2) (ie_var 7) (fun _ _ => rfl)) ia_nil))) ia_nil))))))
 (iss_one (is_expr (ie_bm PySem.F.plainAttrs_list PySem.F.slot_list_append PySem.F.type_list_append mi_append (ie_var 2) (ia_cons (ie_call (ok_law_low T) (hr.mono (by omega)) T.f_law_low.m T.f_law_low.F.kp T.f_law_low.b (ia_cons (ie_ix ix_m (ie_var 6) ie_int (fun _ _ => rfl)) (ia_cons (ie_op om_mul (ie_ix ix_m (ie_var 6) ie_int (fun _ _ => rfl)) (ie_op om_sub (ie_var 5) (ie_ix ix_m (ie_var 4) (ie_var 3) (fun _ _ => rfl)))) ia_nil))) ia_nil))))))))
 (iss_one (is_ret (ie_var 2))))))
  p_law_means
theorem ok_law (T : Txt K mg) : FnOk P w K mg base CX0 6 T.f_law.a T.f_law.fd ["_law_script"] (liftSp K c_law) :=
  fnM (k := 5) (N := ["_law_script", "_law_k", "_law_hand_here", "_law_many", "_law_sides", "_law_means_here", "_law_count"]) (m := m_law) T.f_law.F sc_law len_law (fun cdv A outer s H E hr =>
 (iss_cons (is_for PassesOwn.never rfl (ii_range1 T.b_range (ie_callB (cm_max2 rfl) (by rfl) T.b_max PyProof.Rows.boot_max (ia_cons ie_int (ia_cons (ie_callB (cm_min2 rfl) (by rfl) T.b_min PyProof.Rows.boot_min (ia_cons ie_int (ia_cons (ie_callB cm_len (by rfl) T.b_len PySem.boot_len (ia_cons (ie_var 0) ia_nil)) ia_nil))) ia_nil)))) (ig_name 1 sc_law.nd)
 (iss_cons (is_set 2 sc_law.nd (ie_call (ok_law_hand T) (hr.mono (by omega)) T.f_law_hand.m T.f_law_hand.F.kp T.f_law_hand.b (ia_cons (ie_var 0) (ia_cons (ie_var 1) ia_nil))))
 (iss_cons (is_set 3 sc_law.nd (ie_call (ok_law_of T) (hr.mono (by omega)) T.f_law_of.m T.f_law_of.F.kp T.f_law_of.b (ia_cons (ie_var 2) (ia_cons (ie_lst (ia_cons ie_int (ia_cons ie_int (ia_cons ie_int (ia_cons ie_int (ia_cons ie_int (ia_cons ie_int (ia_cons ie_int (ia_cons (ie_op om_add ie_int (ie_call (ok_law_take T) (hr.mono (by omega)) T.f_law_take.m T.f_law_take.F.kp T.f_law_take.b (ia_cons (ie_var 2) (ia_cons ie_int ia_nil)))) ia_nil))))))))) ia_nil))))
 (iss_cons (is_set 4 sc_law.nd (ie_op om_add ie_int (ie_call (ok_law_of T) (hr.mono (by omega)) T.f_law_of.m T.f_law_of.F.kp T.f_law_of.b (ia_cons (ie_var 2) (ia_cons (ie_lst (ia_cons ie_int (ia_cons ie_int (ia_cons ie_int (ia_cons ie_int (ia_cons (ie_call (ok_law_take T) (hr.mono (by omega)) T.f_law_take.m T.f_law_take.F.kp T.f_law_take.b (ia_cons (ie_var 2) (ia_cons (ie_ix ix_m (ie_lst (ia_cons ie_int (ia_cons ie_int ia_nil))) (ie_callTy cm_int (by rfl) T.b_int PyProof.Rows.boot_int (ia_cons (ie_cmp om_gtI (ie_var 3) ie_int (nomark _)) ia_nil)) (fun _ _ => rfl)) ia_nil))) ia_nil)))))) ia_nil)))))
 (iss_cons (is_set 5 sc_law.nd (ie_call (ok_law_means T) (hr.mono (by omega)) T.f_law_means.m T.f_law_means.F.kp T.f_law_means.b (ia_cons (ie_var 3) (ia_cons (ie_var 4) ia_nil))))
 (iss_one (is_for PassesOwn.never rfl (ii_iter (ie_lst (ia_cons (ie_var 3) (ia_cons (ie_op om_add ie_int (ie_call (ok_law_take T) (hr.mono (by omega)) T.f_law_take.m T.f_law_take.F.kp T.f_law_take.b (ia_cons (ie_var 2) (ia_cons (ie_var 3) ia_nil)))) (ia_cons ie_int ia_nil))))) (ig_name 6 sc_law.nd)
 (iss_one (is_if (it_not (it_val (ie_call (ok_law_same T 4) (hr.mono (by omega)) T.f_law_same.m T.f_law_same.F.kp T.f_law_same.b (ia_cons (ie_call (ok_mean_rounds T) (hr.mono (by omega)) T.f_mean_rounds.m T.f_mean_rounds.F.kp T.f_mean_rounds.b (ia_cons (ie_var 6) (ia_cons (ie_var 4) ia_nil))) (ia_cons (ie_ix ix_m (ie_var 5) (ie_var 6) (fun _ _ => rfl)) ia_nil)))))
 (iss_one (is_ret ie_bl))
 iss_nil)))))))))
 (iss_one (is_ret ie_bl))))
  p_law
end
theorem all_mk {l : PySem.W.OpenLaw} {w : World} {K : PySem.W.Frag} {h : Heap} {mg : Str → Option Value} {fa : Addr} (X : K.In h) (G : h.Ns mainGlobals mg) (hfa : mg "law" = some (.ref fa))
    {f1 : Addr} {od1 an1 : Option Addr} {sl1 : Array (Option Value)} {oc1 kV1 dc1 pm1 cd1 ct1 : Value} (a1 : PySem.W.nsIn K mainGlobals "common" = some (some (.ref f1))) (l1 : K.lookup f1 = some ⟨oc1, od1, .func (PySem.W.fnOf "common" "common" (defArgs s_common) (defBody s_common) (defScope s_common) .none kV1 dc1 pm1 an1 cd1 ct1), sl1⟩) (c1 : PySem.W.codeIn K cd1 "common" = true) (k1 : PySem.W.keepIn K (.ref f1) = true)
    {f2 : Addr} {od2 an2 : Option Addr} {sl2 : Array (Option Value)} {oc2 kV2 dc2 pm2 cd2 ct2 : Value} (a2 : PySem.W.nsIn K mainGlobals "fraction" = some (some (.ref f2))) (l2 : K.lookup f2 = some ⟨oc2, od2, .func (PySem.W.fnOf "fraction" "fraction" (defArgs s_fraction) (defBody s_fraction) (defScope s_fraction) .none kV2 dc2 pm2 an2 cd2 ct2), sl2⟩) (c2 : PySem.W.codeIn K cd2 "fraction" = true) (k2 : PySem.W.keepIn K (.ref f2) = true)
    {f3 : Addr} {od3 an3 : Option Addr} {sl3 : Array (Option Value)} {oc3 kV3 dc3 pm3 cd3 ct3 : Value} (a3 : PySem.W.nsIn K mainGlobals "added" = some (some (.ref f3))) (l3 : K.lookup f3 = some ⟨oc3, od3, .func (PySem.W.fnOf "added" "added" (defArgs s_added) (defBody s_added) (defScope s_added) .none kV3 dc3 pm3 an3 cd3 ct3), sl3⟩) (c3 : PySem.W.codeIn K cd3 "added" = true) (k3 : PySem.W.keepIn K (.ref f3) = true)
    {f4 : Addr} {od4 an4 : Option Addr} {sl4 : Array (Option Value)} {oc4 kV4 dc4 pm4 cd4 ct4 : Value} (a4 : PySem.W.nsIn K mainGlobals "multiplied" = some (some (.ref f4))) (l4 : K.lookup f4 = some ⟨oc4, od4, .func (PySem.W.fnOf "multiplied" "multiplied" (defArgs s_multiplied) (defBody s_multiplied) (defScope s_multiplied) .none kV4 dc4 pm4 an4 cd4 ct4), sl4⟩) (c4 : PySem.W.codeIn K cd4 "multiplied" = true) (k4 : PySem.W.keepIn K (.ref f4) = true)
    {f5 : Addr} {od5 an5 : Option Addr} {sl5 : Array (Option Value)} {oc5 kV5 dc5 pm5 cd5 ct5 : Value} (a5 : PySem.W.nsIn K mainGlobals "power" = some (some (.ref f5))) (l5 : K.lookup f5 = some ⟨oc5, od5, .func (PySem.W.fnOf "power" "power" (defArgs s_power) (defBody s_power) (defScope s_power) .none kV5 dc5 pm5 an5 cd5 ct5), sl5⟩) (c5 : PySem.W.codeIn K cd5 "power" = true) (k5 : PySem.W.keepIn K (.ref f5) = true)
    {f6 : Addr} {od6 an6 : Option Addr} {sl6 : Array (Option Value)} {oc6 kV6 dc6 pm6 cd6 ct6 : Value} (a6 : PySem.W.nsIn K mainGlobals "lots" = some (some (.ref f6))) (l6 : K.lookup f6 = some ⟨oc6, od6, .func (PySem.W.fnOf "lots" "lots" (defArgs s_lots) (defBody s_lots) (defScope s_lots) .none kV6 dc6 pm6 an6 cd6 ct6), sl6⟩) (c6 : PySem.W.codeIn K cd6 "lots" = true) (k6 : PySem.W.keepIn K (.ref f6) = true)
    {f7 : Addr} {od7 an7 : Option Addr} {sl7 : Array (Option Value)} {oc7 kV7 dc7 pm7 cd7 ct7 : Value} (a7 : PySem.W.nsIn K mainGlobals "chance" = some (some (.ref f7))) (l7 : K.lookup f7 = some ⟨oc7, od7, .func (PySem.W.fnOf "chance" "chance" (defArgs s_chance) (defBody s_chance) (defScope s_chance) .none kV7 dc7 pm7 an7 cd7 ct7), sl7⟩) (c7 : PySem.W.codeIn K cd7 "chance" = true) (k7 : PySem.W.keepIn K (.ref f7) = true)
    {f8 : Addr} {od8 an8 : Option Addr} {sl8 : Array (Option Value)} {oc8 kV8 dc8 pm8 cd8 ct8 : Value} (a8 : PySem.W.nsIn K mainGlobals "chances" = some (some (.ref f8))) (l8 : K.lookup f8 = some ⟨oc8, od8, .func (PySem.W.fnOf "chances" "chances" (defArgs s_chances) (defBody s_chances) (defScope s_chances) .none kV8 dc8 pm8 an8 cd8 ct8), sl8⟩) (c8 : PySem.W.codeIn K cd8 "chances" = true) (k8 : PySem.W.keepIn K (.ref f8) = true)
    {f9 : Addr} {od9 an9 : Option Addr} {sl9 : Array (Option Value)} {oc9 kV9 dc9 pm9 cd9 ct9 : Value} (a9 : PySem.W.nsIn K mainGlobals "mean_rounds" = some (some (.ref f9))) (l9 : K.lookup f9 = some ⟨oc9, od9, .func (PySem.W.fnOf "mean_rounds" "mean_rounds" (defArgs s_mean_rounds) (defBody s_mean_rounds) (defScope s_mean_rounds) .none kV9 dc9 pm9 an9 cd9 ct9), sl9⟩) (c9 : PySem.W.codeIn K cd9 "mean_rounds" = true) (k9 : PySem.W.keepIn K (.ref f9) = true)
    {f10 : Addr} {od10 an10 : Option Addr} {sl10 : Array (Option Value)} {oc10 kV10 dc10 pm10 cd10 ct10 : Value} (a10 : PySem.W.nsIn K mainGlobals "_law_hand" = some (some (.ref f10))) (l10 : K.lookup f10 = some ⟨oc10, od10, .func (PySem.W.fnOf "_law_hand" "_law_hand" (defArgs s_law_hand) (defBody s_law_hand) (defScope s_law_hand) .none kV10 dc10 pm10 an10 cd10 ct10), sl10⟩) (c10 : PySem.W.codeIn K cd10 "_law_hand" = true) (k10 : PySem.W.keepIn K (.ref f10) = true)
    {f11 : Addr} {od11 an11 : Option Addr} {sl11 : Array (Option Value)} {oc11 kV11 dc11 pm11 cd11 ct11 : Value} (a11 : PySem.W.nsIn K mainGlobals "_law_take" = some (some (.ref f11))) (l11 : K.lookup f11 = some ⟨oc11, od11, .func (PySem.W.fnOf "_law_take" "_law_take" (defArgs s_law_take) (defBody s_law_take) (defScope s_law_take) .none kV11 dc11 pm11 an11 cd11 ct11), sl11⟩) (c11 : PySem.W.codeIn K cd11 "_law_take" = true) (k11 : PySem.W.keepIn K (.ref f11) = true)
    {f12 : Addr} {od12 an12 : Option Addr} {sl12 : Array (Option Value)} {oc12 kV12 dc12 pm12 cd12 ct12 : Value} (a12 : PySem.W.nsIn K mainGlobals "_law_of" = some (some (.ref f12))) (l12 : K.lookup f12 = some ⟨oc12, od12, .func (PySem.W.fnOf "_law_of" "_law_of" (defArgs s_law_of) (defBody s_law_of) (defScope s_law_of) .none kV12 dc12 pm12 an12 cd12 ct12), sl12⟩) (c12 : PySem.W.codeIn K cd12 "_law_of" = true) (k12 : PySem.W.keepIn K (.ref f12) = true)
    {f13 : Addr} {od13 an13 : Option Addr} {sl13 : Array (Option Value)} {oc13 kV13 dc13 pm13 cd13 ct13 : Value} (a13 : PySem.W.nsIn K mainGlobals "_law_same" = some (some (.ref f13))) (l13 : K.lookup f13 = some ⟨oc13, od13, .func (PySem.W.fnOf "_law_same" "_law_same" (defArgs s_law_same) (defBody s_law_same) (defScope s_law_same) .none kV13 dc13 pm13 an13 cd13 ct13), sl13⟩) (c13 : PySem.W.codeIn K cd13 "_law_same" = true) (k13 : PySem.W.keepIn K (.ref f13) = true)
    {f14 : Addr} {od14 an14 : Option Addr} {sl14 : Array (Option Value)} {oc14 kV14 dc14 pm14 cd14 ct14 : Value} (a14 : PySem.W.nsIn K mainGlobals "_law_low" = some (some (.ref f14))) (l14 : K.lookup f14 = some ⟨oc14, od14, .func (PySem.W.fnOf "_law_low" "_law_low" (defArgs s_law_low) (defBody s_law_low) (defScope s_law_low) .none kV14 dc14 pm14 an14 cd14 ct14), sl14⟩) (c14 : PySem.W.codeIn K cd14 "_law_low" = true) (k14 : PySem.W.keepIn K (.ref f14) = true)
    {f15 : Addr} {od15 an15 : Option Addr} {sl15 : Array (Option Value)} {oc15 kV15 dc15 pm15 cd15 ct15 : Value} (a15 : PySem.W.nsIn K mainGlobals "_law_plus" = some (some (.ref f15))) (l15 : K.lookup f15 = some ⟨oc15, od15, .func (PySem.W.fnOf "_law_plus" "_law_plus" (defArgs s_law_plus) (defBody s_law_plus) (defScope s_law_plus) .none kV15 dc15 pm15 an15 cd15 ct15), sl15⟩) (c15 : PySem.W.codeIn K cd15 "_law_plus" = true) (k15 : PySem.W.keepIn K (.ref f15) = true)
    {f16 : Addr} {od16 an16 : Option Addr} {sl16 : Array (Option Value)} {oc16 kV16 dc16 pm16 cd16 ct16 : Value} (a16 : PySem.W.nsIn K mainGlobals "_law_times" = some (some (.ref f16))) (l16 : K.lookup f16 = some ⟨oc16, od16, .func (PySem.W.fnOf "_law_times" "_law_times" (defArgs s_law_times) (defBody s_law_times) (defScope s_law_times) .none kV16 dc16 pm16 an16 cd16 ct16), sl16⟩) (c16 : PySem.W.codeIn K cd16 "_law_times" = true) (k16 : PySem.W.keepIn K (.ref f16) = true)
    {f17 : Addr} {od17 an17 : Option Addr} {sl17 : Array (Option Value)} {oc17 kV17 dc17 pm17 cd17 ct17 : Value} (a17 : PySem.W.nsIn K mainGlobals "_law_power" = some (some (.ref f17))) (l17 : K.lookup f17 = some ⟨oc17, od17, .func (PySem.W.fnOf "_law_power" "_law_power" (defArgs s_law_power) (defBody s_law_power) (defScope s_law_power) .none kV17 dc17 pm17 an17 cd17 ct17), sl17⟩) (c17 : PySem.W.codeIn K cd17 "_law_power" = true) (k17 : PySem.W.keepIn K (.ref f17) = true)
    {f18 : Addr} {od18 an18 : Option Addr} {sl18 : Array (Option Value)} {oc18 kV18 dc18 pm18 cd18 ct18 : Value} (a18 : PySem.W.nsIn K mainGlobals "_law_odds" = some (some (.ref f18))) (l18 : K.lookup f18 = some ⟨oc18, od18, .func (PySem.W.fnOf "_law_odds" "_law_odds" (defArgs s_law_odds) (defBody s_law_odds) (defScope s_law_odds) .none kV18 dc18 pm18 an18 cd18 ct18), sl18⟩) (c18 : PySem.W.codeIn K cd18 "_law_odds" = true) (k18 : PySem.W.keepIn K (.ref f18) = true)
    {f19 : Addr} {od19 an19 : Option Addr} {sl19 : Array (Option Value)} {oc19 kV19 dc19 pm19 cd19 ct19 : Value} (a19 : PySem.W.nsIn K mainGlobals "_law_means" = some (some (.ref f19))) (l19 : K.lookup f19 = some ⟨oc19, od19, .func (PySem.W.fnOf "_law_means" "_law_means" (defArgs s_law_means) (defBody s_law_means) (defScope s_law_means) .none kV19 dc19 pm19 an19 cd19 ct19), sl19⟩) (c19 : PySem.W.codeIn K cd19 "_law_means" = true) (k19 : PySem.W.keepIn K (.ref f19) = true)
    {f20 : Addr} {od20 an20 : Option Addr} {sl20 : Array (Option Value)} {oc20 kV20 dc20 pm20 cd20 ct20 : Value} (a20 : PySem.W.nsIn K mainGlobals "law" = some (some (.ref f20))) (l20 : K.lookup f20 = some ⟨oc20, od20, .func (PySem.W.fnOf "law" "law" (defArgs s_law) (defBody s_law) (defScope s_law) .none kV20 dc20 pm20 an20 cd20 ct20), sl20⟩) (c20 : PySem.W.codeIn K cd20 "law" = true) (k20 : PySem.W.keepIn K (.ref f20) = true)
    (z1 : PySem.W.nsIn K mainGlobals "abs" = some none)
    (z2 : PySem.W.nsIn K mainGlobals "all" = some none)
    (z3 : PySem.W.nsIn K mainGlobals "bool" = some none)
    (z4 : PySem.W.nsIn K mainGlobals "int" = some none)
    (z5 : PySem.W.nsIn K mainGlobals "isinstance" = some none)
    (z6 : PySem.W.nsIn K mainGlobals "len" = some none)
    (z7 : PySem.W.nsIn K mainGlobals "max" = some none)
    (z8 : PySem.W.nsIn K mainGlobals "min" = some none)
    (z9 : PySem.W.nsIn K mainGlobals "range" = some none)
    (z10 : PySem.W.nsIn K mainGlobals "sum" = some none)
    (z11 : PySem.W.nsIn K mainGlobals "tuple" = some none)
    (z12 : PySem.W.nsIn K mainGlobals "zip" = some none)
    {T1 : Addr} {u1_0 u1_1 : Tok} {od_c1 : Option Addr} {n_c1 : Nat} {sl_c1 : Array (Option Value)} (y1 : PySem.W.nsIn K mainGlobals "ALL" = some (some (.ref T1))) (w1 : K.lookup T1 = some ⟨.type "tuple", od_c1, .seq #[.int (1) u1_0, .int (1) u1_1] n_c1, sl_c1⟩)
    {T2 : Addr} {u2_0 u2_1 : Tok} {od_c2 : Option Addr} {n_c2 : Nat} {sl_c2 : Array (Option Value)} (y2 : PySem.W.nsIn K mainGlobals "NOUGHT" = some (some (.ref T2))) (w2 : K.lookup T2 = some ⟨.type "tuple", od_c2, .seq #[.int (0) u2_0, .int (1) u2_1] n_c2, sl_c2⟩)
    : ∃ fd : FuncData, (∀ (s : Shared) (v : Value), BindsTo s fd ⟨[v], []⟩ [("_law_script", v)]) ∧ ∀ base : Heap, K.In base → base.Ns mainGlobals mg → FnOk l.prog w K mg base CX0 6 fa fd ["_law_script"] (liftSp K c_law) := by
  have e := hfa.symm.trans (PySem.W.mg_of X G a20)
  cases e
  have F1 := fun_mk (st := s_common) l1 c1 k1
  have b1 := F1.binds (ps := ["one", "other"]) fun _ _ _ _ _ _ us hl => match us, hl with | [_, _], _ => rfl
  have F2 := fun_mk (st := s_fraction) l2 c2 k2
  have b2 := F2.binds (ps := ["number", "parts"]) fun _ _ _ _ _ _ us hl => match us, hl with | [_, _], _ => rfl
  have F3 := fun_mk (st := s_added) l3 c3 k3
  have b3 := F3.binds (ps := ["one", "other"]) fun _ _ _ _ _ _ us hl => match us, hl with | [_, _], _ => rfl
  have F4 := fun_mk (st := s_multiplied) l4 c4 k4
  have b4 := F4.binds (ps := ["one", "other"]) fun _ _ _ _ _ _ us hl => match us, hl with | [_, _], _ => rfl
  have F5 := fun_mk (st := s_power) l5 c5 k5
  have b5 := F5.binds (ps := ["number", "times"]) fun _ _ _ _ _ _ us hl => match us, hl with | [_, _], _ => rfl
  have F6 := fun_mk (st := s_lots) l6 c6 k6
  have b6 := F6.binds (ps := ["many", "some"]) fun _ _ _ _ _ _ us hl => match us, hl with | [_, _], _ => rfl
  have F7 := fun_mk (st := s_chance) l7 c7 k7
  have b7 := F7.binds (ps := ["many", "sides", "left"]) fun _ _ _ _ _ _ us hl => match us, hl with | [_, _, _], _ => rfl
  have F8 := fun_mk (st := s_chances) l8 c8 k8
  have b8 := F8.binds (ps := ["many", "sides"]) fun _ _ _ _ _ _ us hl => match us, hl with | [_, _], _ => rfl
  have F9 := fun_mk (st := s_mean_rounds) l9 c9 k9
  have b9 := F9.binds (ps := ["many", "sides"]) fun _ _ _ _ _ _ us hl => match us, hl with | [_, _], _ => rfl
  have F10 := fun_mk (st := s_law_hand) l10 c10 k10
  have b10 := F10.binds (ps := ["_law_script", "_law_k"]) fun _ _ _ _ _ _ us hl => match us, hl with | [_, _], _ => rfl
  have F11 := fun_mk (st := s_law_take) l11 c11 k11
  have b11 := F11.binds (ps := ["_law_hand_here", "_law_many"]) fun _ _ _ _ _ _ us hl => match us, hl with | [_, _], _ => rfl
  have F12 := fun_mk (st := s_law_of) l12 c12 k12
  have b12 := F12.binds (ps := ["_law_hand_here", "_law_some"]) fun _ _ _ _ _ _ us hl => match us, hl with | [_, _], _ => rfl
  have F13 := fun_mk (st := s_law_same) l13 c13 k13
  have b13 := F13.binds (ps := ["_law_found", "_law_due"]) fun _ _ _ _ _ _ us hl => match us, hl with | [_, _], _ => rfl
  have F14 := fun_mk (st := s_law_low) l14 c14 k14
  have b14 := F14.binds (ps := ["_law_top", "_law_bottom"]) fun _ _ _ _ _ _ us hl => match us, hl with | [_, _], _ => rfl
  have F15 := fun_mk (st := s_law_plus) l15 c15 k15
  have b15 := F15.binds (ps := ["_law_one", "_law_other"]) fun _ _ _ _ _ _ us hl => match us, hl with | [_, _], _ => rfl
  have F16 := fun_mk (st := s_law_times) l16 c16 k16
  have b16 := F16.binds (ps := ["_law_one", "_law_other"]) fun _ _ _ _ _ _ us hl => match us, hl with | [_, _], _ => rfl
  have F17 := fun_mk (st := s_law_power) l17 c17 k17
  have b17 := F17.binds (ps := ["_law_number", "_law_times_here"]) fun _ _ _ _ _ _ us hl => match us, hl with | [_, _], _ => rfl
  have F18 := fun_mk (st := s_law_odds) l18 c18 k18
  have b18 := F18.binds (ps := ["_law_many", "_law_sides"]) fun _ _ _ _ _ _ us hl => match us, hl with | [_, _], _ => rfl
  have F19 := fun_mk (st := s_law_means) l19 c19 k19
  have b19 := F19.binds (ps := ["_law_many", "_law_sides"]) fun _ _ _ _ _ _ us hl => match us, hl with | [_, _], _ => rfl
  have F20 := fun_mk (st := s_law) l20 c20 k20
  have b20 := F20.binds (ps := ["_law_script"]) fun _ _ _ _ _ _ us hl => match us, hl with | [_], _ => rfl
  have T : Txt K mg := { f_common := ⟨_, _, F1, b1, PySem.W.mg_of X G a1⟩, f_fraction := ⟨_, _, F2, b2, PySem.W.mg_of X G a2⟩, f_added := ⟨_, _, F3, b3, PySem.W.mg_of X G a3⟩, f_multiplied := ⟨_, _, F4, b4, PySem.W.mg_of X G a4⟩, f_power := ⟨_, _, F5, b5, PySem.W.mg_of X G a5⟩, f_lots := ⟨_, _, F6, b6, PySem.W.mg_of X G a6⟩, f_chance := ⟨_, _, F7, b7, PySem.W.mg_of X G a7⟩, f_chances := ⟨_, _, F8, b8, PySem.W.mg_of X G a8⟩, f_mean_rounds := ⟨_, _, F9, b9, PySem.W.mg_of X G a9⟩, f_law_hand := ⟨_, _, F10, b10, PySem.W.mg_of X G a10⟩, f_law_take := ⟨_, _, F11, b11, PySem.W.mg_of X G a11⟩, f_law_of := ⟨_, _, F12, b12, PySem.W.mg_of X G a12⟩, f_law_same := ⟨_, _, F13, b13, PySem.W.mg_of X G a13⟩, f_law_low := ⟨_, _, F14, b14, PySem.W.mg_of X G a14⟩, f_law_plus := ⟨_, _, F15, b15, PySem.W.mg_of X G a15⟩, f_law_times := ⟨_, _, F16, b16, PySem.W.mg_of X G a16⟩, f_law_power := ⟨_, _, F17, b17, PySem.W.mg_of X G a17⟩, f_law_odds := ⟨_, _, F18, b18, PySem.W.mg_of X G a18⟩, f_law_means := ⟨_, _, F19, b19, PySem.W.mg_of X G a19⟩, f_law := ⟨_, _, F20, b20, PySem.W.mg_of X G a20⟩, b_abs := PySem.W.mg_none_of X G z1, b_all := PySem.W.mg_none_of X G z2, b_bool := PySem.W.mg_none_of X G z3, b_int := PySem.W.mg_none_of X G z4, b_isinstance := PySem.W.mg_none_of X G z5, b_len := PySem.W.mg_none_of X G z6, b_max := PySem.W.mg_none_of X G z7, b_min := PySem.W.mg_none_of X G z8, b_range := PySem.W.mg_none_of X G z9, b_sum := PySem.W.mg_none_of X G z10, b_tuple := PySem.W.mg_none_of X G z11, b_zip := PySem.W.mg_none_of X G z12, g_ALL := gcTup (vs := [.int (1), .int (1)]) (PySem.W.mg_of X G y1) w1 rfl rfl (by show 2 ≤ sizeLine; decide) (.cons ⟨_, rfl⟩ (.cons ⟨_, rfl⟩ (.nil))) (fun _ => .cons rv_int (.cons rv_int (rvs_nil))), g_NOUGHT := gcTup (vs := [.int (0), .int (1)]) (PySem.W.mg_of X G y2) w2 rfl rfl (by show 2 ≤ sizeLine; decide) (.cons ⟨_, rfl⟩ (.cons ⟨_, rfl⟩ (.nil))) (fun _ => .cons rv_int (.cons rv_int (rvs_nil))) }
  refine ⟨PySem.W.fnOf "law" "law" (defArgs s_law) (defBody s_law) (defScope s_law) .none kV20 dc20 pm20 an20 cd20 ct20, fun s v => .of_eq rfl, fun base _ _ => ?_⟩
  exact fnM (k := 5) (N := ["_law_script", "_law_k", "_law_hand_here", "_law_many", "_law_sides", "_law_means_here", "_law_count"]) (m := m_law) F20 sc_law len_law (fun cdv A outer s H E hr =>
 (iss_cons (is_for PassesOwn.never rfl (ii_range1 T.b_range (ie_callB (cm_max2 rfl) (by rfl) T.b_max PyProof.Rows.boot_max (ia_cons ie_int (ia_cons (ie_callB (cm_min2 rfl) (by rfl) T.b_min PyProof.Rows.boot_min (ia_cons ie_int (ia_cons (ie_callB cm_len (by rfl) T.b_len PySem.boot_len (ia_cons (ie_var 0) ia_nil)) ia_nil))) ia_nil)))) (ig_name 1 sc_law.nd)
 (iss_cons (is_set 2 sc_law.nd (ie_call (ok_law_hand T) (hr.mono (by omega)) T.f_law_hand.m T.f_law_hand.F.kp T.f_law_hand.b (ia_cons (ie_var 0) (ia_cons (ie_var 1) ia_nil))))
 (iss_cons (is_set 3 sc_law.nd (ie_call (ok_law_of T) (hr.mono (by omega)) T.f_law_of.m T.f_law_of.F.kp T.f_law_of.b (ia_cons (ie_var 2) (ia_cons (ie_lst (ia_cons ie_int (ia_cons ie_int (ia_cons ie_int (ia_cons ie_int (ia_cons ie_int (ia_cons ie_int (ia_cons ie_int (ia_cons (ie_op om_add ie_int (ie_call (ok_law_take T) (hr.mono (by omega)) T.f_law_take.m T.f_law_take.F.kp T.f_law_take.b (ia_cons (ie_var 2) (ia_cons ie_int ia_nil)))) ia_nil))))))))) ia_nil))))
 (iss_cons (is_set 4 sc_law.nd (ie_op om_add ie_int (ie_call (ok_law_of T) (hr.mono (by omega)) T.f_law_of.m T.f_law_of.F.kp T.f_law_of.b (ia_cons (ie_var 2) (ia_cons (ie_lst (ia_cons ie_int (ia_cons ie_int (ia_cons ie_int (ia_cons ie_int (ia_cons (ie_call (ok_law_take T) (hr.mono (by omega)) T.f_law_take.m T.f_law_take.F.kp T.f_law_take.b (ia_cons (ie_var 2) (ia_cons (ie_ix ix_m (ie_lst (ia_cons ie_int (ia_cons ie_int ia_nil))) (ie_callTy cm_int (by rfl) T.b_int PyProof.Rows.boot_int (ia_cons (ie_cmp om_gtI (ie_var 3) ie_int (nomark _)) ia_nil)) (fun _ _ => rfl)) ia_nil))) ia_nil)))))) ia_nil)))))
 (iss_cons (is_set 5 sc_law.nd (ie_call (ok_law_means T) (hr.mono (by omega)) T.f_law_means.m T.f_law_means.F.kp T.f_law_means.b (ia_cons (ie_var 3) (ia_cons (ie_var 4) ia_nil))))
 (iss_one (is_for PassesOwn.never rfl (ii_iter (ie_lst (ia_cons (ie_var 3) (ia_cons (ie_op om_add ie_int (ie_call (ok_law_take T) (hr.mono (by omega)) T.f_law_take.m T.f_law_take.F.kp T.f_law_take.b (ia_cons (ie_var 2) (ia_cons (ie_var 3) ia_nil)))) (ia_cons ie_int ia_nil))))) (ig_name 6 sc_law.nd)
 (iss_one (is_if (it_not (it_val (ie_call (ok_law_same T 4) (hr.mono (by omega)) T.f_law_same.m T.f_law_same.F.kp T.f_law_same.b (ia_cons (ie_call (ok_mean_rounds T) (hr.mono (by omega)) T.f_mean_rounds.m T.f_mean_rounds.F.kp T.f_mean_rounds.b (ia_cons (ie_var 6) (ia_cons (ie_var 4) ia_nil))) (ia_cons (ie_ix ix_m (ie_var 5) (ie_var 6) (fun _ _ => rfl)) ia_nil)))))
 (iss_one (is_ret ie_bl))
 iss_nil)))))))))
 (iss_one (is_ret ie_bl))))
    p_law
end Law
end M

open PySem PySem.W PyProof.Rows in
set_option maxRecDepth 100000 in
set_option maxHeartbeats 0 in
theorem PySem.Challenge.cw_ringchief_k80_means_of_rounds_holds : PySem.Challenge.rw_ringchief_k80_means_of_rounds.Holds := by
  w_on; o_law; k_head; (case hw => w_witness2)
  k_fill
  refine L2.walk_ofB (l := PySem.Challenge.rw_ringchief_k80_means_of_rounds) (n := 63) (k := 6) (x := "_law_script") (CX := fun _ => L2.CX0) (sp := fun w => M.liftSp _ M.Law.c_law) rfl (by decide) rfl ⟨rfl, by decide, by decide⟩ (fun w h Y => PySem.W.kIn_of Y) ?F (fun _ H a ns hl hb hO hS => M.start_law hl hb hO hS (M.Law.law_start ns hl hb)) (fun _ _ _ _ _ h => h)
  case F =>
    intro w mg fa h KX G hmg
    refine' M.Law.all_mk KX G hmg ?a1 ?l1 ?c1 ?k1 ?a2 ?l2 ?c2 ?k2 ?a3 ?l3 ?c3 ?k3 ?a4 ?l4 ?c4 ?k4 ?a5 ?l5 ?c5 ?k5 ?a6 ?l6 ?c6 ?k6 ?a7 ?l7 ?c7 ?k7 ?a8 ?l8 ?c8 ?k8 ?a9 ?l9 ?c9 ?k9 ?a10 ?l10 ?c10 ?k10 ?a11 ?l11 ?c11 ?k11 ?a12 ?l12 ?c12 ?k12 ?a13 ?l13 ?c13 ?k13 ?a14 ?l14 ?c14 ?k14 ?a15 ?l15 ?c15 ?k15 ?a16 ?l16 ?c16 ?k16 ?a17 ?l17 ?c17 ?k17 ?a18 ?l18 ?c18 ?k18 ?a19 ?l19 ?c19 ?k19 ?a20 ?l20 ?c20 ?k20 ?z1 ?z2 ?z3 ?z4 ?z5 ?z6 ?z7 ?z8 ?z9 ?z10 ?z11 ?z12 ?y1 ?w1 ?y2 ?w2
    (case a1 => k_is)
    (case l1 => k_is)
    (case c1 => k_is)
    (case k1 => k_is)
    (case a2 => k_is)
    (case l2 => k_is)
    (case c2 => k_is)
    (case k2 => k_is)
    (case a3 => k_is)
    (case l3 => k_is)
    (case c3 => k_is)
    (case k3 => k_is)
    (case a4 => k_is)
    (case l4 => k_is)
    (case c4 => k_is)
    (case k4 => k_is)
    (case a5 => k_is)
    (case l5 => k_is)
    (case c5 => k_is)
    (case k5 => k_is)
    (case a6 => k_is)
    (case l6 => k_is)
    (case c6 => k_is)
    (case k6 => k_is)
    (case a7 => k_is)
    (case l7 => k_is)
    (case c7 => k_is)
    (case k7 => k_is)
    (case a8 => k_is)
    (case l8 => k_is)
    (case c8 => k_is)
    (case k8 => k_is)
    (case a9 => k_is)
    (case l9 => k_is)
    (case c9 => k_is)
    (case k9 => k_is)
    (case a10 => k_is)
    (case l10 => k_is)
    (case c10 => k_is)
    (case k10 => k_is)
    (case a11 => k_is)
    (case l11 => k_is)
    (case c11 => k_is)
    (case k11 => k_is)
    (case a12 => k_is)
    (case l12 => k_is)
    (case c12 => k_is)
    (case k12 => k_is)
    (case a13 => k_is)
    (case l13 => k_is)
    (case c13 => k_is)
    (case k13 => k_is)
    (case a14 => k_is)
    (case l14 => k_is)
    (case c14 => k_is)
    (case k14 => k_is)
    (case a15 => k_is)
    (case l15 => k_is)
    (case c15 => k_is)
    (case k15 => k_is)
    (case a16 => k_is)
    (case l16 => k_is)
    (case c16 => k_is)
    (case k16 => k_is)
    (case a17 => k_is)
    (case l17 => k_is)
    (case c17 => k_is)
    (case k17 => k_is)
    (case a18 => k_is)
    (case l18 => k_is)
    (case c18 => k_is)
    (case k18 => k_is)
    (case a19 => k_is)
    (case l19 => k_is)
    (case c19 => k_is)
    (case k19 => k_is)
    (case a20 => k_is)
    (case l20 => k_is)
    (case c20 => k_is)
    (case k20 => k_is)
    (case z1 => k_is)
    (case z2 => k_is)
    (case z3 => k_is)
    (case z4 => k_is)
    (case z5 => k_is)
    (case z6 => k_is)
    (case z7 => k_is)
    (case z8 => k_is)
    (case z9 => k_is)
    (case z10 => k_is)
    (case z11 => k_is)
    (case z12 => k_is)
    (case y1 => k_is)
    (case w1 => k_is)
    (case y2 => k_is)
    (case w2 => k_is)
