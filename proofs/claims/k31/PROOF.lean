import PyProof.Rows.All
import Wide.All
import OpenK.AllK
import Wide.FinOn
import HandS.ForMost
import HandS.ExcIs
import HandS.ExcValue
import HandS.ForExc
import HandS.Wide
import HandS.Style
import HandS.Conv
import HandS.SortInts
import HandS.IsInst
import PyProof.ReprRoads
import HandS.WideBits
import HandS.Ends
import PyProof.ReprLen
import PyProof.FitsBits
import HandS.TupAny
import HandS.TupLe
import HandS.TryOnly
import HandS.Zip
import HandS.Text
import PyProof.StrOps2
import PyProof.Draws
import KE.GoesMore
import KE.GoesEnum
import HandS.SetFor
import HandS.Strs
import KE.IntTextLaws
import HandS.Dict
import HandS.More
import KE.SortData
import HandS.DictTup
import KE.KDictCopyH
import KE.KDictPairs
import KE.KDictSum
import HandS.ListItems
import PyProof.SumWalkG
import HandS.Deep
import HandS.TupSets
import HandS.Iter
import PyProof.ListStr
import HandS.SetKeys
import HandS.SortKw
import KE.SortKeyHeap
import HandS.Keys
import KE.BitLaws
import PySem.Challenge.RW_wholepoll_k31_tellings_that_stand
set_option Elab.async false
set_option linter.all false
set_option maxRecDepth 100000
set_option maxHeartbeats 4000000
namespace DL
open PySem L2
inductive Sh where
  | lst | tup | dK (ks : List Key) | dT (ks : List (List Key)) | ins (C dx : Addr) (ns : List Str)
  | ext (φ : Addr → Heap → Prop) | exc (n : Nat)
  | lk (od : Obj) (s : Sh)
def Sh.mk : Sh → Addr → List V → HO
  | .lst, _, vs => .lst vs
  | .tup, _, vs => .tup vs
  | .dK ks, _, vs => .dK (ks.zip vs)
  | .dT ks, _, vs => .dT (ks.zip vs)
  | .ins C dx ns, _, vs => .ins C dx (ns.zip vs)
  | .ext φ, a, _ => .ext (φ a)
  | .exc _, _, _ => .ext fun _ => False
  | .lk od s, a, vs => .frz od (s.mk a vs)
theorem Sh.mk_tup {s : Sh} {a : Addr} {vs ws : List V} (h : s.mk a vs = .tup ws) : s = .tup ∧ vs = ws := by
  cases s <;> first | (exact nomatch (show HO.lst _ = HO.tup _ from h)) | (exact nomatch (show HO.dK _ = HO.tup _ from h)) | (exact nomatch (show HO.dT _ = HO.tup _ from h)) | (exact nomatch (show HO.ins _ _ _ = HO.tup _ from h)) | (exact nomatch (show HO.ext _ = HO.tup _ from h)) | (exact nomatch (show HO.frz _ _ = HO.tup _ from h)) | (exact ⟨rfl, HO.tup.inj h⟩)
inductive T where
  | leaf (v : V)
  | node (o : Bool) (s : Sh) (k : List T)
  | pin (s : Sh) (vs : List V)
def Konst (K : PySem.W.Frag) (a : Addr) (vs : List V) : Sh → Prop
  | .lst => ∃ (o : Obj) (its : Array Value) (n : Nat), K.lookup a = some o ∧ o.cls = .type "list" ∧ o.dict = none ∧ o.data = .seq its n ∧ its.size ≤ sizeLine ∧ Vals vs its.toList
  | .tup => ∃ (o : Obj) (its : Array Value) (n : Nat), K.lookup a = some o ∧ o.cls = .type "tuple" ∧ o.data = .seq its n ∧ its.size ≤ sizeLine ∧ Vals vs its.toList
  | _ => False
def KzOk (vs : List V) : Prop := vs = [.int 0, .int 1] ∨ ∃ x r, vs = .str x :: r
structure ExcV (K : PySem.W.Frag) (D : Addr) : Prop where
  ex : ExcC K D
  kit : ∀ c : String, c ∈ ["int", "bool", "str", "list", "tuple", "dict"] → PySem.W.kitOne K (.ref D) (.type c) = some false
mutual
inductive OwnP (K : PySem.W.Frag) (F : Addr → Prop) (H : Hp) : V → T → List Addr → Prop
  | leaf (v : V) : OwnP K F H v (.leaf v) []
  | fz {a : Addr} {s : Sh} {vs : List V} {ts : List T} : F a → H a = some (s.mk a vs) → OwnL K F H vs ts [] → OwnP K F H (.ref a) (.node false s ts) []
  | pinF {a : Addr} {s : Sh} {vs : List V} : F a → Rd H a (s.mk a vs) → OwnP K F H (.ref a) (.pin s vs) []
  | pinK {a : Addr} {s : Sh} {vs : List V} : Konst K a vs s → OwnP K F H (.ref a) (.pin s vs) []
  | pinT {a : Addr} {vs : List V} : H a = some (.tup vs) → OwnP K F H (.ref a) (.pin .tup vs) []
  | tk {a : Addr} {vs : List V} {ts : List T} : H a = some (.tup vs) → OwnL K F H vs ts [] → OwnP K F H (.ref a) (.node false .tup ts) []
  | fx {a D : Addr} {n : Nat} : F a → H a = some (ExO (.ref D) a) → ExcV K D → OwnP K F H (.ref a) (.pin (.exc n) []) []
  | kz {a : Addr} {vs : List V} {ts : List T} : Konst K a vs .tup → KzOk vs → OwnL K F H vs ts [] → OwnP K F H (.ref a) (.node false .tup ts) []
  | own {a : Addr} {s : Sh} {vs : List V} {ts : List T} {fp : List Addr} : H a = some (s.mk a vs) → OwnL K F H vs ts fp → OwnP K F H (.ref a) (.node true s ts) (a :: fp)
inductive OwnL (K : PySem.W.Frag) (F : Addr → Prop) (H : Hp) : List V → List T → List Addr → Prop
  | nil : OwnL K F H [] [] []
  | cons {v : V} {t : T} {fp : List Addr} {vs : List V} {ts : List T} {fp' : List Addr} : OwnP K F H v t fp → OwnL K F H vs ts fp' → OwnL K F H (v :: vs) (t :: ts) (fp ++ fp')
end
mutual
def frz : T → T
  | .leaf v => .leaf v
  | .pin s vs => .pin s vs
  | .node _ s k => .node false s (frzL k)
def frzL : List T → List T
  | [] => []
  | t :: ts => frz t :: frzL ts
end
theorem frzL_map : ∀ ts : List T, frzL ts = ts.map frz
  | [] => by simp [frzL]
  | t :: ts => by simp [frzL, frzL_map ts]
mutual
theorem frz_frz : ∀ t : T, frz (frz t) = frz t
  | .leaf _ => by simp [frz]
  | .pin _ _ => by simp [frz]
  | .node _ s k => by simp [frz, frzL_frzL k]
theorem frzL_frzL : ∀ ts : List T, frzL (frzL ts) = frzL ts
  | [] => by simp [frzL]
  | t :: ts => by simp [frzL, frz_frz t, frzL_frzL ts]
end
section
variable {K : PySem.W.Frag} {F F' : Addr → Prop} {H H' : Hp}
theorem OwnL.length : ∀ {vs : List V} {ts : List T} {fp : List Addr}, OwnL K F H vs ts fp → vs.length = ts.length
  | _, _, _, .nil => rfl
  | _, _, _, .cons _ h => by simp [OwnL.length h]
mutual
theorem OwnP.mono (hF : ∀ a, F a → F' a) : ∀ (t : T) {v : V} {fp : List Addr}, OwnP K F H v t fp → (∀ a, (F a ∨ a ∈ fp) → ∀ o, H a = some o → H' a = some o) → (∀ a vs, H a = some (.tup vs) → H' a = some (.tup vs)) → OwnP K F' H' v t fp
  | .leaf _, _, _, h, _, _ => by
    cases h
    exact .leaf _
  | .pin _ _, _, _, h, hH, hT => by
    cases h with
    | pinF hf hr =>
      refine .pinF (hF _ hf) ?_
      rcases hr with hr | ⟨o, hr⟩
      · exact .inl (hH _ (.inl hf) _ hr)
      · exact .inr ⟨o, hH _ (.inl hf) _ hr⟩
    | pinK hc => exact .pinK hc
    | fx hf hr hv => exact .fx (hF _ hf) (hH _ (.inl hf) _ hr) hv
    | pinT hr => exact .pinT (hT _ _ hr)
  | .node o s ts, _, _, h, hH, hT => by
    cases h with
    | fz hf hr hk =>
      refine .fz (hF _ hf) (hH _ (.inl hf) _ hr) (OwnL.mono hF ts hk (fun a ha => hH a ?_) hT)
      rcases ha with ha | ha
      · exact .inl ha
      · cases ha
    | kz hc hz hk =>
      refine .kz hc hz (OwnL.mono hF ts hk (fun a ha => hH a ?_) hT)
      rcases ha with ha | ha
      · exact .inl ha
      · cases ha
    | tk hr hk =>
      refine .tk (hT _ _ hr) (OwnL.mono hF ts hk (fun a ha => hH a ?_) hT)
      rcases ha with ha | ha
      · exact .inl ha
      · cases ha
    | own ha hk =>
      refine .own (hH _ (.inr List.mem_cons_self) _ ha) (OwnL.mono hF ts hk (fun a ha => hH a ?_) hT)
      rcases ha with ha | ha
      · exact .inl ha
      · exact .inr (List.mem_cons_of_mem _ ha)
theorem OwnL.mono (hF : ∀ a, F a → F' a) : ∀ (ts : List T) {vs : List V} {fp : List Addr}, OwnL K F H vs ts fp → (∀ a, (F a ∨ a ∈ fp) → ∀ o, H a = some o → H' a = some o) → (∀ a vs, H a = some (.tup vs) → H' a = some (.tup vs)) → OwnL K F' H' vs ts fp
  | [], _, _, h, _, _ => by
    cases h
    exact .nil
  | t :: ts, _, _, h, hH, hT => by
    cases h with
    | cons h1 h2 =>
      exact .cons (OwnP.mono hF t h1 (fun a ha => hH a (ha.imp id (List.mem_append_left _))) hT) (OwnL.mono hF ts h2 (fun a ha => hH a (ha.imp id (List.mem_append_right _))) hT)
end
mutual
theorem OwnP.freeze (hF : ∀ a, F a → F' a) : ∀ (t : T) {v : V} {fp : List Addr}, OwnP K F H v t fp → (∀ a ∈ fp, F' a) → OwnP K F' H v (frz t) []
  | .leaf _, _, _, h, _ => by
    cases h
    exact .leaf _
  | .pin _ _, _, _, h, _ => by
    cases h with
    | pinF hf hr => exact .pinF (hF _ hf) hr
    | pinK hc => exact .pinK hc
    | fx hf hr hv => exact .fx (hF _ hf) hr hv
    | pinT hr => exact .pinT hr
  | .node o s ts, _, _, h, hp => by
    cases h with
    | fz hf hr hk => exact .fz (hF _ hf) hr (OwnL.freeze hF ts hk (fun _ z => nomatch z))
    | kz hc hz hk => exact .kz hc hz (OwnL.freeze hF ts hk (fun _ z => nomatch z))
    | tk hr hk => exact .tk hr (OwnL.freeze hF ts hk (fun _ z => nomatch z))
    | own ha hk => exact .fz (hp _ List.mem_cons_self) ha (OwnL.freeze hF ts hk fun a z => hp a (List.mem_cons_of_mem _ z))
theorem OwnL.freeze (hF : ∀ a, F a → F' a) : ∀ (ts : List T) {vs : List V} {fp : List Addr}, OwnL K F H vs ts fp → (∀ a ∈ fp, F' a) → OwnL K F' H vs (frzL ts) []
  | [], _, _, h, _ => by
    cases h
    exact .nil
  | t :: ts, _, _, h, hp => by
    cases h with
    | cons h1 h2 => exact .cons (fp := []) (OwnP.freeze hF t h1 fun a z => hp a (List.mem_append_left _ z)) (OwnL.freeze hF ts h2 fun a z => hp a (List.mem_append_right _ z))
end
mutual
theorem OwnP.nofp : ∀ (t : T) {v : V} {fp : List Addr}, OwnP K F H v t fp → frz t = t → fp = []
  | .leaf _, _, _, h, _ => by cases h; rfl
  | .pin _ _, _, _, h, _ => by cases h <;> rfl
  | .node o s ts, _, _, h, e => by
    cases h with
    | fz _ _ _ => rfl
    | kz _ _ _ => rfl
    | tk _ _ => rfl
    | own _ _ => simp [frz] at e
end
theorem OwnP.tracked : ∀ {t : T} {v : V} {fp : List Addr}, OwnP K F H v t fp → ∀ a ∈ fp, H a ≠ none := by
  intro t v fp h
  exact OwnP.rec (motive_1 := fun v t fp _ => ∀ a ∈ fp, H a ≠ none) (motive_2 := fun vs ts fp _ => ∀ a ∈ fp, H a ≠ none)
    (fun _ _ z => nomatch z) (fun _ _ _ _ _ z => nomatch z) (fun _ _ _ z => nomatch z) (fun _ _ z => nomatch z) (fun _ _ z => nomatch z) (fun _ _ _ _ z => nomatch z) (fun _ _ _ _ z => nomatch z) (fun _ _ _ _ _ z => nomatch z)
    (fun ha _ ih a z => by
      rcases List.mem_cons.mp z with e | z
      · rw [e, ha]; exact nofun
      · exact ih a z) (fun _ z => nomatch z)
    (fun _ _ ih1 ih2 a z => (List.mem_append.mp z).elim (ih1 a) (ih2 a)) h
theorem OwnL.tracked {ts : List T} {vs : List V} {fp : List Addr} (h : OwnL K F H vs ts fp) : ∀ a ∈ fp, H a ≠ none :=
  OwnL.rec (motive_1 := fun v t fp _ => ∀ a ∈ fp, H a ≠ none) (motive_2 := fun vs ts fp _ => ∀ a ∈ fp, H a ≠ none)
    (fun _ _ z => nomatch z) (fun _ _ _ _ _ z => nomatch z) (fun _ _ _ z => nomatch z) (fun _ _ z => nomatch z) (fun _ _ z => nomatch z) (fun _ _ _ _ z => nomatch z) (fun _ _ _ _ z => nomatch z) (fun _ _ _ _ _ z => nomatch z)
    (fun ha _ ih a z => by
      rcases List.mem_cons.mp z with e | z
      · rw [e, ha]; exact nofun
      · exact ih a z) (fun _ z => nomatch z)
    (fun _ _ ih1 ih2 a z => (List.mem_append.mp z).elim (ih1 a) (ih2 a)) h
abbrev Its := List (V × T)
def OwnZ (K : PySem.W.Frag) (F : Addr → Prop) (H : Hp) (zs : Its) (fp : List Addr) : Prop := OwnL K F H (zs.map (·.1)) (zs.map (·.2)) fp
theorem OwnZ.nil : OwnZ K F H [] [] := OwnL.nil
theorem ownL_leaves : ∀ vs : List V, OwnL K F H vs (vs.map .leaf) []
  | [] => .nil
  | v :: vs => .cons (fp := []) (.leaf v) (ownL_leaves vs)
theorem OwnZ.cons {v : V} {t : T} {zs : Its} {fp fp' : List Addr} (h1 : OwnP K F H v t fp) (h2 : OwnZ K F H zs fp') : OwnZ K F H ((v, t) :: zs) (fp ++ fp') := OwnL.cons h1 h2
theorem OwnZ.uncons {v : V} {t : T} {zs : Its} {fp : List Addr} (h : OwnZ K F H ((v, t) :: zs) fp) : ∃ f1 f2, fp = f1 ++ f2 ∧ OwnP K F H v t f1 ∧ OwnZ K F H zs f2 := by
  cases h with
  | cons h1 h2 => exact ⟨_, _, rfl, h1, h2⟩
theorem OwnZ.append : ∀ {zs ys : Its} {f1 f2 : List Addr}, OwnZ K F H zs f1 → OwnZ K F H ys f2 → OwnZ K F H (zs ++ ys) (f1 ++ f2)
  | [], _, _, _, h1, h2 => by
    cases h1
    exact h2
  | (v, t) :: zs, _, _, _, h1, h2 => by
    obtain ⟨a, b, rfl, p, q⟩ := h1.uncons
    rw [List.append_assoc]
    exact .cons p (OwnZ.append q h2)
theorem OwnZ.split : ∀ {zs ys : Its} {fp : List Addr}, OwnZ K F H (zs ++ ys) fp → ∃ f1 f2, fp = f1 ++ f2 ∧ OwnZ K F H zs f1 ∧ OwnZ K F H ys f2
  | [], _, _, h => ⟨[], _, rfl, .nil, h⟩
  | (v, t) :: zs, _, _, h => by
    obtain ⟨a, b, rfl, p, q⟩ := OwnZ.uncons (zs := zs ++ _) h
    obtain ⟨f1, f2, rfl, q1, q2⟩ := OwnZ.split q
    exact ⟨a ++ f1, f2, by rw [List.append_assoc], .cons p q1, q2⟩
theorem OwnZ.perm {zs ys : Its} (e : zs.Perm ys) : ∀ {fp : List Addr}, OwnZ K F H zs fp → ∃ fp', fp.Perm fp' ∧ OwnZ K F H ys fp' := by
  induction e with
  | nil => exact fun h => ⟨_, .refl _, h⟩
  | cons x _ ih =>
    intro fp h
    obtain ⟨a, b, rfl, p, q⟩ := h.uncons
    obtain ⟨b', e', q'⟩ := ih q
    exact ⟨a ++ b', List.Perm.append_left _ e', .cons p q'⟩
  | swap x y l =>
    intro fp h
    obtain ⟨a, b, rfl, p, q⟩ := h.uncons
    obtain ⟨c, d, rfl, p2, q2⟩ := OwnZ.uncons (v := x.1) (t := x.2) q
    refine ⟨c ++ (a ++ d), ?_, .cons p2 (.cons p q2)⟩
    rw [← List.append_assoc, ← List.append_assoc]
    exact List.Perm.append_right _ List.perm_append_comm
  | trans _ _ ih1 ih2 =>
    intro fp h
    obtain ⟨f1, e1, h1⟩ := ih1 h
    obtain ⟨f2, e2, h2⟩ := ih2 h1
    exact ⟨f2, e1.trans e2, h2⟩
theorem OwnZ.mono {zs : Its} {fp : List Addr} (hF : ∀ a, F a → F' a) (h : OwnZ K F H zs fp) (hH : ∀ a, (F a ∨ a ∈ fp) → ∀ o, H a = some o → H' a = some o) (hT : ∀ a vs, H a = some (.tup vs) → H' a = some (.tup vs)) : OwnZ K F' H' zs fp := OwnL.mono hF _ h hH hT
theorem OwnZ.tracked {zs : Its} {fp : List Addr} (h : OwnZ K F H zs fp) : ∀ a ∈ fp, H a ≠ none := OwnL.tracked h
theorem OwnL.zip {vs : List V} {ts : List T} {fp : List Addr} (h : OwnL K F H vs ts fp) : OwnZ K F H (vs.zip ts) fp := by
  have e := h.length
  unfold OwnZ
  rw [List.map_fst_zip (by omega), List.map_snd_zip (by omega)]
  exact h
theorem OwnL.unzip {vs : List V} {ts : List T} {fp : List Addr} (e : vs.length = ts.length) (h : OwnZ K F H (vs.zip ts) fp) : OwnL K F H vs ts fp := by
  unfold OwnZ at h
  rw [List.map_fst_zip (by omega), List.map_snd_zip (by omega)] at h
  exact h
end
abbrev Ev := List (Option T)
inductive EnvIs : St → Ev → Its → Prop
  | nil : EnvIs [] [] []
  | skip {x : Option V} {σ : St} {g : Ev} {zs : Its} : EnvIs σ g zs → EnvIs (x :: σ) (none :: g) zs
  | have {v : V} {t : T} {σ : St} {g : Ev} {zs : Its} : EnvIs σ g zs → EnvIs (some v :: σ) (some t :: g) ((v, t) :: zs)
theorem EnvIs.length : ∀ {σ : St} {g : Ev} {zs : Its}, EnvIs σ g zs → σ.length = g.length
  | _, _, _, .nil => rfl
  | _, _, _, .skip h => by simp [EnvIs.length h]
  | _, _, _, .have h => by simp [EnvIs.length h]
theorem EnvIs.take : ∀ {σ : St} {g : Ev} {zs : Its} {i : Nat} {t : T}, EnvIs σ g zs → g[i]? = some (some t) → ∃ v ys, σ[i]? = some (some v) ∧ zs.Perm ((v, t) :: ys) ∧ EnvIs σ (g.set i none) ys
  | _, _, _, i, _, .nil, e => by simp at e
  | _, _, _, 0, _, .skip h, e => by simp at e
  | _, _, _, 0, _, .have h, e => by
    simp at e
    subst e
    exact ⟨_, _, rfl, .refl _, .skip h⟩
  | _, _, _, i + 1, _, .skip h, e => by
    obtain ⟨v, ys, e1, p, q⟩ := EnvIs.take (i := i) h (by simpa using e)
    exact ⟨v, ys, by simpa using e1, p, .skip q⟩
  | _, _, _, i + 1, _, .have (v := w) (t := t0) h, e => by
    obtain ⟨v, ys, e1, p, q⟩ := EnvIs.take (i := i) h (by simpa using e)
    exact ⟨v, (w, t0) :: ys, by simpa using e1, (List.Perm.cons _ p).trans (List.Perm.swap _ _ _), .have q⟩
theorem EnvIs.drop : ∀ {σ : St} {g : Ev} {zs : Its} {i : Nat} (x : Option V), EnvIs σ g zs → ∃ ds ys, zs.Perm (ds ++ ys) ∧ EnvIs (σ.set i x) (g.set i none) ys
  | _, _, _, i, x, .nil => ⟨[], [], .refl _, by simpa using EnvIs.nil⟩
  | _, _, _, 0, x, .skip h => ⟨[], _, .refl _, .skip h⟩
  | _, _, _, 0, x, .have (v := w) (t := t0) h => ⟨[(w, t0)], _, .refl _, .skip h⟩
  | _, _, _, i + 1, x, .skip h => by
    obtain ⟨ds, ys, p, q⟩ := EnvIs.drop (i := i) x h
    exact ⟨ds, ys, p, .skip q⟩
  | _, _, _, i + 1, x, .have (v := w) (t := t0) h => by
    obtain ⟨ds, ys, p, q⟩ := EnvIs.drop (i := i) x h
    exact ⟨ds, (w, t0) :: ys, (List.Perm.cons _ p).trans List.perm_middle.symm, .have q⟩
theorem EnvIs.fill : ∀ {σ : St} {g : Ev} {zs : Its} {i : Nat} {v : V} (t : T), EnvIs σ g zs → g[i]? = some none → σ[i]? = some (some v) → ∃ ys, ys.Perm ((v, t) :: zs) ∧ EnvIs σ (g.set i (some t)) ys
  | _, _, _, i, _, t, .nil, e, _ => by simp at e
  | _, _, _, 0, _, t, .skip h, _, e => by
    simp at e
    subst e
    exact ⟨_, .refl _, .have h⟩
  | _, _, _, 0, _, t, .have h, e, _ => by simp at e
  | _, _, _, i + 1, _, t, .skip h, e, e' => by
    obtain ⟨ys, p, q⟩ := EnvIs.fill (i := i) t h (by simpa using e) (by simpa using e')
    exact ⟨ys, p, .skip q⟩
  | _, _, _, i + 1, _, t, .have h, e, e' => by
    obtain ⟨ys, p, q⟩ := EnvIs.fill (i := i) t h (by simpa using e) (by simpa using e')
    exact ⟨_, (List.Perm.cons _ p).trans (List.Perm.swap _ _ _), .have q⟩
structure Bs where
  H0 : Hp
  F0 : Addr → Prop
  fp0 : List Addr
structure Fine (B : Bs) (F : Addr → Prop) (H : Hp) (fp : List Addr) : Prop where
  nd : fp.Nodup
  off : ∀ a ∈ fp, ¬ F a
  trk : ∀ a, F a → H a ≠ none
  inc : ∀ a, B.F0 a → F a
  keep : ∀ a o, B.H0 a = some o → a ∉ B.fp0 → H a = some o
  newF : ∀ a, F a → B.F0 a ∨ a ∈ B.fp0 ∨ B.H0 a = none
  newO : ∀ a ∈ fp, a ∈ B.fp0 ∨ B.H0 a = none
  keepT : ∀ a vs, B.H0 a = some (.tup vs) → H a = some (.tup vs)
def RepG (K : PySem.W.Frag) (B : Bs) (lim : List Addr) (σ : St) (H : Hp) (g : Ev) (Φ : Its) : Prop :=
  ∃ (F : Addr → Prop) (zs : Its) (fp : List Addr), EnvIs σ g zs ∧ OwnZ K F H (zs ++ Φ) fp ∧ Fine B F H (lim ++ fp) ∧ ∀ a ∈ lim, H a ≠ none
abbrev Rep (K : PySem.W.Frag) (B : Bs) (σ : St) (H : Hp) (g : Ev) (Φ : Its) : Prop := RepG K B [] σ H g Φ
section
variable {K : PySem.W.Frag} {B : Bs} {lim : List Addr} {σ : St} {H H' : Hp} {g : Ev} {Φ Ψ : Its}
theorem Fine.perm {F : Addr → Prop} {fp fp' : List Addr} (h : Fine B F H fp) (e : fp.Perm fp') : Fine B F H fp' :=
  ⟨e.nodup_iff.mp h.nd, fun a z => h.off a (e.mem_iff.mpr z), h.trk, h.inc, h.keep, h.newF, fun a z => h.newO a (e.mem_iff.mpr z), h.keepT⟩
theorem Fine.sub {F : Addr → Prop} {fp fp' : List Addr} (h : Fine B F H fp) (e : fp'.Sublist fp) : Fine B F H fp' :=
  ⟨h.nd.sublist e, fun a z => h.off a (e.subset z), h.trk, h.inc, h.keep, h.newF, fun a z => h.newO a (e.subset z), h.keepT⟩
theorem rep_items {F : Addr → Prop} {zs ys ds : Its} {g' : Ev} {σ' : St} {fp : List Addr} (e2 : EnvIs σ' g' ys) (h : OwnZ K F H zs fp) (f : Fine B F H (lim ++ fp)) (hl : ∀ a ∈ lim, H a ≠ none) (p : zs.Perm (ds ++ (ys ++ Ψ))) : RepG K B lim σ' H g' Ψ := by
  obtain ⟨fp', pf, h'⟩ := h.perm p
  obtain ⟨f1, f2, rfl, _, h2⟩ := h'.split
  refine ⟨F, ys, f2, e2, h2, (f.perm (List.Perm.append_left _ pf)).sub ?_, hl⟩
  exact List.Sublist.append (List.Sublist.refl _) (List.sublist_append_right _ _)
theorem RepG.perm (h : RepG K B lim σ H g Φ) (p : Φ.Perm Ψ) : RepG K B lim σ H g Ψ := by
  obtain ⟨F, zs, fp, e, o, f, hl⟩ := h
  exact rep_items (ds := []) e o f hl (List.Perm.append_left _ p)
theorem RepG.dropT {x : V × T} (h : RepG K B lim σ H g (x :: Φ)) : RepG K B lim σ H g Φ := by
  obtain ⟨F, zs, fp, e, o, f, hl⟩ := h
  exact rep_items (ds := [x]) e o f hl (List.perm_middle)
theorem RepG.dropTs {xs : Its} (h : RepG K B lim σ H g (xs ++ Φ)) : RepG K B lim σ H g Φ := by
  induction xs with
  | nil => exact h
  | cons x xs ih => exact ih (RepG.dropT h)
theorem RepG.len (h : RepG K B lim σ H g Φ) : σ.length = g.length := by
  obtain ⟨F, zs, fp, e, _⟩ := h
  exact e.length
theorem RepG.move {i : Nat} {t : T} (h : RepG K B lim σ H g Φ) (e : g[i]? = some (some t)) : ∃ v, σ[i]? = some (some v) ∧ RepG K B lim σ H (g.set i none) ((v, t) :: Φ) := by
  obtain ⟨F, zs, fp, en, o, f, hl⟩ := h
  obtain ⟨v, ys, ev, p, en'⟩ := en.take e
  exact ⟨v, ev, rep_items (ds := []) en' o f hl ((List.Perm.append_right _ p).trans List.perm_middle.symm)⟩
theorem RepG.clear (h : RepG K B lim σ H g Φ) (i : Nat) (x : Option V) : RepG K B lim (σ.set i x) H (g.set i none) Φ := by
  obtain ⟨F, zs, fp, en, o, f, hl⟩ := h
  obtain ⟨ds, ys, p, en'⟩ := en.drop (i := i) x
  exact rep_items (ds := ds) en' o f hl (by rw [← List.append_assoc]; exact List.Perm.append_right _ p)
theorem set_at {α : Type} {l : List α} {i : Nat} {x : α} (h : l[i]? = some x) : l.set i x = l := by
  apply List.ext_getElem?
  intro j
  by_cases e : i = j
  · subst e
    have hi : i < l.length := by
      rw [List.getElem?_eq_some_iff] at h
      exact h.1
    rw [List.getElem?_set_self hi, h]
  · rw [List.getElem?_set_ne e]
theorem RepG.forget (h : RepG K B lim σ H g Φ) (i : Nat) : RepG K B lim σ H (g.set i none) Φ := by
  by_cases hi : i < σ.length
  · have q := h.clear i (σ[i])
    rwa [set_at (by simp [hi])] at q
  · have hg : g.set i none = g := List.set_eq_of_length_le (by rw [← h.len]; omega)
    rw [hg]
    exact h
theorem RepG.put {i : Nat} {v : V} {t : T} (h : RepG K B lim σ H g ((v, t) :: Φ)) (hi : i < σ.length) : RepG K B lim (σ.set i (some v)) H (g.set i (some t)) Φ := by
  have h1 := h.clear i (some v)
  obtain ⟨F, zs, fp, en, o, f, hl⟩ := h1
  have hl' := en.length
  simp only [List.length_set] at hl'
  obtain ⟨ys, p, en'⟩ := en.fill (i := i) (v := v) t (by rw [List.getElem?_set_self (by omega)]) (by rw [List.getElem?_set_self hi])
  rw [List.set_set] at en'
  exact rep_items (ds := []) en' o f hl ((List.perm_middle).trans (List.Perm.append_right _ p.symm))
theorem RepG.back {i : Nat} {v : V} {t : T} (h : RepG K B lim σ H g ((v, t) :: Φ)) (hi : σ[i]? = some (some v)) : RepG K B lim σ H (g.set i (some t)) Φ := by
  have hlt : i < σ.length := by
    rw [List.getElem?_eq_some_iff] at hi
    exact hi.1
  have q := h.put hlt
  rwa [set_at hi] at q
theorem RepG.freezeT {v : V} {t : T} (h : RepG K B lim σ H g ((v, t) :: Φ)) : RepG K B lim σ H g ((v, frz t) :: Φ) := by
  obtain ⟨F, zs, fp, en, o, f, hl⟩ := h
  obtain ⟨fp', pf, o'⟩ := o.perm (List.perm_middle (a := (v, t)))
  obtain ⟨f1, f2, rfl, p1, o2⟩ := OwnZ.uncons (zs := zs ++ Φ) o'
  have f' := f.perm (List.Perm.append_left lim pf)
  have nd := f'.nd
  have hz : OwnZ K (fun a => F a ∨ a ∈ f1) H ((v, frz t) :: (zs ++ Φ)) ([] ++ f2) :=
    .cons (OwnP.freeze (fun a z => .inl z) _ p1 fun a z => .inr z) (o2.mono (fun a z => .inl z) (fun _ _ _ e => e) fun _ _ e => e)
  have fin : Fine B (fun a => F a ∨ a ∈ f1) H (lim ++ ([] ++ f2)) := by
    rw [List.nil_append]
    have sub : (lim ++ f2).Sublist (lim ++ (f1 ++ f2)) := List.Sublist.append (List.Sublist.refl _) (List.sublist_append_right _ _)
    refine ⟨nd.sublist sub, fun a z => ?_, fun a z => ?_, fun a z => .inl (f.inc a z), f.keep, fun a z => ?_, fun a z => f'.newO a (sub.subset z), f.keepT⟩
    · rintro (k | k)
      · exact f'.off a (sub.subset z) k
      · rcases List.mem_append.mp z with z | z
        · exact (List.nodup_append.mp nd).2.2 a z a (List.mem_append_left _ k) rfl
        · exact (List.nodup_append.mp (List.nodup_append.mp nd).2.1).2.2 a k a z rfl
    · rcases z with z | z
      · exact f.trk a z
      · exact p1.tracked a z
    · rcases z with z | z
      · exact f.newF a z
      · rcases f'.newO a (List.mem_append_right _ (List.mem_append_left _ z)) with q | q
        · exact .inr (.inl q)
        · exact .inr (.inr q)
  exact rep_items (ds := []) en hz fin hl (List.perm_middle.symm)
theorem RepG.look {i : Nat} {t : T} (h : RepG K B lim σ H g Φ) (e : g[i]? = some (some t)) (hf : frz t = t) : ∃ v, σ[i]? = some (some v) ∧ RepG K B lim σ H g ((v, t) :: Φ) := by
  obtain ⟨F, zs, fp, en, o, f, hl⟩ := h
  obtain ⟨v, ys, ev, p, en'⟩ := id en.take e
  refine ⟨v, ev, ?_⟩
  obtain ⟨fp', pf, o'⟩ := o.perm (List.Perm.append_right Φ p)
  obtain ⟨f1, f2, rfl, p1, o2⟩ := OwnZ.uncons (zs := ys ++ Φ) o'
  obtain rfl := p1.nofp _ hf
  have f' := f.perm (List.Perm.append_left lim pf)
  have hz : OwnZ K F H ((v, t) :: (v, t) :: (ys ++ Φ)) ([] ++ ([] ++ f2)) := .cons p1 (.cons p1 o2)
  refine rep_items (ds := []) en hz f' hl ?_
  exact ((List.Perm.cons _ (List.Perm.append_right Φ p.symm))).trans List.perm_middle.symm
theorem RepG.freeze {i : Nat} {t : T} (h : RepG K B lim σ H g Φ) (e : g[i]? = some (some t)) : RepG K B lim σ H (g.set i (some (frz t))) Φ := by
  obtain ⟨v, ev, h1⟩ := h.move e
  have h2 := h1.freezeT.back ev
  rwa [List.set_set] at h2
end
end DL
set_option Elab.async false
set_option linter.all false
set_option maxRecDepth 100000
set_option maxHeartbeats 4000000
namespace DL
open PySem L2
section
variable {K : PySem.W.Frag} {B : Bs} {lim : List Addr} {σ : St} {H H' : Hp} {g : Ev} {Φ Ψ : Its}
theorem RepG.lim0 (h : RepG K B lim σ H g Φ) : RepG K B [] σ H g Φ := by
  obtain ⟨F, zs, fp, en, o, f, hl⟩ := h
  exact ⟨F, zs, fp, en, o, f.sub (List.sublist_append_right _ _), fun _ z => nomatch z⟩
theorem RepG.only (h : RepG K B lim σ H g Φ) : RepG K B [] σ H g [] := (RepG.dropTs (xs := Φ) (Φ := []) (by rw [List.append_nil]; exact h)).lim0
theorem RepG.open_ {v : V} {s : Sh} {ts : List T} (h : RepG K B lim σ H g ((v, .node true s ts) :: Φ)) :
    ∃ a vs, v = .ref a ∧ vs.length = ts.length ∧ H a = some (s.mk a vs) ∧ RepG K B (a :: lim) σ H g (vs.zip ts ++ Φ) := by
  obtain ⟨F, zs, fp, en, o, f, hl⟩ := h
  obtain ⟨fp', pf, o'⟩ := o.perm (List.perm_middle (a := (v, T.node true s ts)))
  obtain ⟨f1, f2, rfl, p1, o2⟩ := OwnZ.uncons (zs := zs ++ Φ) o'
  have f' := f.perm (List.Perm.append_left lim pf)
  cases p1 with
  | @own a _ vs _ fk ha hk =>
    refine ⟨a, vs, rfl, hk.length, ha, ?_⟩
    have oz : OwnZ K F H (vs.zip ts ++ (zs ++ Φ)) (fk ++ f2) := hk.zip.append o2
    have ff : Fine B F H ((a :: lim) ++ (fk ++ f2)) := f'.perm (by
      rw [List.cons_append, List.cons_append]
      exact List.perm_middle)
    refine rep_items (ds := []) en oz ff (fun b z => ?_) ?_
    · rcases List.mem_cons.mp z with e | z
      · rw [e, ha]; exact nofun
      · exact hl b z
    · rw [List.nil_append, ← List.append_assoc, ← List.append_assoc]
      exact List.Perm.append_right _ List.perm_append_comm
theorem RepG.close {a : Addr} {s : Sh} {zs : Its} (h : RepG K B (a :: lim) σ H g (zs ++ Φ)) (ht : ∀ vs, H a = some (.tup vs) → s.mk a (zs.map (·.1)) = .tup vs) :
    RepG K B lim σ (upd H a (s.mk a (zs.map (·.1)))) g ((.ref a, .node true s (zs.map (·.2))) :: Φ) := by
  obtain ⟨F, ys, fp, en, o, f, hl⟩ := h
  have p : (ys ++ (zs ++ Φ)).Perm (zs ++ (ys ++ Φ)) := by
    rw [← List.append_assoc, ← List.append_assoc]
    exact List.Perm.append_right _ List.perm_append_comm
  obtain ⟨fp', pf, o'⟩ := o.perm p
  obtain ⟨f1, f2, rfl, o1, o2⟩ := o'.split
  have f' := f.perm (List.Perm.append_left (a :: lim) pf)
  have nd := f'.nd
  rw [List.cons_append, List.nodup_cons] at nd
  have na : a ∉ lim ∧ a ∉ f1 ∧ a ∉ f2 := by
    have := nd.1
    simp only [List.mem_append, not_or] at this
    exact this
  have nF : ¬ F a := f'.off a (by simp)
  have st : ∀ b o, b ≠ a → H b = some o → (upd H a (s.mk a (zs.map (·.1)))) b = some o := fun b o hb e => by rw [upd_ne hb]; exact e
  have stT : ∀ b vs, H b = some (.tup vs) → (upd H a (s.mk a (zs.map (·.1)))) b = some (.tup vs) := fun b vs e => by
    by_cases q : b = a
    · subst q
      rw [upd_same, ht vs e]
    · exact st b _ q e
  have k1 : OwnZ K F (upd H a (s.mk a (zs.map (·.1)))) zs f1 := o1.mono (fun _ z => z) (fun b hb o e => st b o (fun z => by subst z; rcases hb with q | q; exact nF q; exact na.2.1 q) e) stT
  have k2 : OwnZ K F (upd H a (s.mk a (zs.map (·.1)))) (ys ++ Φ) f2 := o2.mono (fun _ z => z) (fun b hb o e => st b o (fun z => by subst z; rcases hb with q | q; exact nF q; exact na.2.2 q) e) stT
  have oz : OwnZ K F (upd H a (s.mk a (zs.map (·.1)))) ((V.ref a, T.node true s (zs.map (·.2))) :: (ys ++ Φ)) ((a :: f1) ++ f2) := .cons (.own upd_same k1) k2
  have ff : Fine B F (upd H a (s.mk a (zs.map (·.1)))) (lim ++ ((a :: f1) ++ f2)) := by
    have f2' := f'.perm (show ((a :: lim) ++ (f1 ++ f2)).Perm (lim ++ ((a :: f1) ++ f2)) by
      rw [List.cons_append, List.cons_append]
      exact List.perm_middle.symm)
    refine ⟨f2'.nd, f2'.off, fun b z e => ?_, f2'.inc, fun b o e nb => ?_, f2'.newF, f2'.newO, fun b vs e => stT b vs (f2'.keepT b vs e)⟩
    · have hb : b ≠ a := fun q => by subst q; exact nF z
      rw [upd_ne hb] at e
      exact f2'.trk b z e
    · have hb : b ≠ a := fun q => by
        subst q
        rcases f2'.newO b (by simp) with q | q
        · exact nb q
        · rw [q] at e; cases e
      exact st b o hb (f2'.keep b o e nb)
  refine rep_items (ds := []) en oz ff (fun b z e => ?_) (List.perm_middle.symm)
  have hb : b ≠ a := fun q => by subst q; exact na.1 z
  rw [upd_ne hb] at e
  exact hl b (List.mem_cons_of_mem _ z) e
theorem RepG.alloc {p : Addr} {o : HO} (h : RepG K B lim σ H g Φ) (hp : H p = none) : RepG K B (p :: lim) σ (upd H p o) g Φ := by
  obtain ⟨F, zs, fp, en, oz, f, hl⟩ := h
  have st : ∀ b u, H b = some u → (upd H p o) b = some u := fun b u e => by rw [upd_ne (ne_of_none e hp)]; exact e
  have stn : ∀ b, H b ≠ none → (upd H p o) b ≠ none := fun b e => by
    cases q : H b with
    | none => exact absurd q e
    | some u => rw [st b u q]; exact nofun
  refine ⟨F, zs, fp, en, oz.mono (fun _ z => z) (fun b _ u e => st b u e) (fun b vs e => st b _ e), ⟨?_, fun a z => ?_, fun a z => stn a (f.trk a z), f.inc, fun a u e na => st a u (f.keep a u e na), f.newF, fun a z => ?_, fun a vs e => st a _ (f.keepT a vs e)⟩, fun b z => ?_⟩
  · rw [List.cons_append, List.nodup_cons]
    refine ⟨fun z => ?_, f.nd⟩
    rcases List.mem_append.mp z with z | z
    · exact hl p z hp
    · exact oz.tracked p z hp
  · rw [List.cons_append, List.mem_cons] at z
    rcases z with rfl | z
    · exact fun q => f.trk a q hp
    · exact f.off a z
  · rw [List.cons_append, List.mem_cons] at z
    rcases z with rfl | z
    · by_cases hb : a ∈ B.fp0
      · exact .inl hb
      · refine .inr ?_
        cases q : B.H0 a with
        | none => rfl
        | some u =>
          have := f.keep a u q hb
          rw [hp] at this; cases this
    · exact f.newO a z
  · rcases List.mem_cons.mp z with rfl | z
    · rw [upd_same]; exact nofun
    · exact stn b (hl b z)
theorem RepG.make {p : Addr} {s : Sh} {zs : Its} (h : RepG K B lim σ H g (zs ++ Φ)) (hp : H p = none) :
    RepG K B lim σ (upd H p (s.mk p (zs.map (·.1)))) g ((.ref p, .node true s (zs.map (·.2))) :: Φ) := by
  have q := (h.alloc (o := s.mk p (zs.map (·.1))) hp).close (s := s) (fun vs e => by rw [upd_same] at e; exact Option.some.inj e)
  rwa [upd_upd] at q
theorem RepG.node {v : V} {o : Bool} {s : Sh} {ts : List T} (h : RepG K B lim σ H g ((v, .node o s ts) :: Φ)) :
    ∃ a vs, v = .ref a ∧ vs.length = ts.length ∧ (Rd H a (s.mk a vs) ∨ Konst K a vs s) := by
  obtain ⟨F, zs, fp, en, oz, f, hl⟩ := h
  obtain ⟨fp', pf, o'⟩ := oz.perm (List.perm_middle (a := (v, T.node o s ts)))
  obtain ⟨f1, f2, rfl, p1, o2⟩ := OwnZ.uncons (zs := zs ++ Φ) o'
  cases p1 with
  | fz hf hr hk => exact ⟨_, _, rfl, hk.length, .inl (.inl hr)⟩
  | kz hc _ hk => exact ⟨_, _, rfl, hk.length, .inr hc⟩
  | tk hr hk => exact ⟨_, _, rfl, hk.length, .inl (.inl hr)⟩
  | own ha hk => exact ⟨_, _, rfl, hk.length, .inl (.inl ha)⟩
theorem RepG.nodeH {v : V} {o : Bool} {s : Sh} {ts : List T} (h : RepG K B lim σ H g ((v, .node o s ts) :: Φ)) (hs : s ≠ .tup) :
    ∃ a vs, v = .ref a ∧ vs.length = ts.length ∧ H a = some (s.mk a vs) := by
  obtain ⟨F, zs, fp, en, oz, f, hl⟩ := h
  obtain ⟨fp', pf, o'⟩ := oz.perm (List.perm_middle (a := (v, T.node o s ts)))
  obtain ⟨f1, f2, rfl, p1, o2⟩ := OwnZ.uncons (zs := zs ++ Φ) o'
  cases p1 with
  | fz hf hr hk => exact ⟨_, _, rfl, hk.length, hr⟩
  | kz hc _ hk => exact absurd rfl hs
  | tk _ _ => exact absurd rfl hs
  | own ha hk => exact ⟨_, _, rfl, hk.length, ha⟩
theorem RepG.kids {v : V} {s : Sh} {ts : List T} (h : RepG K B lim σ H g ((v, .node false s ts) :: Φ)) :
    ∃ a vs, v = .ref a ∧ vs.length = ts.length ∧ (Rd H a (s.mk a vs) ∨ Konst K a vs s) ∧ RepG K B lim σ H g (vs.zip ts ++ (v, .node false s ts) :: Φ) := by
  obtain ⟨F, zs, fp, en, oz, f, hl⟩ := h
  obtain ⟨fp', pf, o'⟩ := oz.perm (List.perm_middle (a := (v, T.node false s ts)))
  obtain ⟨f1, f2, rfl, p1, o2⟩ := OwnZ.uncons (zs := zs ++ Φ) o'
  have f' := f.perm (List.Perm.append_left lim pf)
  have p1' := p1
  have fin : ∀ vs : List V, OwnL K F H vs ts [] → f1 = [] → RepG K B lim σ H g (vs.zip ts ++ (v, .node false s ts) :: Φ) := fun vs hk e => by
    subst e
    have oz2 : OwnZ K F H (vs.zip ts ++ ((v, T.node false s ts) :: (zs ++ Φ))) ([] ++ ([] ++ f2)) := hk.zip.append (.cons p1' o2)
    refine rep_items (ds := []) en oz2 f' hl ?_
    rw [List.nil_append]
    have e1 : (vs.zip ts ++ (v, T.node false s ts) :: (zs ++ Φ)).Perm ((zs ++ ((v, T.node false s ts) :: Φ)) ++ vs.zip ts) :=
      List.perm_append_comm.trans (List.Perm.append_right _ List.perm_middle.symm)
    refine e1.trans ?_
    rw [List.append_assoc]
    exact List.Perm.append_left _ List.perm_append_comm
  cases p1 with
  | fz hf hr hk => exact ⟨_, _, rfl, hk.length, .inl (.inl hr), fin _ hk rfl⟩
  | kz hc _ hk => exact ⟨_, _, rfl, hk.length, .inr hc, fin _ hk rfl⟩
  | tk hr hk => exact ⟨_, _, rfl, hk.length, .inl (.inl hr), fin _ hk rfl⟩
theorem RepG.leaf {v : V} {w : V} (h : RepG K B lim σ H g ((v, .leaf w) :: Φ)) : v = w := by
  obtain ⟨F, zs, fp, en, oz, f, hl⟩ := h
  obtain ⟨fp', pf, o'⟩ := oz.perm (List.perm_middle (a := (v, T.leaf w)))
  obtain ⟨f1, f2, rfl, p1, o2⟩ := OwnZ.uncons (zs := zs ++ Φ) o'
  cases p1
  rfl
theorem RepG.addLeaf {v : V} (h : RepG K B lim σ H g Φ) : RepG K B lim σ H g ((v, .leaf v) :: Φ) := by
  obtain ⟨F, zs, fp, en, oz, f, hl⟩ := h
  exact rep_items (ds := []) en (OwnZ.cons (fp := []) (.leaf v) oz) f hl List.perm_middle.symm
theorem RepG.grow (h : RepG K B lim σ H g Φ) (e : ∀ a o, H a = some o → H' a = some o) : RepG K B lim σ H' g Φ := by
  obtain ⟨F, zs, fp, en, oz, f, hl⟩ := h
  have stn : ∀ b, H b ≠ none → H' b ≠ none := fun b q => by
    cases z : H b with
    | none => exact absurd z q
    | some u => rw [e b u z]; exact nofun
  exact ⟨F, zs, fp, en, oz.mono (fun _ z => z) (fun b _ u q => e b u q) (fun b vs q => e b _ q), ⟨f.nd, f.off, fun a z => stn a (f.trk a z), f.inc, fun a u q na => e a u (f.keep a u q na), f.newF, f.newO, fun a vs q => e a _ (f.keepT a vs q)⟩, fun b z => stn b (hl b z)⟩
theorem seqL {a : Addr} {vs : List V} (h : Rd H a (Sh.lst.mk a vs) ∨ Konst K a vs .lst) : SqL K H a vs := h
theorem seqT {a : Addr} {vs : List V} (h : Rd H a (Sh.tup.mk a vs) ∨ Konst K a vs .tup) : SqT K H a vs := h
end
abbrev XP := Value → List (Str × V) → Ev → Prop
abbrev DTE := Ev → (T → Ev → Prop) → XP → Prop
abbrev DTT := Ev → (Bool → Ev → Prop) → XP → Prop
abbrev DTA := Ev → (List T → Ev → Prop) → XP → Prop
structure DEnds where
  nx : Ev → Prop
  rt : T → Ev → Prop
  ex : XP
  bk : Ev → Prop := fun _ => False
  ct : Ev → Prop := fun _ => False
abbrev DTS := DEnds → Ev → Prop
def XD (d : Option Addr) (fs : List (Str × V)) (H : Hp) : Prop := match fs with
  | [] => d = none
  | f :: r => ∃ a, d = some a ∧ H a = some (.xd (f :: r))
def ckN : Nat → Str
  | 0 => "PollError" | 1 => "NoNumber" | 2 => "NoBallot" | 3 => "NoSheet" | 4 => "NoChange" | 5 => "Torn" | 6 => "NoBundle" | 7 => "WrongNumber" | 8 => "NoWay" | 9 => "NoRoll"
  | 10 => "NoTelling" | 11 => "NoEnvelope" | 12 => "NoLand" | 13 => "TooMany" | 14 => "NoPoll" | 15 => "NoDeed" | 16 => "Ended" | 17 => "Nothing" | 18 => "NoText" | 19 => "NoRow"
  | _ => "PollError"
abbrev cxN (n : Nat) : Value := .int (n : Nat) 0
def sym (mg : Str → Option Value) : Value → Value → Prop := fun x c => ∃ n, x = cxN n ∧ mg (ckN n) = some c
def upW (mg : Str → Option Value) (W : WX) : WX := fun c d σ H => ∃ x, sym mg x c ∧ W x d σ H
def liftX (K : PySem.W.Frag) (B : Bs) (W : WX) (σ : St) (E : XP) : Prop := ∀ c fs g d H, RepG K B [] σ H g [] → XD d fs H → E c fs g → W c d σ H
def liftE (K : PySem.W.Frag) (B : Bs) (W : WX) (t : DTE) : TE := fun σ H Q => ∃ (Φ : Its) (lim : List Addr) (g : Ev) (E : XP), RepG K B lim σ H g Φ ∧ liftX K B W σ E ∧
  t g (fun τ g' => ∀ v H', RepG K B lim σ H' g' ((v, τ) :: Φ) → Q v H') E
def liftT (K : PySem.W.Frag) (B : Bs) (W : WX) (t : DTT) : TT := fun σ H Q => ∃ (Φ : Its) (lim : List Addr) (g : Ev) (E : XP), RepG K B lim σ H g Φ ∧ liftX K B W σ E ∧
  t g (fun b g' => ∀ H', RepG K B lim σ H' g' Φ → Q b H') E
def BackOk (σ : St) : List V → List (Option Nat) → Prop
  | [], [] => True
  | v :: vs, some j :: bs => σ[j]? = some (some v) ∧ BackOk σ vs bs
  | _ :: vs, none :: bs => BackOk σ vs bs
  | _, _ => False
def liftA (K : PySem.W.Frag) (B : Bs) (W : WX) (bs : List (Option Nat)) (t : DTA) : TA := fun σ H Q => ∃ (Φ : Its) (lim : List Addr) (g : Ev) (E : XP), RepG K B lim σ H g Φ ∧ liftX K B W σ E ∧
  t g (fun τs g' => ∀ vs H', vs.length = τs.length → BackOk σ vs bs → RepG K B lim σ H' g' (vs.zip τs ++ Φ) → Q vs H') E
def Kept (m : Nat → Bool) (σ σ' : St) : Prop := σ'.length = σ.length ∧ ∀ i, m i = true → σ'[i]? = σ[i]?
def low (K : PySem.W.Frag) (B : Bs) (m : Nat → Bool) (σ0 : St) (lim : List Addr) (Φ : Its) (D : Ends) (E : XP) : DEnds :=
  { nx := fun g' => ∀ σ' H', RepG K B lim σ' H' g' Φ → Kept m σ0 σ' → D.nx σ' H', rt := fun τ g' => ∀ v σ' H', RepG K B [] σ' H' g' [(v, τ)] → Kept m σ0 σ' → D.rt v H', ex := E,
    bk := fun g' => ∀ σ' H', RepG K B lim σ' H' g' Φ → Kept m σ0 σ' → D.bk σ' H', ct := fun g' => ∀ σ' H', RepG K B lim σ' H' g' Φ → Kept m σ0 σ' → D.ct σ' H' }
def liftS (K : PySem.W.Frag) (B : Bs) (W : WX) (m : Nat → Bool) (σ0 : St) (t : DTS) : TS := fun D σ H => ∃ (Φ : Its) (lim : List Addr) (g : Ev) (E : XP), RepG K B lim σ H g Φ ∧ Kept m σ0 σ ∧
  (∀ σ, Kept m σ0 σ → liftX K B W σ E) ∧ t (low K B m σ0 lim Φ D E) g
structure DE (X : Cx) (W : WX) (e : Expr) (t : DTE) : Prop where
  run : ∀ B, PE X e (liftE X.K B W t)
  mono : ∀ g Q Q' E E', (∀ τ g', Q τ g' → Q' τ g') → (∀ c fs g', E c fs g' → E' c fs g') → t g Q E → t g Q' E'
structure DT (X : Cx) (W : WX) (e : Expr) (t : DTT) : Prop where
  run : ∀ B, PT X e (liftT X.K B W t)
  mono : ∀ g Q Q' E E', (∀ b g', Q b g' → Q' b g') → (∀ c fs g', E c fs g' → E' c fs g') → t g Q E → t g Q' E'
structure DW (X : Cx) (W : WX) (e : Expr) (t : DTT) : Prop where
  run : ∀ B, PW X e (liftT X.K B W t)
  mono : ∀ g Q Q' E E', (∀ b g', Q b g' → Q' b g') → (∀ c fs g', E c fs g' → E' c fs g') → t g Q E → t g Q' E'
structure DA (X : Cx) (W : WX) (es : List Expr) (bs : List (Option Nat)) (t : DTA) : Prop where
  run : ∀ B, PA X es (liftA X.K B W bs t)
  mono : ∀ g Q Q' E E', (∀ τs g', Q τs g' → Q' τs g') → (∀ c fs g', E c fs g' → E' c fs g') → t g Q E → t g Q' E'
structure DEnds.Le (D D' : DEnds) : Prop where
  nx : ∀ g, D.nx g → D'.nx g
  rt : ∀ τ g, D.rt τ g → D'.rt τ g
  ex : ∀ c fs g, D.ex c fs g → D'.ex c fs g
  bk : ∀ g, D.bk g → D'.bk g
  ct : ∀ g, D.ct g → D'.ct g
structure DS (X : Cx) (W : WX) (m : Nat → Bool) (st : Stmt) (t : DTS) : Prop where
  run : ∀ B σ0, PS X st (liftS X.K B W m σ0 t)
  mono : ∀ D D' g, D.Le D' → t D g → t D' g
structure DSs (X : Cx) (W : WX) (m : Nat → Bool) (st : List Stmt) (t : DTS) : Prop where
  run : ∀ B σ0, PSs X st (liftS X.K B W m σ0 t)
  mono : ∀ D D' g, D.Le D' → t D g → t D' g
theorem PE.imp {X : Cx} {e : Expr} {t t' : TE} (h : PE X e t) (i : ∀ σ H Q, t' σ H Q → t σ H Q) : PE X e t' := ⟨fun pins s σ H Q I hw => h.run pins s σ H Q I (i σ H Q hw)⟩
theorem PT.imp {X : Cx} {e : Expr} {t t' : TT} (h : PT X e t) (i : ∀ σ H Q, t' σ H Q → t σ H Q) : PT X e t' := ⟨fun pins s σ H Q I hw => h.run pins s σ H Q I (i σ H Q hw)⟩
theorem PW.imp {X : Cx} {e : Expr} {t t' : TT} (h : PW X e t) (i : ∀ σ H Q, t' σ H Q → t σ H Q) : PW X e t' := ⟨fun wh pins s σ H Q I hw => h.run wh pins s σ H Q I (i σ H Q hw)⟩
theorem PA.imp {X : Cx} {e : List Expr} {t t' : TA} (h : PA X e t) (i : ∀ σ H Q, t' σ H Q → t σ H Q) : PA X e t' := ⟨fun pos pins s σ H Q I hw => h.run pos pins s σ H Q I (i σ H Q hw)⟩
theorem PS.imp {X : Cx} {e : Stmt} {t t' : TS} (h : PS X e t) (i : ∀ D σ H, t' D σ H → t D σ H) : PS X e t' := ⟨fun pins s σ H D I hw => h.run pins s σ H D I (i D σ H hw)⟩
theorem PSs.imp {X : Cx} {e : List Stmt} {t t' : TS} (h : PSs X e t) (i : ∀ D σ H, t' D σ H → t D σ H) : PSs X e t' := ⟨fun pins s σ H D I hw => h.run pins s σ H D I (i D σ H hw)⟩
section
variable {X : Cx} {W : WX} {m : Nat → Bool} {a b c e : Expr} {es : List Expr} {ta tb tc te : DTE} {pos : Pos}
def xVar (i : Nat) : DTE := fun g Q _ => match g[i]? with
  | some (some t) => frz t = t ∧ Q t g
  | _ => False
def xFrz (i : Nat) : DTE := fun g Q _ => match g[i]? with
  | some (some t) => Q (frz t) (g.set i (some (frz t)))
  | _ => False
def xMov (i : Nat) : DTE := fun g Q _ => match g[i]? with
  | some (some t) => Q t (g.set i none)
  | _ => False
def xC (v : V) : DTE := fun g Q _ => Q (.leaf v) g
theorem m_match {i : Nat} {g : Ev} {P P' : T → Prop} (h : ∀ t, P t → P' t) : (match g[i]? with | some (some t) => P t | _ => False) → (match g[i]? with | some (some t) => P' t | _ => False) := by
  intro q
  split at q
  · rename_i t e
    exact h t q
  · exact q.elim
theorem d_var (i : Nat) (h : PE X e (tVar i)) : DE X W e (xVar i) := by
  refine ⟨fun B => PE.imp h fun σ H Q ⟨Φ, lim, g, E, r, hx, q⟩ => ?_, fun g Q Q' E E' hq _ q => m_match (fun t z => ⟨z.1, hq _ _ z.2⟩) q⟩
  unfold xVar at q
  split at q
  · rename_i t ht
    obtain ⟨v, hv, r'⟩ := r.look ht q.1
    exact ⟨v, hv, q.2 v H r'⟩
  · exact q.elim
theorem d_frz (i : Nat) (h : PE X e (tVar i)) : DE X W e (xFrz i) := by
  refine ⟨fun B => PE.imp h fun σ H Q ⟨Φ, lim, g, E, r, hx, q⟩ => ?_, fun g Q Q' E E' hq _ q => m_match (fun t z => hq _ _ z) q⟩
  unfold xFrz at q
  split at q
  · rename_i t ht
    have hi : i < g.length := by
      rw [List.getElem?_eq_some_iff] at ht
      exact ht.1
    obtain ⟨v, hv, r'⟩ := (r.freeze ht).look (List.getElem?_set_self hi) (frz_frz t)
    exact ⟨v, hv, q v H r'⟩
  · exact q.elim
theorem d_mov (i : Nat) (h : PE X e (tVar i)) : DE X W e (xMov i) := by
  refine ⟨fun B => PE.imp h fun σ H Q ⟨Φ, lim, g, E, r, hx, q⟩ => ?_, fun g Q Q' E E' hq _ q => m_match (fun t z => hq _ _ z) q⟩
  unfold xMov at q
  split at q
  · rename_i t ht
    obtain ⟨v, hv, r'⟩ := r.move ht
    exact ⟨v, hv, q v H r'⟩
  · exact q.elim
theorem d_c {v : V} (h : PE X e (tC v)) : DE X W e (xC v) := by
  refine ⟨fun B => PE.imp h fun σ H Q ⟨Φ, lim, g, E, r, hx, q⟩ => ?_, fun g Q Q' E E' hq _ q => hq _ _ q⟩
  exact q v H r.addLeaf
theorem d_int {i j pos} : DE X W (.Constant (.int i) j pos) (xC (.int i)) := d_c pe_int
theorem d_bl {b j pos} : DE X W (.Constant (.bool b) j pos) (xC (.bl b)) := d_c pe_bl
theorem d_non {j pos} : DE X W (.Constant .none j pos) (xC .non) := d_c pe_non
theorem d_str {x j pos} : DE X W (.Constant (.str x) j pos) (xC (.str x)) := d_c pe_str
def ifB : Bool → Prop → Prop → Prop
  | true, a, _ => a
  | false, _, b => b
theorem ifB_dec {p : Prop} [Decidable p] {a b : Prop} (h1 : p → a) (h2 : ¬ p → b) : ifB (decide p) a b := by
  by_cases h : p
  · rw [decide_eq_true h]
    exact h1 h
  · rw [decide_eq_false h]
    exact h2 h
theorem ifB_of {c : Bool} {a b : Prop} (h1 : c = true → a) (h2 : c = false → b) : ifB c a b := by
  cases c with
  | true => exact h1 rfl
  | false => exact h2 rfl
abbrev R2T := T → T → (T → Prop) → Prop
def Op2 (K : PySem.W.Frag) (r : R2) (rt : R2T) : Prop :=
  (∀ (B : Bs) (lim : List Addr) (σ : St) (H : Hp) (g : Ev) (Φ : Its) (v1 v2 : V) (τ1 τ2 : T) (Q : VK), RepG K B lim σ H g ((v2, τ2) :: (v1, τ1) :: Φ) →
    rt τ1 τ2 (fun τ => ∀ v H', RepG K B lim σ H' g ((v, τ) :: Φ) → Q v H') → r v1 v2 H Q) ∧
  ∀ τ1 τ2 Q Q', (∀ τ, Q τ → Q' τ) → rt τ1 τ2 Q → rt τ1 τ2 Q'
def xOp (rt : R2T) (ta tb : DTE) : DTE := fun g Q E => ta g (fun τ1 g1 => tb g1 (fun τ2 g2 => rt τ1 τ2 fun τ => Q τ g2) E) E
theorem lift2 {K : PySem.W.Frag} {B : Bs} {σ : St} {H : Hp} {R : V → V → Hp → Prop} {R' : T → T → Ev → Prop} {Φ : Its} {lim : List Addr} {g : Ev} {E : XP} (r : RepG K B lim σ H g Φ) (hx : liftX K B W σ E)
    (mb : ∀ g Q Q' E E', (∀ τ g', Q τ g' → Q' τ g') → (∀ c fs g', E c fs g' → E' c fs g') → tb g Q E → tb g Q' E')
    (ma : ∀ g Q Q' E E', (∀ τ g', Q τ g' → Q' τ g') → (∀ c fs g', E c fs g' → E' c fs g') → ta g Q E → ta g Q' E')
    (q : ta g (fun τ1 g1 => tb g1 (fun τ2 g2 => R' τ1 τ2 g2) E) E) (h : ∀ v1 v2 τ1 τ2 g2 H2, RepG K B lim σ H2 g2 ((v2, τ2) :: (v1, τ1) :: Φ) → R' τ1 τ2 g2 → R v1 v2 H2) :
    liftE K B W ta σ H fun x H1 => liftE K B W tb σ H1 fun y H2 => R x y H2 := by
  refine ⟨Φ, lim, g, E, r, hx, ma _ _ _ _ _ (fun τ1 g1 q1 v1 H1 r1 => ?_) (fun _ _ _ z => z) q⟩
  exact ⟨(v1, τ1) :: Φ, lim, g1, E, r1, hx, mb _ _ _ _ _ (fun τ2 g2 q2 v2 H2 r2 => h v1 v2 τ1 τ2 g2 H2 r2 q2) (fun _ _ _ z => z) q1⟩
theorem d_op2 {op : Operator} {r : R2} {rt : R2T} (ho : OpR X (binaryOp op) r) (hr : Op2 X.K r rt) (ha : DE X W a ta) (hb : DE X W b tb) : DE X W (.BinOp a op b pos) (xOp rt ta tb) := by
  refine ⟨fun B => PE.imp (pe_op ho (ha.run B) (hb.run B)) fun σ H Q ⟨Φ, lim, g, E, r, hx, q⟩ => ?_, fun g Q Q' E E' hq he q => ?_⟩
  · exact lift2 r hx hb.mono ha.mono q fun v1 v2 τ1 τ2 g2 H2 r2 q2 => hr.1 B lim σ H2 g2 Φ v1 v2 τ1 τ2 Q r2 q2
  · exact ha.mono _ _ _ _ _ (fun τ1 g1 q1 => hb.mono _ _ _ _ _ (fun τ2 g2 q2 => hr.2 _ _ _ _ (fun τ z => hq _ _ z) q2) he q1) he q
def rtI (C : Int → Int → Prop) (f : Int → Int → V) : R2T := fun τ1 τ2 Q => match τ1, τ2 with
  | .leaf (.int i), .leaf (.int j) => C i j ∧ Q (.leaf (f i j))
  | _, _ => False
def rtI0 (f : Int → Int → V) : R2T := fun τ1 τ2 Q => match τ1, τ2 with
  | .leaf (.int i), .leaf (.int j) => Q (.leaf (f i j))
  | _, _ => False
theorem op2_I {K : PySem.W.Frag} {C C' : Int → Int → Prop} {f : Int → Int → V} (hc : ∀ i j, C' i j → C i j) : Op2 K (rI C f) (rtI C' f) := by
  refine ⟨fun B lim σ H g Φ v1 v2 τ1 τ2 Q r q => ?_, fun τ1 τ2 Q Q' hq q => ?_⟩
  · unfold rtI at q
    split at q
    · obtain rfl := r.leaf
      obtain rfl := r.dropT.leaf
      exact ⟨_, _, rfl, rfl, hc _ _ q.1, q.2 _ _ r.dropT.dropT.addLeaf⟩
    · exact q.elim
  · unfold rtI at q
    split at q
    · exact ⟨q.1, hq _ q.2⟩
    · exact q.elim
theorem op2_I0 {K : PySem.W.Frag} {f : Int → Int → V} : Op2 K (rI0 f) (rtI0 f) := by
  refine ⟨fun B lim σ H g Φ v1 v2 τ1 τ2 Q r q => ?_, fun τ1 τ2 Q Q' hq q => ?_⟩
  · unfold rtI0 at q
    split at q
    · obtain rfl := r.leaf
      obtain rfl := r.dropT.leaf
      exact ⟨_, _, rfl, rfl, q _ _ r.dropT.dropT.addLeaf⟩
    · exact q.elim
  · unfold rtI0 at q
    split at q
    · exact hq _ q
    · exact q.elim
end
end DL
set_option Elab.async false
set_option linter.all false
set_option maxRecDepth 100000
set_option maxHeartbeats 4000000
namespace DL
open PySem L2
section
variable {X : Cx} {W : WX} {m : Nat → Bool} {a b c e : Expr} {es : List Expr} {ta tb tc te : DTE} {tA tB' : DTT} {pos : Pos}
theorem d_cmp {op : CmpOp} {r : R2} {rt : R2T} (ho : OpR X (compareOp op) r) (hr : Op2 X.K r rt) (ha : DE X W a ta) (hb : DE X W b tb) (hm : behindInMarks op b = false) : DE X W (.Compare a [op] [b] pos) (xOp rt ta tb) := by
  refine ⟨fun B => PE.imp (pe_cmpR ho (ha.run B) (hb.run B) hm) fun σ H Q ⟨Φ, lim, g, E, r, hx, q⟩ => ?_, fun g Q Q' E E' hq he q => ?_⟩
  · exact lift2 r hx hb.mono ha.mono q fun v1 v2 τ1 τ2 g2 H2 r2 q2 => hr.1 B lim σ H2 g2 Φ v1 v2 τ1 τ2 Q r2 q2
  · exact ha.mono _ _ _ _ _ (fun τ1 g1 q1 => hb.mono _ _ _ _ _ (fun τ2 g2 q2 => hr.2 _ _ _ _ (fun τ z => hq _ _ z) q2) he q1) he q
def xB (te : DTE) : DTT := fun g Q E => te g (fun τ g1 => match τ with
  | .leaf (.bl b) => Q b g1
  | _ => False) E
theorem m_bl {g1 : Ev} {Q Q' : Bool → Ev → Prop} (h : ∀ b g', Q b g' → Q' b g') : ∀ {τ : T}, (match τ with | .leaf (.bl b) => Q b g1 | _ => False) → (match τ with | .leaf (.bl b) => Q' b g1 | _ => False) := by
  intro τ q
  split at q
  · exact h _ _ q
  · exact q.elim
theorem dt_of (h : ∀ (t : TE), PE X e t → PT X e (tB t)) (he : DE X W e te) : DT X W e (xB te) := by
  refine ⟨fun B => PT.imp (h _ (he.run B)) fun σ H Q ⟨Φ, lim, g, E, r, hx, q⟩ => ?_, fun g Q Q' E E' hq hE q => ?_⟩
  · refine ⟨Φ, lim, g, E, r, hx, he.mono _ _ _ _ _ (fun τ g1 q1 v H1 r1 => ?_) (fun _ _ _ z => z) q⟩
    split at q1
    · obtain rfl := r1.leaf
      exact ⟨_, rfl, q1 H1 r1.dropT⟩
    · exact q1.elim
  · exact he.mono _ _ _ _ _ (fun τ g1 q1 => m_bl hq q1) hE q
theorem dt_val (he : DE X W e te) (hp : ∀ whole, isTrue e X.env whole = (do let v ← whole; standAt e.pos; holding [v] (truthy v)) := by intro _; rfl) : DT X W e (xB te) :=
  dt_of (fun t h => pt_val h hp) he
theorem dt_cmp {op : CmpOp} {rr : R2} {rt : R2T} (ho : OpR X (compareOp op) rr) (hr : Op2 X.K rr rt) (ha : DE X W a ta) (hb : DE X W b tb) (hm : behindInMarks op b = false) : DT X W (.Compare a [op] [b] pos) (xB (xOp rt ta tb)) := by
  refine ⟨fun B => PT.imp (pt_cmpR ho (ha.run B) (hb.run B) hm) fun σ H Q ⟨Φ, lim, g, E, r, hx, q⟩ => ?_, fun g Q Q' E E' hq he q => ?_⟩
  · refine lift2 (R := fun v1 v2 H2 => rr v1 v2 H2 fun x H3 => ∃ k, x = .bl k ∧ Q k H3) r hx hb.mono ha.mono q fun v1 v2 τ1 τ2 g2 H2 r2 q2 => hr.1 B lim σ H2 g2 Φ v1 v2 τ1 τ2 _ r2 (hr.2 _ _ _ _ (fun τ z v H' r' => ?_) q2)
    dsimp only at z
    split at z
    · obtain rfl := r'.leaf
      exact ⟨_, rfl, z H' r'.dropT⟩
    · exact z.elim
  · exact ha.mono _ _ _ _ _ (fun τ1 g1 q1 => hb.mono _ _ _ _ _ (fun τ2 g2 q2 => hr.2 _ _ _ _ (fun τ z => m_bl hq z) q2) he q1) he q
def xAnd (t u : DTT) : DTT := fun g Q E => t g (fun b g1 => ifB b (u g1 Q E) (Q false g1)) E
def xOr (t u : DTT) : DTT := fun g Q E => t g (fun b g1 => ifB b (Q true g1) (u g1 Q E)) E
def xNot (t : DTT) : DTT := fun g Q E => t g (fun b g1 => Q (!b) g1) E
theorem DW.dt (h : DW X W e tA) : DT X W e tA := ⟨fun B => (h.run B).pt, h.mono⟩
theorem dw_and1 (h : DT X W a tA) : DW X W (.BoolOp .And [a] pos) tA := ⟨fun B => pw_and1 (h.run B), h.mono⟩
theorem dw_or1 (h : DT X W a tA) : DW X W (.BoolOp .Or [a] pos) tA := ⟨fun B => pw_or1 (h.run B), h.mono⟩
theorem xAnd_mono (ha : ∀ g Q Q' E E', (∀ b g', Q b g' → Q' b g') → (∀ c fs g', E c fs g' → E' c fs g') → tA g Q E → tA g Q' E') (hb : ∀ g Q Q' E E', (∀ b g', Q b g' → Q' b g') → (∀ c fs g', E c fs g' → E' c fs g') → tB' g Q E → tB' g Q' E') :
    ∀ g Q Q' E E', (∀ b g', Q b g' → Q' b g') → (∀ c fs g', E c fs g' → E' c fs g') → xAnd tA tB' g Q E → xAnd tA tB' g Q' E' := fun g Q Q' E E' hq he q =>
  ha _ _ _ _ _ (fun b g1 q1 => by
    cases b with
    | true => exact hb _ _ _ _ _ hq he q1
    | false => exact hq _ _ q1) he q
theorem xOr_mono (ha : ∀ g Q Q' E E', (∀ b g', Q b g' → Q' b g') → (∀ c fs g', E c fs g' → E' c fs g') → tA g Q E → tA g Q' E') (hb : ∀ g Q Q' E E', (∀ b g', Q b g' → Q' b g') → (∀ c fs g', E c fs g' → E' c fs g') → tB' g Q E → tB' g Q' E') :
    ∀ g Q Q' E E', (∀ b g', Q b g' → Q' b g') → (∀ c fs g', E c fs g' → E' c fs g') → xOr tA tB' g Q E → xOr tA tB' g Q' E' := fun g Q Q' E E' hq he q =>
  ha _ _ _ _ _ (fun b g1 q1 => by
    cases b with
    | true => exact hq _ _ q1
    | false => exact hb _ _ _ _ _ hq he q1) he q
theorem dw_and {rest : List Expr} (ha : DT X W a tA) (hb : DW X W (.BoolOp .And (b :: rest) pos) tB') : DW X W (.BoolOp .And (a :: b :: rest) pos) (xAnd tA tB') := by
  refine ⟨fun B => PW.imp (pw_and (ha.run B) (hb.run B)) fun σ H Q ⟨Φ, lim, g, E, r, hx, q⟩ => ?_, xAnd_mono ha.mono hb.mono⟩
  refine ⟨Φ, lim, g, E, r, hx, ha.mono _ _ _ _ _ (fun b g1 q1 H1 r1 => ?_) (fun _ _ _ z => z) q⟩
  cases b with
  | true => exact ⟨Φ, lim, g1, E, r1, hx, q1⟩
  | false => exact q1 H1 r1
theorem dw_or {rest : List Expr} (ha : DT X W a tA) (hb : DW X W (.BoolOp .Or (b :: rest) pos) tB') : DW X W (.BoolOp .Or (a :: b :: rest) pos) (xOr tA tB') := by
  refine ⟨fun B => PW.imp (pw_or (ha.run B) (hb.run B)) fun σ H Q ⟨Φ, lim, g, E, r, hx, q⟩ => ?_, xOr_mono ha.mono hb.mono⟩
  refine ⟨Φ, lim, g, E, r, hx, ha.mono _ _ _ _ _ (fun b g1 q1 H1 r1 => ?_) (fun _ _ _ z => z) q⟩
  cases b with
  | true => exact q1 H1 r1
  | false => exact ⟨Φ, lim, g1, E, r1, hx, q1⟩
theorem dt_not (ha : DT X W a tA) : DT X W (.UnaryOp .Not a pos) (xNot tA) := by
  refine ⟨fun B => PT.imp (pt_not (ha.run B)) fun σ H Q ⟨Φ, lim, g, E, r, hx, q⟩ => ?_, fun g Q Q' E E' hq he q => ha.mono _ _ _ _ _ (fun b g1 q1 => hq _ _ q1) he q⟩
  exact ⟨Φ, lim, g, E, r, hx, q⟩
def xAndV (ta tb : DTE) : DTE := fun g Q E => ta g (fun τ g1 => match τ with
  | .leaf (.bl b) => ifB b (tb g1 Q E) (Q (.leaf (.bl false)) g1)
  | _ => False) E
def xOrV (ta tb : DTE) : DTE := fun g Q E => ta g (fun τ g1 => match τ with
  | .leaf (.bl b) => ifB b (Q (.leaf (.bl true)) g1) (tb g1 Q E)
  | _ => False) E
def xNotV (ta : DTE) : DTE := fun g Q E => ta g (fun τ g1 => match τ with
  | .leaf (.bl b) => Q (.leaf (.bl (!b))) g1
  | _ => False) E
theorem d_one {op} (h : DE X W a ta) : DE X W (.BoolOp op [a] pos) ta := ⟨fun B => pe_one (h.run B), h.mono⟩
theorem d_and {rest : List Expr} (ha : DE X W a ta) (hb : DE X W (.BoolOp .And (b :: rest) pos) tb) : DE X W (.BoolOp .And (a :: b :: rest) pos) (xAndV ta tb) := by
  refine ⟨fun B => PE.imp (pe_and (ha.run B) (hb.run B)) fun σ H Q ⟨Φ, lim, g, E, r, hx, q⟩ => ?_, fun g Q Q' E E' hq he q => ?_⟩
  · refine ⟨Φ, lim, g, E, r, hx, ha.mono _ _ _ _ _ (fun τ g1 q1 v H1 r1 => ?_) (fun _ _ _ z => z) q⟩
    split at q1
    · rename_i b
      obtain rfl := r1.leaf
      refine ⟨_, rfl, ?_⟩
      cases b with
      | true =>
        exact ⟨Φ, lim, g1, E, r1.dropT, hx, q1⟩
      | false =>
        exact q1 _ H1 r1.dropT.addLeaf
    · exact q1.elim
  · refine ha.mono _ _ _ _ _ (fun τ g1 q1 => ?_) he q
    split at q1
    · rename_i b
      cases b with
      | true =>
        exact hb.mono _ _ _ _ _ hq he q1
      | false =>
        exact hq _ _ q1
    · exact q1.elim
theorem d_or {rest : List Expr} (ha : DE X W a ta) (hb : DE X W (.BoolOp .Or (b :: rest) pos) tb) : DE X W (.BoolOp .Or (a :: b :: rest) pos) (xOrV ta tb) := by
  refine ⟨fun B => PE.imp (pe_or (ha.run B) (hb.run B)) fun σ H Q ⟨Φ, lim, g, E, r, hx, q⟩ => ?_, fun g Q Q' E E' hq he q => ?_⟩
  · refine ⟨Φ, lim, g, E, r, hx, ha.mono _ _ _ _ _ (fun τ g1 q1 v H1 r1 => ?_) (fun _ _ _ z => z) q⟩
    split at q1
    · rename_i b
      obtain rfl := r1.leaf
      refine ⟨_, rfl, ?_⟩
      cases b with
      | true =>
        exact q1 _ H1 r1.dropT.addLeaf
      | false =>
        exact ⟨Φ, lim, g1, E, r1.dropT, hx, q1⟩
    · exact q1.elim
  · refine ha.mono _ _ _ _ _ (fun τ g1 q1 => ?_) he q
    split at q1
    · rename_i b
      cases b with
      | true =>
        exact hq _ _ q1
      | false =>
        exact hb.mono _ _ _ _ _ hq he q1
    · exact q1.elim
theorem d_not (ha : DE X W a ta) : DE X W (.UnaryOp .Not a pos) (xNotV ta) := by
  refine ⟨fun B => PE.imp (pe_not (ha.run B)) fun σ H Q ⟨Φ, lim, g, E, r, hx, q⟩ => ?_, fun g Q Q' E E' hq he q => ?_⟩
  · refine ⟨Φ, lim, g, E, r, hx, ha.mono _ _ _ _ _ (fun τ g1 q1 v H1 r1 => ?_) (fun _ _ _ z => z) q⟩
    split at q1
    · obtain rfl := r1.leaf
      exact ⟨_, rfl, q1 _ H1 r1.dropT.addLeaf⟩
    · exact q1.elim
  · refine ha.mono _ _ _ _ _ (fun τ g1 q1 => ?_) he q
    split at q1
    · exact hq _ _ q1
    · exact q1.elim
def xIte (t : DTT) (ta tb : DTE) : DTE := fun g Q E => t g (fun b g1 => ifB b (ta g1 Q E) (tb g1 Q E)) E
theorem d_ite (hc : DT X W c tA) (ha : DE X W a ta) (hb : DE X W b tb) : DE X W (.IfExp c a b pos) (xIte tA ta tb) := by
  refine ⟨fun B => PE.imp (pe_ifExp (hc.run B) (ha.run B) (hb.run B)) fun σ H Q ⟨Φ, lim, g, E, r, hx, q⟩ => ?_, fun g Q Q' E E' hq he q => hc.mono _ _ _ _ _ (fun b g1 q1 => ?_) he q⟩
  · refine ⟨Φ, lim, g, E, r, hx, hc.mono _ _ _ _ _ (fun b g1 q1 H1 r1 => ?_) (fun _ _ _ z => z) q⟩
    cases b with
    | true => exact ⟨Φ, lim, g1, E, r1, hx, q1⟩
    | false => exact ⟨Φ, lim, g1, E, r1, hx, q1⟩
  · cases b with
    | true => exact ha.mono _ _ _ _ _ hq he q1
    | false => exact hb.mono _ _ _ _ _ hq he q1
def aNil : DTA := fun g Q _ => Q [] g
def aCons (te : DTE) (t : DTA) : DTA := fun g Q E => te g (fun τ g1 => t g1 (fun τs g2 => Q (τ :: τs) g2) E) E
theorem da_nil : DA X W [] [] aNil := by
  refine ⟨fun B => PA.imp pa_nil fun σ H Q ⟨Φ, lim, g, E, r, hx, q⟩ => ?_, fun g Q Q' E E' hq he q => hq _ _ q⟩
  exact q [] H rfl trivial r
theorem da_cons {bs : List (Option Nat)} {t : DTA} (ha : DE X W e ta) (hr : DA X W es bs t) (hs : starEach (e :: es) X.env = (false, eval e X.env) :: starEach es X.env := by rfl) : DA X W (e :: es) (none :: bs) (aCons ta t) := by
  refine ⟨fun B => PA.imp (pa_cons (ha.run B) (hr.run B) hs) fun σ H Q h => ?_, fun g Q Q' E E' hq he q => ha.mono _ _ _ _ _ (fun τ g1 q1 => hr.mono _ _ _ _ _ (fun τs g2 q2 => hq _ _ q2) he q1) he q⟩
  obtain ⟨Φ, lim, g, E, r, hx, q⟩ := h
  refine ⟨Φ, lim, g, E, r, hx, ha.mono _ _ _ _ _ (fun τ g1 q1 v H1 r1 => ?_) (fun _ _ _ z => z) q⟩
  refine ⟨(v, τ) :: Φ, lim, g1, E, r1, hx, hr.mono _ _ _ _ _ (fun τs g2 q2 vs H2 hl hb r2 => ?_) (fun _ _ _ z => z) q1⟩
  refine q2 (v :: vs) H2 (by simp [hl]) hb ?_
  show RepG X.K B lim σ H2 g2 ((v, τ) :: (vs.zip τs ++ Φ))
  exact r2.perm List.perm_middle
theorem da_lend (j : Nat) {bs : List (Option Nat)} {t : DTA} (h : PE X e (tVar j)) (hr : DA X W es bs t) (hs : starEach (e :: es) X.env = (false, eval e X.env) :: starEach es X.env := by rfl) : DA X W (e :: es) (some j :: bs) (aCons (xMov j) t) := by
  refine ⟨fun B => PA.imp (pa_cons h (hr.run B) hs) fun σ H Q ⟨Φ, lim, g, E, r, hx, q⟩ => ?_, fun g Q Q' E E' hq he q => m_match (fun τ z => hr.mono _ _ _ _ _ (fun τs g2 q2 => hq _ _ q2) he z) q⟩
  unfold aCons xMov at q
  split at q
  · rename_i τ ht
    obtain ⟨v, hv, r'⟩ := r.move ht
    refine ⟨v, hv, (v, τ) :: Φ, lim, _, E, r', hx, hr.mono _ _ _ _ _ (fun τs g2 q2 vs H2 hl hb r2 => ?_) (fun _ _ _ z => z) q⟩
    refine q2 (v :: vs) H2 (by simp [hl]) ⟨hv, hb⟩ ?_
    show RepG X.K B lim σ H2 g2 ((v, τ) :: (vs.zip τs ++ Φ))
    exact r2.perm List.perm_middle
  · exact q.elim
def xLst (t : DTA) : DTE := fun g Q E => t g (fun τs g1 => τs.length ≤ sizeLine ∧ Q (.node true .lst τs) g1) E
def xTup (t : DTA) : DTE := fun g Q E => t g (fun τs g1 => τs.length ≤ sizeLine ∧ Q (.node true .tup τs) g1) E
theorem make_of {K : PySem.W.Frag} {B : Bs} {lim : List Addr} {σ : St} {H : Hp} {g : Ev} {Φ : Its} {vs : List V} {τs : List T} (s : Sh) (hl : vs.length = τs.length) (r : RepG K B lim σ H g (vs.zip τs ++ Φ)) {p : Addr} (hp : H p = none) :
    RepG K B lim σ (upd H p (s.mk p vs)) g ((.ref p, .node true s τs) :: Φ) := by
  have q := r.make (s := s) hp
  rwa [List.map_fst_zip (by omega), List.map_snd_zip (by omega)] at q
theorem d_lst {bs : List (Option Nat)} {t : DTA} (h : DA X W es bs t) : DE X W (.List es pos) (xLst t) := by
  refine ⟨fun B => PE.imp (pe_lst (h.run B)) fun σ H Q ⟨Φ, lim, g, E, r, hx, q⟩ => ?_, fun g Q Q' E E' hq he q => h.mono _ _ _ _ _ (fun τs g1 q1 => ⟨q1.1, hq _ _ q1.2⟩) he q⟩
  exact ⟨Φ, lim, g, E, r, hx, h.mono _ _ _ _ _ (fun τs g1 q1 vs H1 hl _ r1 => ⟨by rw [hl]; exact q1.1, fun p hp => q1.2 _ _ (make_of .lst hl r1 hp)⟩) (fun _ _ _ z => z) q⟩
theorem d_tup {x1} {bs : List (Option Nat)} {t : DTA} (h : DA X W es bs t) : DE X W (.Tuple es x1 pos) (xTup t) := by
  refine ⟨fun B => PE.imp (pe_tup (h.run B)) fun σ H Q ⟨Φ, lim, g, E, r, hx, q⟩ => ?_, fun g Q Q' E E' hq he q => h.mono _ _ _ _ _ (fun τs g1 q1 => ⟨q1.1, hq _ _ q1.2⟩) he q⟩
  exact ⟨Φ, lim, g, E, r, hx, h.mono _ _ _ _ _ (fun τs g1 q1 vs H1 hl _ r1 => ⟨by rw [hl]; exact q1.1, fun p hp => q1.2 _ _ (make_of .tup hl r1 hp)⟩) (fun _ _ _ z => z) q⟩
theorem kept_refl {σ : St} : Kept m σ σ := ⟨rfl, fun _ _ => rfl⟩
theorem Kept.trans {σ σ1 σ2 : St} (h : Kept m σ σ1) (h' : Kept m σ1 σ2) : Kept m σ σ2 := ⟨h'.1.trans h.1, fun i hi => (h'.2 i hi).trans (h.2 i hi)⟩
theorem Kept.set {σ σ1 : St} {i : Nat} {x : Option V} (h : Kept m σ σ1) (hi : m i = false) : Kept m σ (σ1.set i x) := ⟨by rw [List.length_set]; exact h.1, fun j hj => by
  rw [List.getElem?_set_ne (fun e => by rw [e, hj] at hi; cases hi)]
  exact h.2 j hj⟩
theorem RepG.put' {K : PySem.W.Frag} {B : Bs} {lim : List Addr} {σ : St} {H : Hp} {g : Ev} {Φ : Its} {i : Nat} {v : V} {t : T} (h : RepG K B lim σ H g ((v, t) :: Φ)) : RepG K B lim (σ.set i (some v)) H (g.set i (some t)) Φ := by
  by_cases hi : i < σ.length
  · exact h.put hi
  · have e1 : σ.set i (some v) = σ := List.set_eq_of_length_le (by omega)
    have e2 : g.set i (some t) = g := List.set_eq_of_length_le (by rw [← h.len]; omega)
    rw [e1, e2]
    exact h.dropT
theorem RepG.ret {K : PySem.W.Frag} {B : Bs} {lim : List Addr} {σ : St} {H : Hp} {g : Ev} {Φ : Its} {x : V × T} (h : RepG K B lim σ H g (x :: Φ)) : RepG K B [] σ H g [x] :=
  ((h.perm (Ψ := Φ ++ [x]) (by
    have := (List.perm_append_comm (l₁ := [x]) (l₂ := Φ))
    exact this)).dropTs).lim0
theorem DS.mk' {st : Stmt} {t : DTS} {tt : Bs → St → TS} (h : ∀ B σ0, PS X st (tt B σ0))
    (hr : ∀ B σ0 D σ H Φ lim g E, RepG X.K B lim σ H g Φ → Kept m σ0 σ → (∀ σ, Kept m σ0 σ → liftX X.K B W σ E) → t (low X.K B m σ0 lim Φ D E) g → tt B σ0 D σ H) (mono : ∀ D D' g, D.Le D' → t D g → t D' g) : DS X W m st t :=
  ⟨fun B σ0 => PS.imp (h B σ0) fun D σ H ⟨Φ, lim, g, E, r, hk, hx, q⟩ => hr B σ0 D σ H Φ lim g E r hk hx q, mono⟩
def sNext : DTS := fun D g => D.nx g
inductive Nx (u : DTS) (D : DEnds) (g : Ev) : Prop where
  | mk (h : u D g) : Nx u D g
theorem Nx.out {u : DTS} {D : DEnds} {g : Ev} : Nx u D g → u D g
  | ⟨h⟩ => h
def seqE (u : DTS) (D : DEnds) : DEnds := { D with nx := Nx u D }
def sSeq (t u : DTS) : DTS := fun D g => t (seqE u D) g
theorem le_nx {D D' : DEnds} (h : D.Le D') {f f' : Ev → Prop} (hf : ∀ g, f g → f' g) : DEnds.Le { D with nx := f } { D' with nx := f' } := ⟨hf, h.rt, h.ex, h.bk, h.ct⟩
theorem dss_nil : DSs X W m [] sNext := ⟨fun B σ0 => PSs.imp pss_nil fun D σ H ⟨Φ, lim, g, E, r, hk, hx, q⟩ => q σ H r hk, fun D D' g h q => h.nx g q⟩
theorem dss_cons {st : Stmt} {rest : List Stmt} {t u : DTS} (h1 : DS X W m st t) (h2 : DSs X W m rest u) : DSs X W m (st :: rest) (sSeq t u) := by
  refine ⟨fun B σ0 => PSs.imp (pss_cons (h1.run B σ0) (h2.run B σ0)) fun D σ H ⟨Φ, lim, g, E, r, hk, hx, q⟩ => ?_, fun D D' g h q => h1.mono _ _ _ (le_nx h fun g' q' => ⟨h2.mono _ _ _ h q'.out⟩) q⟩
  exact ⟨Φ, lim, g, E, r, hk, hx, h1.mono { low X.K B m σ0 lim Φ D E with nx := Nx u (low X.K B m σ0 lim Φ D E) } _ _ ⟨fun g1 q1 σ1 H1 r1 hk1 => ⟨Φ, lim, g1, E, r1, hk1, hx, q1.out⟩, fun _ _ z => z, fun _ _ _ z => z, fun _ z => z, fun _ z => z⟩ q⟩
theorem dss_one {st : Stmt} {t : DTS} (h1 : DS X W m st t) : DSs X W m [st] t := ⟨fun B σ0 => pss_one (h1.run B σ0), h1.mono⟩
theorem ds_pass : DS X W m (.Pass pos) sNext := .mk' (fun _ _ => ps_pass) (fun B σ0 D σ H Φ lim g E r hk hx q => q σ H r hk) fun D D' g h q => h.nx g q
def sBrk : DTS := fun D g => D.bk g
def sCont : DTS := fun D g => D.ct g
theorem ds_break : DS X W m (.Break pos) sBrk := .mk' (fun _ _ => ps_break) (fun B σ0 D σ H Φ lim g E r hk hx q => q σ H r hk) fun D D' g h q => h.bk g q
theorem ds_continue : DS X W m (.Continue pos) sCont := .mk' (fun _ _ => ps_continue) (fun B σ0 D σ H Φ lim g E r hk hx q => q σ H r hk) fun D D' g h q => h.ct g q
def sSet (own : Bool) (i : Nat) (te : DTE) : DTS := fun D g => te g (fun τ g1 => D.nx (g1.set i (some (if own = true then τ else frz τ)))) D.ex
theorem ds_set {i : Nat} {x : Str} {pos' : Pos} (own : Bool) (hN : X.N.Nodup) (hi : X.N[i]? = some x) (hx : Loc X.env.scope x) (he : DE X W e te) (hm : m i = false) (hs : swapsWith e (some (.Name x pos')) pos.line X.env = pure false := by rfl)
    (hf : X.fn x = true ∨ X.env.scope.names.lookup x = some .local := by first | exact .inl rfl | exact .inr rfl | assumption) : DS X W m (.Assign [.Name x pos'] e pos) (sSet own i te) := by
  refine .mk' (fun B σ0 => ps_set hN hi hx (he.run B) hs hf) (fun B σ0 D σ H Φ lim g E r hk hX q => ?_) fun D D' g h q => he.mono _ _ _ _ _ (fun τ g1 q1 => h.nx _ q1) h.ex q
  refine ⟨Φ, lim, g, E, r, hX σ hk, he.mono _ _ _ _ _ (fun τ g1 q1 v H1 r1 => ?_) (fun _ _ _ z => z) q⟩
  refine q1 (σ.set i (some v)) H1 ?_ (hk.set hm)
  cases own with
  | true => exact r1.put'
  | false => exact r1.freezeT.put'
def sDrop (te : DTE) : DTS := fun D g => te g (fun _ g1 => D.nx g1) D.ex
theorem ds_expr (he : DE X W e te) (hs : swapsWith e none pos.line X.env = pure false := by rfl) : DS X W m (.Expr e pos) (sDrop te) := by
  refine .mk' (fun B σ0 => ps_expr (he.run B) hs) (fun B σ0 D σ H Φ lim g E r hk hX q => ?_) fun D D' g h q => he.mono _ _ _ _ _ (fun τ g1 q1 => h.nx _ q1) h.ex q
  exact ⟨Φ, lim, g, E, r, hX σ hk, he.mono _ _ _ _ _ (fun τ g1 q1 v H1 r1 => q1 σ H1 r1.dropT hk) (fun _ _ _ z => z) q⟩
def sRet (te : DTE) : DTS := fun D g => te g D.rt D.ex
theorem ds_ret (he : DE X W e te) : DS X W m (.Return (some e) pos) (sRet te) := by
  refine .mk' (fun B σ0 => ps_ret (he.run B)) (fun B σ0 D σ H Φ lim g E r hk hX q => ?_) fun D D' g h q => he.mono _ _ _ _ _ h.rt h.ex q
  exact ⟨Φ, lim, g, E, r, hX σ hk, he.mono _ _ _ _ _ (fun τ g1 q1 v H1 r1 => q1 v σ H1 r1.ret hk) (fun _ _ _ z => z) q⟩
def sRetN : DTS := fun D g => D.rt (.leaf .non) g
theorem ds_retN : DS X W m (.Return none pos) sRetN := .mk' (fun _ _ => ps_retN) (fun B σ0 D σ H Φ lim g E r hk hx q => q .non σ H (RepG.ret r.addLeaf) hk) fun D D' g h q => h.rt _ g q
def sIf (c : DTT) (t u : DTS) : DTS := fun D g => c g (fun b g1 => ifB b (t D g1) (u D g1)) D.ex
theorem ds_if {sa sb : List Stmt} {t u : DTS} (hc : DT X W c tA) (ha : DSs X W m sa t) (hb : DSs X W m sb u) : DS X W m (.If c sa sb pos) (sIf tA t u) := by
  refine .mk' (fun B σ0 => ps_if (hc.run B) (ha.run B σ0) (hb.run B σ0)) (fun B σ0 D σ H Φ lim g E r hk hX q => ?_) fun D D' g h q => hc.mono _ _ _ _ _ (fun b g1 q1 => ?_) h.ex q
  · refine ⟨Φ, lim, g, E, r, hX σ hk, hc.mono _ _ _ _ _ (fun b g1 q1 H1 r1 => ?_) (fun _ _ _ z => z) q⟩
    cases b with
    | true => exact ⟨Φ, lim, g1, E, r1, hk, hX, q1⟩
    | false => exact ⟨Φ, lim, g1, E, r1, hk, hX, q1⟩
  · cases b with
    | true => exact ha.mono _ _ _ h q1
    | false => exact hb.mono _ _ _ h q1
def sRaise (c : Value) : DTS := fun D g => D.ex c [] g
theorem ds_raise {C : Addr} {bmB : List Value} {Bn newId initId : String} {x t : Str} {j : Nat} {p p2 p3 : Pos} {n : Nat} (hc : X.calm = true) (tk : Takes X (upW X.mg W)) (F : ExcBaseFacts Bn newId initId bmB) (q : PySem.W.excIn X.K C bmB newId = true) (gC : X.mg x = some (.ref C)) (hn : ckN n = x)
    (kC : PySem.W.keepIn X.K (.ref C) = true) (r : Raises X (.ref C)) (hg : Gl X x) (hdb : (x == ("__debug__" : Str)) = false := by decide) :
    DS X W m (.Raise (some (.Call (.Name x p) [.Constant (.str t) j p2] [] p3)) none pos) (sRaise (cxN n)) :=
  .mk' (fun B σ0 => ps_raise hc tk (pmk_own F q gC kC r hg hdb)) (fun B σ0 D σ H Φ lim g E rp hk hX q => ⟨cxN n, ⟨n, rfl, by rw [hn]; exact gC⟩, hX σ hk _ [] _ _ _ rp.only rfl q⟩) fun D D' g h q => h.ex _ _ g q
end
end DL
set_option Elab.async false
set_option linter.all false
set_option maxRecDepth 100000
set_option maxHeartbeats 4000000
namespace DL
open PySem L2
abbrev DSp := List T → (T → List T → Prop) → (Value → List (Str × V) → List T → Prop) → Prop
def MonoD (m : DSp) : Prop := ∀ ts Q Q' E E', (∀ t us, Q t us → Q' t us) → (∀ c fs us, E c fs us → E' c fs us) → m ts Q E → m ts Q' E'
def pick {α : Type} : List Bool → List α → List α
  | true :: bs, x :: xs => x :: pick bs xs
  | false :: bs, _ :: xs => pick bs xs
  | _, _ => []
def Aft (K : PySem.W.Frag) (F : Addr → Prop) (fp : List Addr) (H : Hp) (ws : List V) (H' : Hp) (us : List T) (Φ : Its) : Prop :=
  ∃ (F' : Addr → Prop) (f' : List Addr), ws.length = us.length ∧ OwnZ K F' H' (ws.zip us ++ Φ) f' ∧ Fine ⟨H, F, fp⟩ F' H' f'
def spD (K : PySem.W.Frag) (mg : Str → Option Value) (fl : List Bool) (m : DSp) : Sp := fun vs H Q E => ∃ (ts : List T) (F : Addr → Prop) (fp : List Addr), OwnL K F H vs ts fp ∧ fp.Nodup ∧ (∀ a ∈ fp, ¬ F a) ∧ (∀ a, F a → H a ≠ none) ∧ vs.length = fl.length ∧
  m ts (fun t us => ∀ v H', Aft K F fp H (pick fl vs) H' us [(v, t)] → Q v H') (fun c fs us => ∀ d H' cv, sym mg c cv → Aft K F fp H (pick fl vs) H' us [] → XD d fs H' → E cv d H')
def restore : Ev → List (Option Nat) → List T → Ev
  | g, none :: bs, us => restore g bs us
  | g, some j :: bs, u :: us => restore (g.set j (some u)) bs us
  | g, _, _ => g
section
variable {K : PySem.W.Frag} {B : Bs} {lim : List Addr} {σ : St} {H H' : Hp} {g : Ev} {Φ Ψ : Its}
theorem call_frame {F F' : Addr → Prop} {zs : Its} {fpA fpR f' : List Addr} (en : EnvIs σ g zs) (oR : OwnZ K F H (zs ++ Φ) fpR) (f : Fine B F H (lim ++ (fpA ++ fpR))) (hl : ∀ a ∈ lim, H a ≠ none)
    (o' : OwnZ K F' H' Ψ f') (fn : Fine ⟨H, F, fpA⟩ F' H' f') : RepG K B lim σ H' g (Ψ ++ Φ) := by
  have nd := f.nd
  have ndA : ∀ a, a ∈ fpA → a ∉ lim ∧ a ∉ fpR := fun a ha => by
    refine ⟨fun z => (List.nodup_append.mp nd).2.2 a z a (List.mem_append_left _ ha) rfl, fun z => ?_⟩
    exact (List.nodup_append.mp (List.nodup_append.mp nd).2.1).2.2 a ha a z rfl
  have keepF : ∀ a o, H a = some o → a ∉ fpA → H' a = some o := fn.keep
  have oR' : OwnZ K F' H' (zs ++ Φ) fpR := oR.mono fn.inc (fun a ha o e => keepF a o e fun z => by
    rcases ha with q | q
    · exact f.off a (List.mem_append_right _ (List.mem_append_left _ z)) q
    · exact (ndA a z).2 q) fn.keepT
  have trk : ∀ a, a ∈ lim ∨ a ∈ fpR → H a ≠ none := fun a ha => ha.elim (hl a) (oR.tracked a)
  have notF' : ∀ a, a ∈ lim ∨ a ∈ fpR → ¬ F' a := fun a ha q => by
    rcases fn.newF a q with q | q | q
    · exact f.off a (by rcases ha with z | z <;> simp [z]) q
    · exact ha.elim (ndA a q).1 (ndA a q).2
    · exact trk a ha q
  have keepL : ∀ a, a ∈ lim → H' a ≠ none := fun a ha => by
    cases q : H a with
    | none => exact absurd q (hl a ha)
    | some o => rw [keepF a o q fun z => (ndA a z).1 ha]; exact nofun
  have old : ∀ a, a ∈ f' → a ∉ lim ∧ a ∉ fpR := fun a ha => by
    rcases fn.newO a ha with q | q
    · exact ndA a q
    · exact ⟨fun z => trk a (.inl z) q, fun z => trk a (.inr z) q⟩
  have fresh : ∀ a, H a = none → a ∈ B.fp0 ∨ B.H0 a = none := fun a q => by
    by_cases hb : a ∈ B.fp0
    · exact .inl hb
    · refine .inr ?_
      cases z : B.H0 a with
      | none => rfl
      | some o =>
        have := f.keep a o z hb
        rw [q] at this; cases this
  have oldA : ∀ a, a ∈ fpA → a ∈ B.fp0 ∨ B.H0 a = none := fun a ha => f.newO a (List.mem_append_right _ (List.mem_append_left _ ha))
  have fin : Fine B F' H' (lim ++ (f' ++ fpR)) := by
    refine ⟨?_, fun a z => ?_, fn.trk, fun a z => fn.inc a (f.inc a z), fun a o e na => ?_, fun a z => ?_, fun a z => ?_, fun a vs e => fn.keepT a vs (f.keepT a vs e)⟩
    · refine List.nodup_append.mpr ⟨(List.nodup_append.mp nd).1, List.nodup_append.mpr ⟨fn.nd, (List.nodup_append.mp (List.nodup_append.mp nd).2.1).2.1, fun a ha b hb e => ?_⟩, fun a ha b hb e => ?_⟩
      · subst e
        exact (old a ha).2 hb
      · subst e
        rcases List.mem_append.mp hb with q | q
        · exact (old a q).1 ha
        · exact (List.nodup_append.mp nd).2.2 a ha a (List.mem_append_right _ q) rfl
    · rcases List.mem_append.mp z with q | q
      · exact notF' a (.inl q)
      · rcases List.mem_append.mp q with q | q
        · exact fn.off a q
        · exact notF' a (.inr q)
    · refine keepF a o (f.keep a o e na) fun q => ?_
      rcases oldA a q with k | k
      · exact na k
      · rw [e] at k; cases k
    · rcases fn.newF a z with q | q | q
      · exact f.newF a q
      · exact .inr (oldA a q)
      · exact .inr (fresh a q)
    · rcases List.mem_append.mp z with q | q
      · exact f.newO a (List.mem_append_left _ q)
      · rcases List.mem_append.mp q with q | q
        · rcases fn.newO a q with k | k
          · exact oldA a k
          · exact fresh a k
        · exact f.newO a (List.mem_append_right _ (List.mem_append_right _ q))
  have oz : OwnZ K F' H' (Ψ ++ (zs ++ Φ)) (f' ++ fpR) := o'.append oR'
  refine rep_items (ds := []) en oz fin keepL ?_
  rw [List.nil_append, ← List.append_assoc, ← List.append_assoc]
  exact List.Perm.append_right _ List.perm_append_comm
theorem RepG.restore : ∀ {vs : List V} {bs : List (Option Nat)} {us : List T} {g : Ev}, BackOk σ vs bs → (pick (bs.map Option.isSome) vs).length = us.length → RepG K B lim σ H g ((pick (bs.map Option.isSome) vs).zip us ++ Φ) → RepG K B lim σ H (restore g bs us) Φ
  | [], [], us, g, _, hl, h => by
    cases us with
    | nil => exact h
    | cons => cases hl
  | v :: vs, none :: bs, us, g, hb, hl, h => RepG.restore (vs := vs) (bs := bs) hb hl h
  | v :: vs, some j :: bs, [], g, hb, hl, h => by cases hl
  | v :: vs, some j :: bs, u :: us, g, hb, hl, h => by
    have h1 : RepG K B lim σ H g ((v, u) :: ((pick (bs.map Option.isSome) vs).zip us ++ Φ)) := h
    exact RepG.restore (vs := vs) (bs := bs) hb.2 (by simpa [pick] using hl) (h1.back hb.1)
  | [], _ :: _, _, _, hb, _, _ => by
    exact False.elim hb
  | _ :: _, [], _, _, hb, _, _ => False.elim hb
end
structure FnG (P : Program) (w : World) (K : PySem.W.Frag) (mg : Str → Option Value) (base : Heap) (k : Nat) (f : Addr) (fd : FuncData) (ps : List Str) (sp : Sp) : Prop where
  len : ∀ vs H Q E, sp vs H Q E → vs.length = ps.length
  run : ∀ (A : Around) (outer : List Env) (s : Shared) (H : Hp) (args : Args) (us : List Value) (vs : List V) (Q : VK) (E : XK), Room k A → A.guards = some [] → Env0 P w K mg base A outer s H →
    PySem.BindsTo s fd args (ps.zip us) → Vals vs us → sp vs H Q E → codeAny (model P w) A (.call (.ref f) args) (CR (L2.CX P w) outer P w H s Q E) s
theorem FnG.mono {P : Program} {w : World} {K : PySem.W.Frag} {mg : Str → Option Value} {base : Heap} {j k : Nat} {f : Addr} {fd : FuncData} {ps : List Str} {sp : Sp} (F : FnG P w K mg base j f fd ps sp) (h : j ≤ k) : FnG P w K mg base k f fd ps sp :=
  ⟨F.len, fun A outer s H args us vs Q E hr => F.run A outer s H args us vs Q E (hr.mono h)⟩
theorem fnG_of {P : Program} {w : World} {K : PySem.W.Frag} {mg : Str → Option Value} {base : Heap} {x qual : Str} {st : Stmt} {f : Addr} {fd : FuncData} {N ps : List Str} {k : Nat} {sp : Sp} (F : Fun K x qual st f fd) (S : FnScope N ps (defScope st)) (len : ∀ vs H Q E, sp vs H Q E → vs.length = ps.length)
    (hbody : ∀ (cdv : Value) (A : Around) (outer : List Env) (s : Shared) (H : Hp) (vs : List V) (Q : VK) (E : XK), Room k (A.deeper (PyProof.Rows.envOfC qual (defScope st) s.heap.objs.size f cdv)) → A.guards = some [] → sp vs H Q E →
      ∃ t, PSs (cxOf (L2.CX P w) P w K mg base N qual (defScope st) f cdv A outer s H E) (defBody st) t ∧ t { nx := fun _ H' => Q .non H', rt := Q } (L2.start N vs) H) : FnG P w K mg base (k + 1) f fd ps sp := by
  obtain ⟨oc, od, kV, doc, pm, an, cdv, ct, osl, rfl, lk, hcd⟩ := F.ex
  refine ⟨len, fun A outer s H args us vs Q E hr hg e0 hb r hsp => ?_⟩
  have hlen := len _ _ _ _ hsp
  have kb : ∀ b o, base.get? b = some o → s.heap.get? b = some o := fun b o e => (e0.bs b o e).1
  have KX : K.In s.heap := e0.mod.kin.keeps kb
  have nl : s.heap.NoLimit := e0.mod.nolimit.keeps kb
  refine codeAny_call_function hr.depth (KX _ _ lk) rfl S.co S.gen rfl (PySem.W.codeRec_of KX hcd) (hb _ _ _ _ ?_)
  refine wpAny_newFunctionEnv_cells S.kind (fun y hy => ?_) fun env he s1 xx => ?_
  · obtain ⟨y1, y2⟩ := y
    rcases S.par y1 (List.of_mem_zip hy).1 with z | z
    · exact .inl z
    · exact .inr ⟨z, PySem.W.cellsFrom_some _ _ _ (.inl z)⟩
  subst he
  refine ⟨nl.keeps xx.toInCall.keep, codeAny_func ?_⟩
  obtain ⟨t, ht, hq⟩ := hbody cdv A outer s H vs Q E (hr.deeper _) hg hsp
  have I := inv_start (CX := L2.CX P w) (E := E) S hr.hd e0 hlen r xx
  refine wpAny_mono (ht.run [] s1 _ H _ I hq) (fun fl s' z => ?_) fun _ _ z => z
  match fl, z with
  | .ret u, ⟨v, σ', H', J, rv, q⟩ => exact ⟨v, H', J.os, J.bare, J.base, J.hok, rv, q⟩
  | .next, ⟨σ', H', J, q⟩ => exact ⟨.non, H', J.os, J.bare, J.base, J.hok, rfl, q⟩
  | .brk, ⟨_, _, _, q⟩ => exact q.elim
  | .cont, ⟨_, _, _, q⟩ => exact q.elim
section
variable {X : Cx} {k : Nat} {f : Addr} {fd : FuncData} {ps : List Str} {sp : Sp} {E : St → XK} {x : Str} {p pos : Pos} {e : Expr} {es : List Expr} {t : TA}
theorem run_fnG {pins : List (Addr × Obj)} {σ : St} {H : Hp} {s : Shared} {Q : VK} {us : List Value} {vs : List V} (F : FnG X.prog X.w X.K X.mg X.base k f fd ps sp) (hr : Room k X.A) (hgd : X.A.guards = some []) (hb : Binds X.K fd ps [])
    (hx : PassesAt (L2.CX X.prog X.w) X σ (E σ)) (I : Inv X pins σ H s) (r : Vals vs us) (h : sp vs H Q (E σ)) : wpAny (model X.prog X.w) X.A (call (.ref f) us) (EP X pins σ Q) X.xe s := by
  have b := hb s us I.kIn (by rw [List.append_nil, ← r.length]; exact F.len _ _ _ _ h)
  rw [List.append_nil] at b
  refine wpAny_call (codeAny_mono (F.run X.A X.stack s H ⟨us, []⟩ us vs Q (E σ) hr hgd I.env0 b r h) fun rr s' z => ?_)
  match rr, z with
  | .error e, z => exact hx pins H s e s' I z
  | .ok (.ret u), z => exact I.after z
theorem pe_callG (F : FnG X.prog X.w X.K X.mg X.base k f fd ps sp) (hr : Room k X.A) (hgd : X.A.guards = some []) (hg : Gl X x) (hm : X.mg x = some (.ref f)) (hk : PySem.W.keepIn X.K (.ref f) = true) (hb : Binds X.K fd ps [])
    (hx : ∀ σ, PassesAt (L2.CX X.prog X.w) X σ (E σ)) (ha : PA X (e :: es) t) (hdb : (x == ("__debug__" : Str)) = false := by decide) (he : starEach (e :: es) X.env = (false, eval e X.env) :: starEach es X.env := by rfl)
    (hpl : (backTo pos (starEach es X.env)).any (·.1) = false := by rfl) : PE X (.Call (.Name x p) (e :: es) [] pos) (tCallS sp E t) :=
  ⟨fun pins s σ H Q I h => wpAny_Call_Name_kw (ld_glob I hg hm (PySem.W.callWith_K (h₀ := X.base) I.ok.mod.kin hk (thn (ha.run pos pins s σ H _ I h) fun us s1 ⟨vs, H1, I1, r, q⟩ => ⟨I1.kIn, run_fnG F hr hgd hb (hx σ) I1 r q⟩) he hpl) hdb)⟩
end
section
variable {X : Cx} {W : WX} {m : Nat → Bool} {a b c e : Expr} {es : List Expr} {ta tb tc te : DTE} {t : DTA} {bs : List (Option Nat)} {pos p : Pos}
def xCall (m : DSp) (bs : List (Option Nat)) (t : DTA) : DTE := fun g Q E => t g (fun τs g1 => m τs (fun τ us => Q τ (restore g1 bs us)) (fun c fs us => E c fs (restore g1 bs us))) E
theorem backOk_len {σ : St} : ∀ {vs : List V} {bs : List (Option Nat)}, BackOk σ vs bs → vs.length = bs.length
  | [], [], _ => rfl
  | v :: vs, none :: bs, h => by simp [backOk_len (vs := vs) (bs := bs) h]
  | v :: vs, some j :: bs, h => by simp [backOk_len (vs := vs) (bs := bs) h.2]
  | [], _ :: _, h => False.elim h
  | _ :: _, [], h => False.elim h
theorem call_sp {B : Bs} {σ : St} {H : Hp} {Φ : Its} {lim : List Addr} {g1 : Ev} {E : XP} {sp : DSp} {vs : List V} {τs : List T} {Q : VK} (hm : MonoD sp) (hx : liftX X.K B W σ E) (hl : vs.length = τs.length) (hb : BackOk σ vs bs)
    (r : RepG X.K B lim σ H g1 (vs.zip τs ++ Φ)) (q : sp τs (fun τ us => ∀ v H', RepG X.K B lim σ H' (restore g1 bs us) ((v, τ) :: Φ) → Q v H') (fun c fs us => E c fs (restore g1 bs us))) :
    spD X.K X.mg (bs.map Option.isSome) sp vs H Q (WE (upW X.mg W) σ) := by
  obtain ⟨F, zs, fp, en, oz, f, hlim⟩ := r
  have p1 : (zs ++ (vs.zip τs ++ Φ)).Perm (vs.zip τs ++ (zs ++ Φ)) := by
    rw [← List.append_assoc, ← List.append_assoc]
    exact List.Perm.append_right _ List.perm_append_comm
  obtain ⟨fp', pf, o'⟩ := oz.perm p1
  obtain ⟨fpA, fpR, rfl, oA, oR⟩ := o'.split
  have f' := f.perm (List.Perm.append_left lim pf)
  have nd := (List.nodup_append.mp f'.nd).2.1
  refine ⟨τs, F, fpA, OwnL.unzip hl oA, (List.nodup_append.mp nd).1, fun a ha => f'.off a (List.mem_append_right _ (List.mem_append_left _ ha)), f'.trk, by rw [List.length_map]; exact backOk_len hb, ?_⟩
  refine hm _ _ _ _ _ (fun τ us q1 v H' aft => ?_) (fun c fs us q1 d H' cv hs aft xd => ?_) q
  · obtain ⟨F', f2, hlen, o2, fn⟩ := aft
    have r2 := call_frame en oR f' hlim o2 fn
    rw [List.append_assoc] at r2
    exact q1 v H' (RepG.restore hb hlen r2)
  · obtain ⟨F', f2, hlen, o2, fn⟩ := aft
    have r2 := call_frame en oR f' hlim o2 fn
    rw [List.append_assoc] at r2
    exact ⟨c, hs, hx c fs _ d H' (RepG.restore hb hlen r2).only xd q1⟩
theorem xCall_mono {sp : DSp} (hm : MonoD sp) (ht : ∀ g Q Q' E E', (∀ τs g', Q τs g' → Q' τs g') → (∀ c fs g', E c fs g' → E' c fs g') → t g Q E → t g Q' E') :
    ∀ g Q Q' E E', (∀ τ g', Q τ g' → Q' τ g') → (∀ c fs g', E c fs g' → E' c fs g') → xCall sp bs t g Q E → xCall sp bs t g Q' E' := fun g Q Q' E E' hq he q =>
  ht _ _ _ _ _ (fun τs g1 q1 => hm _ _ _ _ _ (fun τ us z => hq _ _ z) (fun c fs us z => he _ _ _ z) q1) he q
theorem d_call {sp : DSp} {k : Nat} {f : Addr} {fd : FuncData} {ps : List Str} {x : Str} {fl : List Bool} (F : FnG X.prog X.w X.K X.mg X.base k f fd ps (spD X.K X.mg fl sp)) (hm : MonoD sp) (hr : Room k X.A) (hgd : X.A.guards = some []) (hg : Gl X x) (hmg : X.mg x = some (.ref f))
    (hk : PySem.W.keepIn X.K (.ref f) = true) (hb : Binds X.K fd ps []) (tk : Takes X (upW X.mg W)) (ha : DA X W (e :: es) bs t) (hfl : bs.map Option.isSome = fl := by rfl) (hdb : (x == ("__debug__" : Str)) = false := by decide)
    (he : starEach (e :: es) X.env = (false, eval e X.env) :: starEach es X.env := by rfl) (hpl : (backTo pos (starEach es X.env)).any (·.1) = false := by rfl) : DE X W (.Call (.Name x p) (e :: es) [] pos) (xCall sp bs t) := by
  subst hfl
  refine ⟨fun B => PE.imp (pe_callG F hr hgd hg hmg hk hb (fun σ => passAt tk σ) (ha.run B) hdb he hpl) fun σ H Q ⟨Φ, lim, g, E, r, hx, q⟩ => ?_, xCall_mono hm ha.mono⟩
  exact ⟨Φ, lim, g, E, r, hx, ha.mono _ _ _ _ _ (fun τs g1 q1 vs H1 hl hb r1 => call_sp hm hx hl hb r1 (hm _ _ _ _ _ (fun τ us z => z) (fun _ _ _ z => z) q1)) (fun _ _ _ z => z) q⟩
end
def outs : List Nat → Ev → Option (List T)
  | [], _ => some []
  | i :: is, g => match g[i]? with
    | some (some t) => (outs is (g.set i none)).map (t :: ·)
    | _ => none
def slots : Nat → List Bool → List Nat
  | _, [] => []
  | n, true :: bs => n :: slots (n + 1) bs
  | n, false :: bs => slots (n + 1) bs
def mutOf (fl : List Bool) : Nat → Bool := fun i => fl.getD i false
def svs : List Nat → St → Option (List V)
  | [], _ => some []
  | i :: is, σ => match σ[i]? with
    | some (some v) => (svs is σ).map (v :: ·)
    | _ => none
theorem svs_congr {σ σ' : St} : ∀ {is : List Nat}, (∀ i ∈ is, σ'[i]? = σ[i]?) → svs is σ' = svs is σ
  | [], _ => rfl
  | i :: is, h => by
    unfold svs
    rw [h i List.mem_cons_self, svs_congr fun j hj => h j (List.mem_cons_of_mem _ hj)]
theorem RepG.outs {K : PySem.W.Frag} {B : Bs} {lim : List Addr} {σ : St} {H : Hp} : ∀ {is : List Nat} {g : Ev} {Φ : Its} {us : List T} {ws : List V}, outs is g = some us → svs is σ = some ws → RepG K B lim σ H g Φ →
    ∃ g', us.length = ws.length ∧ RepG K B lim σ H g' (ws.zip us ++ Φ)
  | [], g, Φ, us, ws, e, ew, h => by
    cases e
    cases ew
    exact ⟨g, rfl, h⟩
  | i :: is, g, Φ, us, ws, e, ew, h => by
    unfold DL.outs at e
    split at e
    · rename_i t ht
      cases eo : DL.outs is (g.set i none) with
      | none => rw [eo] at e; cases e
      | some us' =>
        rw [eo] at e
        cases e
        obtain ⟨v, hv, r1⟩ := h.move ht
        unfold svs at ew
        rw [hv] at ew
        cases em : svs is σ with
        | none => rw [em] at ew; cases ew
        | some ws' =>
          rw [em] at ew
          cases ew
          obtain ⟨g', hl, r2⟩ := RepG.outs (ws := ws') eo em r1
          refine ⟨g', by simp [hl], r2.perm ?_⟩
          exact List.perm_middle
    · cases e
theorem slots_get {rest : St} : ∀ {fl : List Bool} {n : Nat} {pre : St} {vs' : List V}, pre.length = n → vs'.length = fl.length → svs (slots n fl) (pre ++ vs'.map some ++ rest) = some (pick fl vs')
  | [], n, pre, vs', _, h => by
    have : vs' = [] := List.eq_nil_of_length_eq_zero h
    subst this
    rfl
  | b :: fl, n, pre, [], _, h => by cases h
  | true :: fl, n, pre, v :: vs', hp, h => by
    have ih := slots_get (rest := rest) (fl := fl) (n := n + 1) (pre := pre ++ [some v]) (vs' := vs') (by simp [hp]) (by simpa using h)
    have e1 : pre ++ (v :: vs').map some ++ rest = (pre ++ [some v]) ++ vs'.map some ++ rest := by simp
    rw [e1]
    have e2 : ((pre ++ [some v]) ++ vs'.map some ++ rest)[n]? = some (some v) := by
      subst hp
      simp
    show svs (n :: slots (n + 1) fl) _ = _
    unfold svs
    rw [e2, ih]
    rfl
  | false :: fl, n, pre, v :: vs', hp, h => by
    have ih := slots_get (rest := rest) (fl := fl) (n := n + 1) (pre := pre ++ [some v]) (vs' := vs') (by simp [hp]) (by simpa using h)
    have e1 : pre ++ (v :: vs').map some ++ rest = (pre ++ [some v]) ++ vs'.map some ++ rest := by simp
    rw [e1]
    exact ih
theorem slots_mem : ∀ {fl : List Bool} {n i : Nat}, i ∈ slots n fl → n ≤ i ∧ fl.getD (i - n) false = true
  | true :: fl, n, i, h => by
    rcases List.mem_cons.mp h with e | h
    · subst e
      simp
    · obtain ⟨h1, h2⟩ := slots_mem h
      refine ⟨by omega, ?_⟩
      have : i - n = (i - (n + 1)) + 1 := by omega
      rw [this]
      exact h2
  | false :: fl, n, i, h => by
    obtain ⟨h1, h2⟩ := slots_mem (fl := fl) (n := n + 1) h
    refine ⟨by omega, ?_⟩
    have : i - n = (i - (n + 1)) + 1 := by omega
    rw [this]
    exact h2
def startE (n : Nat) (ts : List T) : Ev := ts.map some ++ List.replicate (n - ts.length) none
def retD (fl : List Bool) (Q : T → List T → Prop) : T → Ev → Prop := fun τ g => match outs (slots 0 fl) g with
  | some us => Q τ us
  | none => False
def exD (fl : List Bool) (E : Value → List (Str × V) → List T → Prop) : XP := fun c fs g => match outs (slots 0 fl) g with
  | some us => E c fs us
  | none => False
def bodyEnds (fl : List Bool) (Q : T → List T → Prop) (E : Value → List (Str × V) → List T → Prop) : DEnds := { nx := fun g => retD fl Q (.leaf .non) g, rt := retD fl Q, ex := exD fl E }
theorem env_start {K : PySem.W.Frag} {F : Addr → Prop} {H : Hp} : ∀ {vs : List V} {ts : List T} {fp : List Addr}, OwnL K F H vs ts fp → ∀ k : Nat, EnvIs (vs.map some ++ List.replicate k none) (ts.map some ++ List.replicate k none) (vs.zip ts) := by
  intro vs ts fp h k
  have rep : ∀ k : Nat, EnvIs (List.replicate k none) (List.replicate k none) [] := fun k => by
    induction k with
    | zero => exact .nil
    | succ k ih => exact .skip ih
  have e := h.length
  clear h
  induction vs generalizing ts with
  | nil =>
    have : ts = [] := List.eq_nil_of_length_eq_zero e.symm
    subst this
    exact rep k
  | cons v vs ih =>
    cases ts with
    | nil => cases e
    | cons t ts => exact .have (ih (by simpa using e))
section
variable {P : Program} {w : World} {K : PySem.W.Frag} {mg : Str → Option Value} {base : Heap}
theorem fnD_of {x qual : Str} {st : Stmt} {f : Addr} {fd : FuncData} {N ps : List Str} {k : Nat} {sp : DSp} {fl : List Bool} (F : Fun K x qual st f fd) (S : FnScope N ps (defScope st)) (hfl : fl.length = ps.length)
    (hbody : ∀ (cdv : Value) (A : Around) (outer : List Env) (s : Shared) (H : Hp) (E : XK), Room k (A.deeper (PyProof.Rows.envOfC qual (defScope st) s.heap.objs.size f cdv)) → A.guards = some [] →
      ∃ t, DSs (cxOf (L2.CX P w) P w K mg base N qual (defScope st) f cdv A outer s H E) (fun x d _ H => ∀ cv, sym mg x cv → E cv d H) (mutOf fl) (defBody st) t ∧
        ∀ ts Q' E', ts.length = ps.length → sp ts Q' E' → t (bodyEnds fl Q' E') (startE N.length ts)) :
    FnG P w K mg base (k + 1) f fd ps (spD K mg fl sp) := by
  refine fnG_of F S (fun vs H Q E h => ?_) (fun cdv A outer s H vs Q E hr hgd h => ?_)
  · obtain ⟨ts, F, fp, o, _, _, _, hl, _⟩ := h
    omega
  · obtain ⟨ts, F0, fp, o, nd, off, trk, hl, hq⟩ := h
    obtain ⟨t, ht, hb⟩ := hbody cdv A outer s H E hr hgd
    have hlt : ts.length = ps.length := by rw [← o.length]; omega
    refine ⟨_, ht.run ⟨H, F0, fp⟩ (L2.start N vs), [], [], startE N.length ts, exD fl (fun c fs us => ∀ d H' cv, sym mg c cv → Aft K F0 fp H (pick fl vs) H' us [] → XD d fs H' → E cv d H'), ?_, kept_refl, ?_, ht.mono _ _ _ ?_ (hb ts _ _ hlt hq)⟩
    · refine ⟨F0, vs.zip ts, fp, ?_, ?_, ?_, fun _ z => nomatch z⟩
      · have := env_start o (N.length - vs.length)
        unfold L2.start startE
        rw [← o.length]
        exact this
      · rw [List.append_nil]
        exact o.zip
      · exact ⟨nd, off, trk, fun _ z => z, fun a o e _ => e, fun a z => .inl z, fun a z => .inl z, fun _ _ e => e⟩
    · -- exceptions
      intro σ hk c fs g d H' r xd q cv hs
      unfold exD at q
      split at q
      · rename_i us hus
        have hw : svs (slots 0 fl) σ = some (pick fl vs) := by
          have e1 := slots_get (rest := List.replicate (N.length - vs.length) none) (fl := fl) (n := 0) (pre := []) (vs' := vs) rfl hl
          rw [List.nil_append] at e1
          rw [← e1]
          refine svs_congr fun i hi => ?_
          have := (slots_mem hi).2
          exact hk.2 i (by unfold mutOf; simpa using this)
        obtain ⟨g', hlen, r'⟩ := r.outs hus hw
        obtain ⟨F', zs, f', en, oz, f, _⟩ := r'
        obtain ⟨f1, f2, rfl, _, o2⟩ := oz.split
        exact q d H' cv hs ⟨F', f2, hlen.symm, o2, f.sub (by rw [List.nil_append]; exact List.sublist_append_right _ _)⟩ xd
      · exact q.elim
    · have ret : ∀ τ g, retD fl (fun t us => ∀ v H', Aft K F0 fp H (pick fl vs) H' us [(v, t)] → Q v H') τ g → ∀ v σ' H', RepG K ⟨H, F0, fp⟩ [] σ' H' g [(v, τ)] → Kept (mutOf fl) (L2.start N vs) σ' → Q v H' := by
        intro τ g q v σ H' r hk
        unfold retD at q
        split at q
        · rename_i us hus
          have hw : svs (slots 0 fl) σ = some (pick fl vs) := by
            have e1 := slots_get (rest := List.replicate (N.length - vs.length) none) (fl := fl) (n := 0) (pre := []) (vs' := vs) rfl hl
            rw [List.nil_append] at e1
            rw [← e1]
            refine svs_congr fun i hi => ?_
            have := (slots_mem hi).2
            exact hk.2 i (by unfold mutOf; simpa using this)
          obtain ⟨g', hlen, r'⟩ := r.outs hus hw
          obtain ⟨F', zs, f', en, oz, f, _⟩ := r'
          obtain ⟨f1, f2, rfl, _, o2⟩ := oz.split
          exact q v H' ⟨F', f2, hlen.symm, o2, f.sub (by rw [List.nil_append]; exact List.sublist_append_right _ _)⟩
        · exact q.elim
      exact ⟨fun g q σ' H' r hk => ret _ g q .non σ' H' r.addLeaf hk, fun τ g q v σ' H' r hk => ret τ g q v σ' H' r hk, fun _ _ _ z => z, fun _ z => z.elim, fun _ z => z.elim⟩
end
end DL
set_option Elab.async false
set_option linter.all false
set_option maxRecDepth 100000
set_option maxHeartbeats 4000000
namespace DL
open PySem L2
section
variable {K : PySem.W.Frag} {B : Bs} {lim : List Addr} {σ : St} {H H' : Hp} {g : Ev} {Φ Ψ : Its}
theorem perm_at {α : Type} : ∀ {l : List α} {i : Nat} {x : α}, l[i]? = some x → ∃ r, l.Perm (x :: r)
  | [], _, _, h => by simp at h
  | a :: l, 0, x, h => by
    simp at h
    subst h
    exact ⟨l, .refl _⟩
  | a :: l, i + 1, x, h => by
    obtain ⟨r, p⟩ := perm_at (l := l) (i := i) (x := x) (by simpa using h)
    exact ⟨a :: r, (List.Perm.cons _ p).trans (List.Perm.swap _ _ _)⟩
theorem RepG.one {zs : Its} {i : Nat} {x : V × T} (h : RepG K B lim σ H g (zs ++ Φ)) (e : zs[i]? = some x) : RepG K B lim σ H g (x :: Φ) := by
  obtain ⟨r, p⟩ := perm_at e
  have h1 : RepG K B lim σ H g (r ++ (x :: Φ)) := h.perm (((List.Perm.append_right Φ p)).trans List.perm_middle.symm)
  exact h1.dropTs
theorem RepG.dup {v : V} {t : T} (h : RepG K B lim σ H g ((v, t) :: Φ)) (hf : frz t = t) : RepG K B lim σ H g ((v, t) :: (v, t) :: Φ) := by
  obtain ⟨F, zs, fp, en, o, f, hl⟩ := h
  obtain ⟨fp', pf, o'⟩ := o.perm (List.perm_middle (a := (v, t)))
  obtain ⟨f1, f2, rfl, p1, o2⟩ := OwnZ.uncons (zs := zs ++ Φ) o'
  obtain rfl := p1.nofp _ hf
  have f' := f.perm (List.Perm.append_left lim pf)
  have hz : OwnZ K F H ((v, t) :: (v, t) :: (zs ++ Φ)) ([] ++ ([] ++ f2)) := .cons p1 (.cons p1 o2)
  refine rep_items (ds := []) en hz f' hl ?_
  rw [List.nil_append]
  exact (List.Perm.cons _ List.perm_middle.symm).trans List.perm_middle.symm
theorem RepG.dupAt {zs : Its} {i : Nat} {v : V} {t : T} (h : RepG K B lim σ H g (zs ++ Φ)) (e : zs[i]? = some (v, t)) (hf : frz t = t) : RepG K B lim σ H g ((v, t) :: (zs ++ Φ)) := by
  obtain ⟨r, p⟩ := perm_at e
  have h1 := (h.perm (List.Perm.append_right Φ p)).dup hf
  exact h1.perm (List.Perm.cons _ (List.Perm.append_right Φ p.symm))
theorem frzL_get : ∀ {ts : List T} {i : Nat} {t : T}, (frzL ts)[i]? = some t → frz t = t
  | [], _, _, h => by simp [frzL] at h
  | a :: ts, 0, t, h => by
    simp only [frzL, List.getElem?_cons_zero, Option.some.injEq] at h
    subst h
    exact frz_frz a
  | a :: ts, i + 1, t, h => frzL_get (ts := ts) (i := i) (by simpa [frzL] using h)
theorem frzL_length : ∀ ts : List T, (frzL ts).length = ts.length
  | [] => rfl
  | _ :: ts => by simp [frzL, frzL_length ts]
theorem zip_get {α β : Type} : ∀ {l : List α} {r : List β} {i : Nat} {b : β}, l.length = r.length → r[i]? = some b → ∃ a, l[i]? = some a ∧ (l.zip r)[i]? = some (a, b)
  | [], [], _, _, _, h => by simp at h
  | a :: l, b' :: r, 0, b, _, h => by
    simp at h
    subst h
    exact ⟨a, rfl, rfl⟩
  | a :: l, b' :: r, i + 1, b, e, h => by
    obtain ⟨x, e1, e2⟩ := zip_get (l := l) (r := r) (i := i) (b := b) (by simpa using e) (by simpa using h)
    exact ⟨x, by simpa using e1, by simpa using e2⟩
  | [], _ :: _, _, _, e, _ => by cases e
  | _ :: _, [], _, _, _, h => by simp at h
theorem RepG.parts {v : V} {o : Bool} {s : Sh} {ts : List T} (h : RepG K B lim σ H g ((v, .node o s ts) :: Φ)) :
    ∃ a vs, v = .ref a ∧ vs.length = ts.length ∧ (Rd H a (s.mk a vs) ∨ Konst K a vs s) ∧ RepG K B lim σ H g (vs.zip (frzL ts) ++ (v, .node false s (frzL ts)) :: Φ) := by
  have h1 := h.freezeT
  rw [show frz (T.node o s ts) = .node false s (frzL ts) by simp [frz]] at h1
  obtain ⟨a, vs, e, hl, hr, r⟩ := h1.kids
  exact ⟨a, vs, e, by rw [hl, frzL_length], hr, r⟩
theorem RepG.pinned {v : V} {o : Bool} {s : Sh} {ts : List T} (h : RepG K B lim σ H g ((v, .node o s ts) :: Φ)) :
    ∃ a vs, v = .ref a ∧ vs.length = ts.length ∧ RepG K B lim σ H g ((v, .pin s vs) :: vs.zip (frzL ts) ++ Φ) := by
  have h1 := h.freezeT
  rw [show frz (T.node o s ts) = .node false s (frzL ts) by simp [frz]] at h1
  obtain ⟨F, zs, fp, en, oz, f, hl⟩ := h1
  obtain ⟨fp', pf, o'⟩ := oz.perm (List.perm_middle (a := (v, T.node false s (frzL ts))))
  obtain ⟨f1, f2, rfl, p1, o2⟩ := OwnZ.uncons (zs := zs ++ Φ) o'
  have f' := f.perm (List.Perm.append_left lim pf)
  have fin : ∀ vs : List V, f1 = [] → OwnP K F H v (.pin s vs) [] → OwnL K F H vs (frzL ts) [] → RepG K B lim σ H g ((v, .pin s vs) :: vs.zip (frzL ts) ++ Φ) := fun vs e pv hk => by
    subst e
    have oz2 : OwnZ K F H ((v, T.pin s vs) :: (vs.zip (frzL ts) ++ (zs ++ Φ))) ([] ++ ([] ++ f2)) := .cons pv (hk.zip.append o2)
    refine rep_items (ds := []) en oz2 f' hl ?_
    rw [List.nil_append, List.cons_append]
    refine List.Perm.trans ?_ List.perm_middle.symm
    refine List.Perm.cons _ ?_
    rw [← List.append_assoc, ← List.append_assoc]
    exact List.Perm.append_right _ List.perm_append_comm
  cases p1 with
  | fz hf hr hk => exact ⟨_, _, rfl, by rw [hk.length, frzL_length], fin _ rfl (.pinF hf (.inl hr)) hk⟩
  | kz hc _ hk => exact ⟨_, _, rfl, by rw [hk.length, frzL_length], fin _ rfl (.pinK hc) hk⟩
  | tk hr hk => exact ⟨_, _, rfl, by rw [hk.length, frzL_length], fin _ rfl (.pinT hr) hk⟩
theorem RepG.pinAt {v : V} {s : Sh} {vs : List V} (h : RepG K B lim σ H g ((v, .pin s vs) :: Φ)) (hs : ∀ n, s ≠ Sh.exc n := by intro n z; cases z) : ∃ a, v = .ref a ∧ (Rd H a (s.mk a vs) ∨ Konst K a vs s) := by
  obtain ⟨F, zs, fp, en, oz, f, hl⟩ := h
  obtain ⟨fp', pf, o'⟩ := oz.perm (List.perm_middle (a := (v, T.pin s vs)))
  obtain ⟨f1, f2, rfl, p1, o2⟩ := OwnZ.uncons (zs := zs ++ Φ) o'
  cases p1 with
  | pinF hf hr => exact ⟨_, rfl, .inl hr⟩
  | pinK hc => exact ⟨_, rfl, .inr hc⟩
  | pinT hr => exact ⟨_, rfl, .inl (.inl hr)⟩
  | fx hf hr hv => exact absurd rfl (hs _)
def ExcIn (K : PySem.W.Frag) (H : Hp) (a : Addr) : Prop := (∃ D, H a = some (ExO (.ref D) a) ∧ ExcV K D) ∨ H a = some (.ext fun _ => False) ∨ ∃ o, H a = some (.frz o (.ext fun _ => False))
theorem RepG.excAt {v : V} {n : Nat} {vs : List V} (h : RepG K B lim σ H g ((v, .pin (.exc n) vs) :: Φ)) : ∃ a, v = .ref a ∧ ExcIn K H a := by
  obtain ⟨F, zs, fp, en, oz, f, hl⟩ := h
  obtain ⟨fp', pf, o'⟩ := oz.perm (List.perm_middle (a := (v, T.pin (.exc n) vs)))
  obtain ⟨f1, f2, rfl, p1, o2⟩ := OwnZ.uncons (zs := zs ++ Φ) o'
  cases p1 with
  | pinF hf hr =>
    rcases hr with hr | ⟨o, hr⟩
    · exact ⟨_, rfl, .inr (.inl hr)⟩
    · exact ⟨_, rfl, .inr (.inr ⟨o, hr⟩)⟩
  | pinK hc => exact hc.elim
  | fx hf hr hv => exact ⟨_, rfl, .inl ⟨_, hr, hv⟩⟩
end
abbrev DTG := T → Ev → (Ev → Prop) → Prop
abbrev DTGs := List T → Ev → (Ev → Prop) → Prop
def liftG (K : PySem.W.Frag) (B : Bs) (m : Nat → Bool) (σ0 : St) (gt : DTG) : TG := fun v σ H Q => ∃ (Φ : Its) (lim : List Addr) (g : Ev) (τ : T), RepG K B lim σ H g ((v, τ) :: Φ) ∧ Kept m σ0 σ ∧
  gt τ g (fun g' => ∀ σ' H', RepG K B lim σ' H' g' Φ → Kept m σ0 σ' → Q σ' H')
def liftGs (K : PySem.W.Frag) (B : Bs) (m : Nat → Bool) (σ0 : St) (gt : DTGs) : TGs := fun vs σ H Q => ∃ (Φ : Its) (lim : List Addr) (g : Ev) (τs : List T), vs.length = τs.length ∧ RepG K B lim σ H g (vs.zip τs ++ Φ) ∧ Kept m σ0 σ ∧
  gt τs g (fun g' => ∀ σ' H', RepG K B lim σ' H' g' Φ → Kept m σ0 σ' → Q σ' H')
structure DG (X : Cx) (m : Nat → Bool) (tg : Expr) (gt : DTG) : Prop where
  run : ∀ B σ0, PG X tg (liftG X.K B m σ0 gt)
  mono : ∀ τ g Q Q', (∀ g', Q g' → Q' g') → gt τ g Q → gt τ g Q'
structure DGs (X : Cx) (m : Nat → Bool) (tgs : List Expr) (gt : DTGs) : Prop where
  run : ∀ B σ0, PGs X tgs (liftGs X.K B m σ0 gt)
  mono : ∀ τs g Q Q', (∀ g', Q g' → Q' g') → gt τs g Q → gt τs g Q'
theorem PG.imp {X : Cx} {e : Expr} {t t' : TG} (h : PG X e t) (i : ∀ v σ H Q, t' v σ H Q → t v σ H Q) : PG X e t' := ⟨fun pins s σ H v u Q I r hw => h.run pins s σ H v u Q I r (i v σ H Q hw)⟩
theorem PGs.imp {X : Cx} {e : List Expr} {t t' : TGs} (h : PGs X e t) (i : ∀ v σ H Q, t' v σ H Q → t v σ H Q) : PGs X e t' := ⟨fun pins s σ H v u Q I r hw => h.run pins s σ H v u Q I r (i v σ H Q hw)⟩
section
variable {X : Cx} {W : WX} {m : Nat → Bool} {pos : Pos}
def gNm (own : Bool) (i : Nat) : DTG := fun τ g Q => Q (g.set i (some (if own = true then τ else frz τ)))
theorem dg_name {i : Nat} {x : Str} (own : Bool) (hN : X.N.Nodup) (hi : X.N[i]? = some x) (hx : Loc X.env.scope x) (hm : m i = false) (hf : X.fn x = true ∨ X.env.scope.names.lookup x = some .local := by first | exact .inl rfl | exact .inr rfl | assumption) : DG X m (.Name x pos) (gNm own i) := by
  refine ⟨fun B σ0 => PG.imp (pg_name hN hi hx hf) fun v σ H Q ⟨Φ, lim, g, τ, r, hk, q⟩ => ?_, fun τ g Q Q' h q => h _ q⟩
  refine q (σ.set i (some v)) H ?_ (hk.set hm)
  cases own with
  | true => exact r.put'
  | false => exact r.freezeT.put'
def gNl : DTGs := fun τs g Q => match τs with
  | [] => Q g
  | _ => False
def gCn (t : DTG) (u : DTGs) : DTGs := fun τs g Q => match τs with
  | τ :: r => t τ g fun g' => u r g' Q
  | [] => False
theorem dgs_nil : DGs X m [] gNl := by
  refine ⟨fun B σ0 => PGs.imp pgs_nil fun vs σ H Q ⟨Φ, lim, g, τs, hl, r, hk, q⟩ => ?_, fun τs g Q Q' h q => ?_⟩
  · cases τs with
    | nil =>
      have : vs = [] := List.eq_nil_of_length_eq_zero hl
      subst this
      exact ⟨rfl, q σ H r hk⟩
    | cons => exact q.elim
  · cases τs with
    | nil => exact h _ q
    | cons => exact q.elim
theorem dgs_cons {e : Expr} {es : List Expr} {t : DTG} {u : DTGs} (h1 : DG X m e t) (h2 : DGs X m es u) (hs : (assignEach (e :: es) X.env).map (·.2) = assign e X.env :: (assignEach es X.env).map (·.2) := by rfl) : DGs X m (e :: es) (gCn t u) := by
  refine ⟨fun B σ0 => PGs.imp (pgs_cons (h1.run B σ0) (h2.run B σ0) hs) fun vs σ H Q ⟨Φ, lim, g, τs, hl, r, hk, q⟩ => ?_, fun τs g Q Q' h q => ?_⟩
  · cases τs with
    | nil => exact q.elim
    | cons τ τs =>
      cases vs with
      | nil => cases hl
      | cons v vs =>
        refine ⟨v, vs, rfl, vs.zip τs ++ Φ, lim, g, τ, r, hk, h1.mono _ _ _ _ (fun g' q' σ' H' r' hk' => ?_) q⟩
        exact ⟨Φ, lim, g', τs, by simpa using hl, r', hk', q'⟩
  · cases τs with
    | nil => exact q.elim
    | cons τ τs => exact h1.mono _ _ _ _ (fun g' q' => h2.mono _ _ _ _ h q') q
def gTp (n : Nat) (u : DTGs) : DTG := fun τ g Q => match τ with
  | .node _ .tup ts => ts.length = n ∧ u (frzL ts) g Q
  | _ => False
theorem dg_tup {es : List Expr} {k n : Nat} {u : DTGs} (hc : X.calm = true) (h : DGs X m es u) (hn : (assignEach es X.env).length = n := by rfl) (hst : (assignEach es X.env).findIdx? (·.1) = none := by rfl) : DG X m (.Tuple es k pos) (gTp n u) := by
  refine ⟨fun B σ0 => PG.imp (pg_tup hc (h.run B σ0) hn hst) fun v σ H Q ⟨Φ, lim, g, τ, r, hk, q⟩ => ?_, fun τ g Q Q' hq q => ?_⟩
  · unfold gTp at q
    split at q
    · rename_i o ts
      obtain ⟨a, vs, rfl, hl, hr, r'⟩ := r.parts
      exact ⟨a, vs, rfl, seqT hr, by rw [hl]; exact q.1, _, lim, g, frzL ts, by rw [hl, frzL_length], r', hk, h.mono _ _ _ _ (fun g' q' σ' H' r2 hk' => q' σ' H' r2.dropT hk') q.2⟩
    · exact q.elim
  · unfold gTp at q
    split at q
    · exact ⟨q.1, h.mono _ _ _ _ hq q.2⟩
    · exact q.elim
def sAsg (te : DTE) (gt : DTG) : DTS := fun D g => te g (fun τ g1 => gt τ g1 D.nx) D.ex
theorem ds_asg {tg e : Expr} {te : DTE} {gt : DTG} (he : DE X W e te) (hg : DG X m tg gt) (hs : swapsWithSole [tg] e pos.line X.env = pure false := by rfl) (hw : swappedStores [tg] e X.env = pure none := by rfl)
    (h1 : (assignEach [tg] X.env).map (·.2) = [assign tg X.env] := by rfl) : DS X W m (.Assign [tg] e pos) (sAsg te gt) := by
  refine .mk' (fun B σ0 => ps_asg (he.run B) (hg.run B σ0) hs hw h1) (fun B σ0 D σ H Φ lim g E r hk hX q => ?_) fun D D' g h q => he.mono _ _ _ _ _ (fun τ g1 q1 => hg.mono _ _ _ _ h.nx q1) h.ex q
  refine ⟨Φ, lim, g, E, r, hX σ hk, he.mono _ _ _ _ _ (fun τ g1 q1 v H1 r1 => ?_) (fun _ _ _ z => z) q⟩
  exact ⟨Φ, lim, g1, τ, r1, hk, hg.mono _ _ _ _ (fun g' q' σ' H' r' hk' => q' σ' H' r' hk') q1⟩
def sPar (i j : Nat) (t : DTA) : DTS := fun D g => t g (fun τs g1 => match τs with
  | [x, y] => D.nx ((g1.set i (some (frz x))).set j (some (frz y)))
  | _ => False) D.ex
theorem ds_par {i j : Nat} {x y : Str} {a b : Expr} {t : DTA} {bs : List (Option Nat)} {px py pt : Pos} {kt k2 pt2} (hc : X.calm = true) (hN : X.N.Nodup) (hi : X.N[i]? = some x) (hj : X.N[j]? = some y) (hij : i ≠ j) (hmi : m i = false) (hmj : m j = false)
    (hx : X.env.scope.names.lookup x = some .local) (hy : X.env.scope.names.lookup y = some .local) (ha : DA X W [a, b] bs t)
    (hw : swappedStores [.Tuple [.Name x px, .Name y py] kt pt] (.Tuple [a, b] k2 pt2) X.env = pure (some [x, y]))
    (hs : swapsWithSole [.Tuple [.Name x px, .Name y py] kt pt] (.Tuple [a, b] k2 pt2) pos.line X.env = pure false := by rfl) :
    DS X W m (.Assign [.Tuple [.Name x px, .Name y py] kt pt] (.Tuple [a, b] k2 pt2) pos) (sPar i j t) := by
  refine .mk' (fun B σ0 => ps_par hc hN hi hj hij hx hy (ha.run B) hw hs) (fun B σ0 D σ H Φ lim g E r hk hX q => ?_) fun D D' g h q => ha.mono _ _ _ _ _ (fun τs g1 q1 => ?_) h.ex q
  · refine ⟨Φ, lim, g, E, r, hX σ hk, ha.mono _ _ _ _ _ (fun τs g1 q1 vs H1 hl _ r1 => ?_) (fun _ _ _ z => z) q⟩
    split at q1
    · rename_i x' y'
      obtain ⟨v, w, rfl⟩ : ∃ v w, vs = [v, w] := by
        match vs, hl with
        | [v, w], _ => exact ⟨v, w, rfl⟩
      refine ⟨v, w, rfl, q1 _ _ ?_ ((hk.set hmi).set hmj)⟩
      have r2 : RepG X.K B lim σ H1 g1 ((v, x') :: (w, y') :: Φ) := r1
      have r3 : RepG X.K B lim σ H1 g1 ((w, frz y') :: (v, frz x') :: Φ) := (r2.freezeT.perm (List.Perm.swap _ _ _)).freezeT
      exact (r3.perm (List.Perm.swap _ _ _)).put'.put'
    · exact q1.elim
  · split at q1
    · exact h.nx _ q1
    · exact q1.elim
end
def Walks (K : PySem.W.Frag) (B : Bs) (lim : List Addr) (J : It) (Ψ : Its) (ts : List T) : Prop :=
  ∀ σ H g Φ i, RepG K B lim σ H g (Ψ ++ Φ) → (∀ t, ts[i]? = some t → J.go i H ∧ ∀ x H', J.yld i H x H' → RepG K B lim σ H' g ((x, t) :: (Ψ ++ Φ))) ∧ (ts.length ≤ i → J.stop i H)
abbrev DTI := Ev → (List T → Ev → Prop) → XP → Prop
def liftI (K : PySem.W.Frag) (B : Bs) (W : WX) (t : DTI) : TI := fun σ H R => ∃ (Φ : Its) (lim : List Addr) (g : Ev) (E : XP), RepG K B lim σ H g Φ ∧ liftX K B W σ E ∧
  t g (fun ts g' => ∀ J Ψ H', RepG K B lim σ H' g' (Ψ ++ Φ) → Walks K B lim J Ψ ts → R J H') E
structure DI (X : Cx) (W : WX) (tg iter : Expr) (t : DTI) : Prop where
  run : ∀ B, PI X tg iter (liftI X.K B W t)
  mono : ∀ g Q Q' E E', (∀ ts g', Q ts g' → Q' ts g') → (∀ c fs g', E c fs g' → E' c fs g') → t g Q E → t g Q' E'
theorem PI.imp {X : Cx} {tg e : Expr} {t t' : TI} (h : PI X tg e t) (i : ∀ σ H R, t' σ H R → t σ H R) : PI X tg e t' := ⟨fun pins s σ H R I hw => h.run pins s σ H R I (i σ H R hw)⟩
def iSq (K : PySem.W.Frag) (tl : TE) : TI := fun σ H R => tl σ H fun x H1 => ∃ a, x = .ref a ∧ (((∃ xs, SqL K H1 a xs) ∧ R (Itl K a) H1) ∨ ((∃ xs, SqT K H1 a xs) ∧ R (Itt K a) H1))
theorem pi_sq {X : Cx} {tg l : Expr} {tl : TE} (hl : PE X l tl) : PI X tg l (iSq X.K tl) := by
  refine ⟨fun pins s σ H R I h => ?_⟩
  refine thn (hl.run pins s σ H _ I h) fun v s1 ⟨x, H1, I1, r1, q1⟩ => ?_
  obtain ⟨a, e, q1⟩ := q1
  subst e
  cases r1
  rcases q1 with ⟨⟨xs, hq⟩, q⟩ | ⟨⟨xs, hq⟩, q⟩
  · obtain ⟨its, rv, p, hz⟩ := I1.list hq
    refine wpAny_pyIter_list p.isList ?_
    refine ⟨s1.heap.objs.size, [s1.heap.objs.size], _, _, H1, rfl, I1.kept (t' := s1.toks) fun b o e => Heap.get?_push_of_some _ e, turn_list a _, ⟨_, Heap.get?_push_size _ rfl, rfl, rfl⟩, fun b hb => ?_, q⟩
    have e : b = s1.heap.objs.size := by simpa using hb
    subst e
    exact I1.fpOk (Nat.le_refl _) (I1.hok.fresh (Nat.le_refl _))
  · obtain ⟨its, rv, p, hz⟩ := I1.tuple hq
    refine wpAny_pyIter_tuple (show s1.heap.IsTuple a its.toArray from p) ?_
    refine ⟨s1.heap.objs.size, [s1.heap.objs.size], _, _, H1, rfl, I1.kept (t' := s1.toks) fun b o e => Heap.get?_push_of_some _ e, turn_tuple a _, ⟨_, Heap.get?_push_size _ rfl, rfl, rfl⟩, fun b hb => ?_, q⟩
    have e : b = s1.heap.objs.size := by simpa using hb
    subst e
    exact I1.fpOk (Nat.le_refl _) (I1.hok.fresh (Nat.le_refl _))
theorem walks_list {K : PySem.W.Frag} {B : Bs} {lim : List Addr} {a : Addr} {vs : List V} {ts : List T} (hl : vs.length = ts.length) (hf : ∀ (i : Nat) (t : T), ts[i]? = some t → frz t = t) : Walks K B lim (Itl K a) ((.ref a, .pin .lst vs) :: vs.zip ts) ts := by
  intro σ H g Φ i r
  have sq : SqL K H a vs := by
    obtain ⟨b, e, hr⟩ := RepG.pinAt (Φ := vs.zip ts ++ Φ) r
    cases e
    exact seqL hr
  refine ⟨fun t ht => ?_, fun hi => ⟨vs, sq, by omega⟩⟩
  obtain ⟨v, hv, hz⟩ := zip_get hl ht
  refine ⟨⟨vs, v, sq, hv⟩, fun x H' y => ?_⟩
  obtain ⟨e, y⟩ := y
  subst e
  have hx := y vs sq
  rw [hv] at hx
  cases hx
  exact RepG.dupAt (zs := (.ref a, .pin .lst vs) :: vs.zip ts) (i := i + 1) r (by simpa using hz) (hf i t ht)
theorem walks_tup {K : PySem.W.Frag} {B : Bs} {lim : List Addr} {a : Addr} {vs : List V} {ts : List T} (hl : vs.length = ts.length) (hf : ∀ (i : Nat) (t : T), ts[i]? = some t → frz t = t) : Walks K B lim (Itt K a) ((.ref a, .pin .tup vs) :: vs.zip ts) ts := by
  intro σ H g Φ i r
  have sq : SqT K H a vs := by
    obtain ⟨b, e, hr⟩ := RepG.pinAt (Φ := vs.zip ts ++ Φ) r
    cases e
    exact seqT hr
  refine ⟨fun t ht => ?_, fun hi => ⟨vs, sq, by omega⟩⟩
  obtain ⟨v, hv, hz⟩ := zip_get hl ht
  refine ⟨⟨vs, v, sq, hv⟩, fun x H' y => ?_⟩
  obtain ⟨e, y⟩ := y
  subst e
  have hx := y vs sq
  rw [hv] at hx
  cases hx
  exact RepG.dupAt (zs := (.ref a, .pin .tup vs) :: vs.zip ts) (i := i + 1) r (by simpa using hz) (hf i t ht)
def iSeq (te : DTE) : DTI := fun g Q E => te g (fun τ g1 => match τ with
  | .node _ .lst ts => Q (frzL ts) g1
  | .node _ .tup ts => Q (frzL ts) g1
  | _ => False) E
section
variable {X : Cx} {W : WX} {m : Nat → Bool} {tg e : Expr} {te : DTE} {pos p : Pos}
theorem di_seq (he : DE X W e te) : DI X W tg e (iSeq te) := by
  refine ⟨fun B => PI.imp (pi_sq (he.run B)) fun σ H R ⟨Φ, lim, g, E, r, hx, q⟩ => ?_, fun g Q Q' E E' hq hE q => he.mono _ _ _ _ _ (fun τ g1 q1 => ?_) hE q⟩
  · refine ⟨Φ, lim, g, E, r, hx, he.mono _ _ _ _ _ (fun τ g1 q1 v H1 r1 => ?_) (fun _ _ _ z => z) q⟩
    split at q1
    · rename_i o ts
      obtain ⟨a, vs, rfl, hl, r2⟩ := r1.pinned
      have sq : SqL X.K H1 a vs := by
        obtain ⟨b, e, hr⟩ := RepG.pinAt (Φ := vs.zip (frzL ts) ++ Φ) r2
        cases e
        exact seqL hr
      exact ⟨a, rfl, .inl ⟨⟨vs, sq⟩, q1 _ _ H1 r2 (walks_list (by rw [hl, frzL_length]) fun i t ht => frzL_get ht)⟩⟩
    · rename_i o ts
      obtain ⟨a, vs, rfl, hl, r2⟩ := r1.pinned
      have sq : SqT X.K H1 a vs := by
        obtain ⟨b, e, hr⟩ := RepG.pinAt (Φ := vs.zip (frzL ts) ++ Φ) r2
        cases e
        exact seqT hr
      exact ⟨a, rfl, .inr ⟨⟨vs, sq⟩, q1 _ _ H1 r2 (walks_tup (by rw [hl, frzL_length]) fun i t ht => frzL_get ht)⟩⟩
    · exact q1.elim
  · split at q1
    · exact hq _ _ q1
    · exact hq _ _ q1
    · exact q1.elim
def rangeT (lo : Int) (n : Nat) : List T := (List.range n).map fun k => .leaf (.int (lo + (k : Nat)))
theorem walks_range {K : PySem.W.Frag} {B : Bs} {lim : List Addr} {lo : Int} {n : Nat} : Walks K B lim (Itr lo n) [] (rangeT lo n) := by
  intro σ H g Φ i r
  refine ⟨fun t ht => ?_, fun hi => by
    show n ≤ i
    simpa [rangeT] using hi⟩
  unfold rangeT at ht
  rw [List.getElem?_map] at ht
  by_cases hi : i < n
  · rw [List.getElem?_range hi] at ht
    cases ht
    refine ⟨hi, fun x H' y => ?_⟩
    obtain ⟨e, y⟩ := y
    subst e y
    exact r.addLeaf
  · rw [List.getElem?_eq_none (by simpa using hi)] at ht
    cases ht
def iRange1 (t : DTA) : DTI := fun g Q E => t g (fun τs g1 => match τs with
  | [.leaf (.int j)] => -(2 ^ 62) ≤ j ∧ j < 2 ^ 62 ∧ Q (rangeT 0 j.toNat) g1
  | _ => False) E
def iRange2 (t : DTA) : DTI := fun g Q E => t g (fun τs g1 => match τs with
  | [.leaf (.int i), .leaf (.int j)] => (-(2 ^ 62) ≤ i ∧ i < 2 ^ 62 ∧ -(2 ^ 62) ≤ j ∧ j < 2 ^ 62) ∧ Q (rangeT i (j - i).toNat) g1
  | _ => False) E
theorem di_range1 {a : Expr} {t : DTA} {bs : List (Option Nat)} (hg : Gl X "range") (hm : X.mg "range" = none) (ha : DA X W [a] bs t) (hs : starEach [a] X.env = [(false, eval a X.env)] := by rfl) : DI X W tg (.Call (.Name "range" p) [a] [] pos) (iRange1 t) := by
  refine ⟨fun B => PI.imp (pi_range1 hg hm (ha.run B) hs) fun σ H R ⟨Φ, lim, g, E, r, hx, q⟩ => ?_, fun g Q Q' E E' hq hE q => ha.mono _ _ _ _ _ (fun τs g1 q1 => ?_) hE q⟩
  · refine ⟨Φ, lim, g, E, r, hx, ha.mono _ _ _ _ _ (fun τs g1 q1 vs H1 hl _ r1 => ?_) (fun _ _ _ z => z) q⟩
    split at q1
    · rename_i j
      match vs, hl with
      | [v], _ =>
        have r2 : RepG X.K B lim σ H1 g1 ((v, .leaf (.int j)) :: Φ) := r1
        obtain rfl := r2.leaf
        exact ⟨j, rfl, q1.1, q1.2.1, q1.2.2 _ [] H1 r2.dropT walks_range⟩
    · exact q1.elim
  · split at q1
    · exact ⟨q1.1, q1.2.1, hq _ _ q1.2.2⟩
    · exact q1.elim
theorem di_range2 {a b : Expr} {t : DTA} {bs : List (Option Nat)} (hg : Gl X "range") (hm : X.mg "range" = none) (ha : DA X W [a, b] bs t) (hs : starEach [a, b] X.env = [(false, eval a X.env), (false, eval b X.env)] := by rfl) (hs2 : starEach [b] X.env = [(false, eval b X.env)] := by rfl) :
    DI X W tg (.Call (.Name "range" p) [a, b] [] pos) (iRange2 t) := by
  refine ⟨fun B => PI.imp (pi_range2 hg hm (ha.run B) hs hs2) fun σ H R ⟨Φ, lim, g, E, r, hx, q⟩ => ?_, fun g Q Q' E E' hq hE q => ha.mono _ _ _ _ _ (fun τs g1 q1 => ?_) hE q⟩
  · refine ⟨Φ, lim, g, E, r, hx, ha.mono _ _ _ _ _ (fun τs g1 q1 vs H1 hl _ r1 => ?_) (fun _ _ _ z => z) q⟩
    split at q1
    · rename_i i j
      match vs, hl with
      | [v, w], _ =>
        have r2 : RepG X.K B lim σ H1 g1 ((v, .leaf (.int i)) :: (w, .leaf (.int j)) :: Φ) := r1
        obtain rfl := r2.leaf
        obtain rfl := r2.dropT.leaf
        exact ⟨i, j, rfl, q1.1, q1.2 _ [] H1 r2.dropT.dropT walks_range⟩
    · exact q1.elim
  · split at q1
    · exact ⟨q1.1, hq _ _ q1.2⟩
    · exact q1.elim
abbrev lpE (f : Ev → Prop) (D : DEnds) : DEnds := { nx := f, ct := f, bk := D.nx, rt := D.rt, ex := D.ex }
def loopL (gt : DTG) (body : DTS) (D : DEnds) : List T → Ev → Prop
  | [], g => D.nx g
  | t :: ts, g => gt t g fun g1 => body (lpE (loopL gt body D ts) D) g1
inductive Loop (gt : DTG) (body : DTS) (D : DEnds) (ts : List T) (g : Ev) : Prop where
  | mk (h : loopL gt body D ts g) : Loop gt body D ts g
theorem Loop.out {gt : DTG} {body : DTS} {D : DEnds} {ts : List T} {g : Ev} : Loop gt body D ts g → loopL gt body D ts g
  | ⟨h⟩ => h
def sFor (it : DTI) (gt : DTG) (body : DTS) : DTS := fun D g => it g (fun ts g1 => Loop gt body D ts g1) D.ex
theorem Loop.ind {gt : DTG} {body : DTS} {D : DEnds} {ts : List T} {g : Ev} (I : Nat → Ev → Prop) (h0 : I 0 g)
    (hs : ∀ (i : Nat) (t : T) (g : Ev), ts[i]? = some t → I i g → ∀ R : Ev → Prop, (∀ g', I (i + 1) g' → R g') → gt t g fun g1 => body (lpE R D) g1) (he : ∀ g, I ts.length g → D.nx g) : Loop gt body D ts g := by
  refine ⟨?_⟩
  have key : ∀ (rest : List T) (i : Nat) (g : Ev), ts.drop i = rest → i ≤ ts.length → I i g → loopL gt body D rest g := by
    intro rest
    induction rest with
    | nil =>
      intro i g e hi h
      have : i = ts.length := by
        have := congrArg List.length e
        rw [List.length_drop, List.length_nil] at this
        omega
      subst this
      exact he g h
    | cons t rest ih =>
      intro i g e hi h
      have ht : ts[i]? = some t := by
        have := congrArg (·[0]?) e
        simpa using this
      have hlt : i < ts.length := by
        have := congrArg List.length e
        rw [List.length_drop, List.length_cons] at this
        omega
      refine hs i t g ht h (loopL gt body D rest) fun g' h' => ih (i + 1) g' ?_ hlt h'
      have := congrArg (List.drop 1) e
      rw [List.drop_drop] at this
      simpa [Nat.add_comm] using this
  exact key ts 0 g rfl (Nat.zero_le _) h0
theorem loopL_mono {gt : DTG} {body : DTS} {D D' : DEnds} (hg : ∀ τ g Q Q', (∀ g', Q g' → Q' g') → gt τ g Q → gt τ g Q') (hb : ∀ D D' g, D.Le D' → body D g → body D' g) (h : D.Le D') : ∀ ts g, loopL gt body D ts g → loopL gt body D' ts g
  | [], g, q => h.nx g q
  | t :: ts, g, q => hg _ _ _ _ (fun g1 q1 => hb (lpE (loopL gt body D ts) D) (lpE (loopL gt body D' ts) D') _ ⟨loopL_mono hg hb h ts, h.rt, h.ex, h.nx, loopL_mono hg hb h ts⟩ q1) q
theorem ds_for {iter : Expr} {body : List Stmt} {it : DTI} {gt : DTG} {tb : DTS} (hp : PassesOwn (model X.prog X.w) X.A X.env X.xe) (hc : X.calm = true) (hi : DI X W tg iter it) (hg : DG X m tg gt) (hb : DSs X W m body tb)
    (hs : ∀ x, foldedSetIterable iter X.env x = pure x := by intro _; rfl) : DS X W m (.For tg iter body [] pos) (sFor it gt tb) := by
  refine .mk' (fun B σ0 => ps_for hp hc (hi.run B) (hg.run B σ0) (hb.run B σ0) hs) (fun B σ0 D σ H Φ lim g E r hk hX q => ?_) fun D D' g h q => hi.mono _ _ _ _ _ (fun ts g1 q1 => ⟨loopL_mono hg.mono hb.mono h ts g1 q1.out⟩) h.ex q
  refine ⟨Φ, lim, g, E, r, hX σ hk, hi.mono _ _ _ _ _ (fun ts g1 q1 J Ψ H1 r1 hw => ?_) (fun _ _ _ z => z) q⟩
  refine ⟨fun i n σ H => n = ts.length - i ∧ i ≤ ts.length ∧ ∃ g, RepG X.K B lim σ H g (Ψ ++ Φ) ∧ Kept m σ0 σ ∧ loopL gt tb (low X.K B m σ0 lim Φ D E) (ts.drop i) g, ⟨ts.length, by simp, Nat.zero_le _, g1, r1, hk, q1.out⟩, ?_⟩
  rintro i n σ H ⟨rfl, hi', g2, r2, hk2, q2⟩
  obtain ⟨w1, w2⟩ := hw σ H g2 Φ i r2
  by_cases hlt : i < ts.length
  · have e : ts.drop i = ts[i] :: ts.drop (i + 1) := (List.drop_eq_getElem_cons hlt)
    rw [e] at q2
    obtain ⟨go, yl⟩ := w1 ts[i] (by simp [hlt])
    refine .inr ⟨go, fun σ H => ∃ g, RepG X.K B lim σ H g (Ψ ++ Φ) ∧ Kept m σ0 σ ∧ loopL gt tb (low X.K B m σ0 lim Φ D E) (ts.drop (i + 1)) g, fun σ' H' ⟨g', a1, a2, a3⟩ => ⟨ts.length - (i + 1), by omega, rfl, hlt, g', a1, a2, a3⟩, fun x H' y => ?_⟩
    refine ⟨Ψ ++ Φ, lim, g2, ts[i], yl x H' y, hk2, hg.mono _ _ _ _ (fun g3 q3 σ3 H3 r3 hk3 => ?_) q2⟩
    refine ⟨Ψ ++ Φ, lim, g3, E, r3, hk3, hX, hb.mono (lpE (loopL gt tb (low X.K B m σ0 lim Φ D E) (ts.drop (i + 1))) (low X.K B m σ0 lim Φ D E)) _ _ ⟨fun g' q' σ' H' r' hk' => ⟨g', r', hk', q'⟩, fun _ _ z => z, fun _ _ _ z => z, fun g' q' σ' H' r' hk' => q' σ' H' r'.dropTs hk', fun g' q' σ' H' r' hk' => ⟨g', r', hk', q'⟩⟩ q3⟩
  · have e : ts.drop i = [] := List.drop_eq_nil_of_le (by omega)
    rw [e] at q2
    exact .inl ⟨w2 (by omega), q2 σ H r2.dropTs hk2⟩
def whileN (c : DTT) (body : DTS) (D : DEnds) : Nat → Ev → Prop
  | 0, _ => False
  | n + 1, g => c g (fun b g1 => ifB b (body (lpE (whileN c body D n) D) g1) (D.nx g1)) D.ex
inductive While (c : DTT) (body : DTS) (D : DEnds) (g : Ev) : Prop where
  | mk (h : ∃ n, whileN c body D n g) : While c body D g
theorem While.out {c : DTT} {body : DTS} {D : DEnds} {g : Ev} : While c body D g → ∃ n, whileN c body D n g
  | ⟨h⟩ => h
theorem While.ind {c : DTT} {body : DTS} {D : DEnds} {g : Ev} (I : Nat → Ev → Prop) (n : Nat) (h0 : I n g)
    (hs : ∀ (n : Nat) (g : Ev), I n g → ∀ R : Ev → Prop, (∀ m g', n = m + 1 → I m g' → R g') → c g (fun b g1 => ifB b (body (lpE R D) g1) (D.nx g1)) D.ex) : While c body D g := by
  refine ⟨n + 1, ?_⟩
  induction n generalizing g with
  | zero => exact hs 0 g h0 (whileN c body D 0) fun m g' e _ => by omega
  | succ n ih =>
    refine hs (n + 1) g h0 (whileN c body D (n + 1)) fun m g' e h => ?_
    have : m = n := by omega
    subst this
    exact ih h
def sWhile (c : DTT) (body : DTS) : DTS := fun D g => While c body D g
theorem whileN_mono {c : DTT} {body : DTS} {D D' : DEnds} (hc : ∀ g Q Q' E E', (∀ b g', Q b g' → Q' b g') → (∀ c fs g', E c fs g' → E' c fs g') → c g Q E → c g Q' E') (hb : ∀ D D' g, D.Le D' → body D g → body D' g) (h : D.Le D') : ∀ n g, whileN c body D n g → whileN c body D' n g
  | 0, g, q => q
  | n + 1, g, q => hc _ _ _ _ _ (fun b g1 q1 => by
      cases b with
      | true => exact hb (lpE (whileN c body D n) D) (lpE (whileN c body D' n) D') _ ⟨whileN_mono hc hb h n, h.rt, h.ex, h.nx, whileN_mono hc hb h n⟩ q1
      | false => exact h.nx _ q1) h.ex q
theorem ds_while {c : Expr} {body : List Stmt} {tc : DTT} {tb : DTS} (hp : PassesOwn (model X.prog X.w) X.A X.env X.xe) (hc : DT X W c tc) (hb : DSs X W m body tb) : DS X W m (.While c body [] pos) (sWhile tc tb) := by
  refine .mk' (fun B σ0 => ps_while hp (hc.run B) (hb.run B σ0)) (fun B σ0 D σ H Φ lim g E r hk hX q => ?_) fun D D' g h q => let ⟨n, q⟩ := q.out; ⟨n, whileN_mono hc.mono hb.mono h n g q⟩
  obtain ⟨n, q⟩ := q.out
  refine ⟨fun n σ H => ∃ g, RepG X.K B lim σ H g Φ ∧ Kept m σ0 σ ∧ whileN tc tb (low X.K B m σ0 lim Φ D E) n g, ⟨n, g, r, hk, q⟩, ?_⟩
  rintro n σ H ⟨g, r, hk, q⟩
  cases n with
  | zero => exact q.elim
  | succ n =>
    refine ⟨Φ, lim, g, E, r, hX σ hk, hc.mono _ _ _ _ _ (fun b g1 q1 H1 r1 => ?_) (fun _ _ _ z => z) q⟩
    cases b with
    | true =>
      rw [if_pos rfl]
      refine ⟨fun σ H => ∃ g, RepG X.K B lim σ H g Φ ∧ Kept m σ0 σ ∧ whileN tc tb (low X.K B m σ0 lim Φ D E) n g, fun σ' H' z => ⟨n, Nat.lt_succ_self n, z⟩, ?_⟩
      exact ⟨Φ, lim, g1, E, r1, hk, hX, hb.mono (lpE (whileN tc tb (low X.K B m σ0 lim Φ D E) n) (low X.K B m σ0 lim Φ D E)) _ _ ⟨fun g' q' σ' H' r' hk' => ⟨g', r', hk', q'⟩, fun _ _ z => z, fun _ _ _ z => z, fun _ z => z, fun g' q' σ' H' r' hk' => ⟨g', r', hk', q'⟩⟩ q1⟩
    | false =>
      rw [if_neg Bool.false_ne_true]
      exact q1 σ H1 r1 hk
end
end DL
set_option Elab.async false
set_option linter.all false
set_option maxRecDepth 100000
set_option maxHeartbeats 4000000
namespace DL
open PySem L2
def wipeE (g : Ev) : List Nat → Ev
  | [] => g
  | v :: vs => (wipeE g vs).set v none
theorem RepG.wipe {K : PySem.W.Frag} {B : Bs} {lim : List Addr} {σ : St} {H : Hp} {g : Ev} {Φ : Its} (h : RepG K B lim σ H g Φ) : ∀ vs : List Nat, RepG K B lim (L2.wipe σ vs) H (wipeE g vs) Φ
  | [] => h
  | v :: vs => (h.wipe vs).clear v none
theorem wipe_get (σ : St) : ∀ (vs : List Nat) (i : Nat), (L2.wipe σ vs)[i]? = if i ∈ vs ∧ i < σ.length then some none else σ[i]?
  | [], i => by simp [L2.wipe]
  | v :: vs, i => by
    unfold L2.wipe
    by_cases e : v = i
    · subst e
      by_cases hl : v < σ.length
      · rw [List.getElem?_set_self (by rw [wipe_length]; exact hl), if_pos ⟨List.mem_cons_self, hl⟩]
      · rw [List.getElem?_eq_none (by simpa [wipe_length] using hl), if_neg (fun z => hl z.2)]
        exact (List.getElem?_eq_none (by simpa using hl)).symm
    · rw [List.getElem?_set_ne e, wipe_get σ vs i]
      have : (i ∈ v :: vs ∧ i < σ.length) ↔ (i ∈ vs ∧ i < σ.length) := by
        rw [List.mem_cons]
        exact ⟨fun z => ⟨z.1.resolve_left (Ne.symm e), z.2⟩, fun z => ⟨.inr z.1, z.2⟩⟩
      by_cases h : i ∈ vs ∧ i < σ.length
      · rw [if_pos h, if_pos (this.mpr h)]
      · rw [if_neg h, if_neg (fun z => h (this.mp z))]
def mB (vs : List Nat) : Nat → Bool := fun i => !vs.contains i
theorem wipe_same {σ σ2 : St} {vs : List Nat} (k : Kept (mB vs) (L2.wipe σ vs) σ2) : L2.wipe σ2 vs = L2.wipe σ vs := by
  apply List.ext_getElem?
  intro i
  have hl : σ2.length = σ.length := k.1.trans (wipe_length σ vs)
  rw [wipe_get, wipe_get, hl]
  by_cases h : i ∈ vs ∧ i < σ.length
  · rw [if_pos h, if_pos h]
  · rw [if_neg h, if_neg h]
    by_cases hm : i ∈ vs
    · have hi : ¬ i < σ.length := fun z => h ⟨hm, z⟩
      rw [List.getElem?_eq_none (by omega), List.getElem?_eq_none (by omega)]
    · rw [k.2 i (by unfold mB; simpa using hm), wipe_get, if_neg h]
theorem EnvIs.swapS : ∀ {σ σ' : St} {g : Ev} {zs : Its}, EnvIs σ' g zs → σ.length = σ'.length → (∀ (i : Nat) (t : T), g[i]? = some (some t) → σ[i]? = σ'[i]?) → EnvIs σ g zs
  | [], _, _, _, .nil, _, _ => .nil
  | [], _, _, _, .skip _, e, _ => by cases e
  | [], _, _, _, .have _, e, _ => by cases e
  | x :: σ, _, _, _, .nil, e, _ => by cases e
  | x :: σ, _, _, _, .skip h, e, k => .skip (EnvIs.swapS h (by simpa using e) fun i t q => by simpa using k (i + 1) t (by simpa using q))
  | x :: σ, _, _, _, .have (v := v) (t := t) h, e, k => by
    have e0 : some x = some (some v) := by simpa using k 0 t rfl
    cases e0
    exact .have (EnvIs.swapS h (by simpa using e) fun i t q => by simpa using k (i + 1) t (by simpa using q))
def NoOwn (g : Ev) (vs : List Nat) : Prop := ∀ i ∈ vs, ∀ t : T, g[i]? ≠ some (some t)
theorem wipeE_length (g : Ev) : ∀ vs : List Nat, (wipeE g vs).length = g.length
  | [] => rfl
  | v :: vs => by unfold wipeE; rw [List.length_set, wipeE_length g vs]
theorem noOwn_wipe (g : Ev) : ∀ vs : List Nat, NoOwn (wipeE g vs) vs
  | [] => fun _ z => nomatch z
  | v :: vs => fun i hi t e => by
    unfold wipeE at e
    by_cases hv : v = i
    · subst hv
      by_cases hl : v < (wipeE g vs).length
      · rw [List.getElem?_set_self hl] at e; cases e
      · rw [List.getElem?_eq_none (by simpa using hl)] at e; cases e
    · rw [List.getElem?_set_ne hv] at e
      exact noOwn_wipe g vs i ((List.mem_cons.mp hi).resolve_left (Ne.symm hv)) t e
theorem RepG.unwipe {K : PySem.W.Frag} {B : Bs} {lim : List Addr} {σ : St} {H : Hp} {g : Ev} {Φ : Its} {vs : List Nat} (h : RepG K B lim (L2.wipe σ vs) H g Φ) (no : NoOwn g vs) : RepG K B lim σ H g Φ := by
  obtain ⟨F, zs, fp, en, o, f, hl⟩ := h
  refine ⟨F, zs, fp, en.swapS (wipe_length σ vs).symm fun i t q => ?_, o, f, hl⟩
  rw [wipe_get, if_neg fun z => no i z.1 t q]
abbrev W0 : WX := fun _ _ _ _ => False
abbrev noX : XP := fun _ _ _ => False
theorem liftX0 {K : PySem.W.Frag} {B : Bs} {W : WX} {σ : St} : liftX K B W σ noX := fun _ _ _ _ _ _ _ z => z.elim
structure DTs (X : Cx) (W : WX) (ifs : List Expr) (t : DTT) : Prop where
  run : ∀ B, PTs X ifs (liftT X.K B W t)
  mono : ∀ g Q Q' E E', (∀ b g', Q b g' → Q' b g') → (∀ c fs g', E c fs g' → E' c fs g') → t g Q E → t g Q' E'
def xYes : DTT := fun g Q _ => Q true g
theorem dts_nil {X : Cx} {W : WX} : DTs X W [] xYes := ⟨fun B => ⟨fun pins s σ H Q I ⟨Φ, lim, g, E, r, hx, q⟩ => pts_nil.run pins s σ H Q I (q H r)⟩, fun _ _ _ _ _ hq _ q => hq _ _ q⟩
theorem dts_one {X : Cx} {W : WX} {c : Expr} {t : DTT} (h : DT X W c t) : DTs X W [c] t := ⟨fun B => pts_one (h.run B), h.mono⟩
def lcL (gt : DTG) (tt : DTT) (te : DTE) (vs : List Nat) : List T → Ev → List T → (List T → Ev → Prop) → Prop
  | [], g, acc, R => R acc g
  | t :: ts, g, acc, R => gt t g fun g1 => tt g1 (fun b g2 => ifB b (te g2 (fun τ g3 => acc.length < sizeLine ∧ lcL gt tt te vs ts (wipeE g3 vs) (acc ++ [τ]) R) noX) (lcL gt tt te vs ts (wipeE g2 vs) acc R)) noX
inductive Lc (gt : DTG) (tt : DTT) (te : DTE) (vs : List Nat) (ts : List T) (g : Ev) (acc : List T) (R : List T → Ev → Prop) : Prop where
  | mk (h : lcL gt tt te vs ts g acc R) : Lc gt tt te vs ts g acc R
theorem Lc.out {gt : DTG} {tt : DTT} {te : DTE} {vs : List Nat} {ts : List T} {g : Ev} {acc : List T} {R : List T → Ev → Prop} : Lc gt tt te vs ts g acc R → lcL gt tt te vs ts g acc R
  | ⟨h⟩ => h
theorem Lc.ind {gt : DTG} {tt : DTT} {te : DTE} {vs : List Nat} {ts : List T} {g : Ev} {acc : List T} {R : List T → Ev → Prop} (I : Nat → Ev → List T → Prop) (h0 : I 0 g acc)
    (hs : ∀ (i : Nat) (t : T) (g : Ev) (acc : List T), ts[i]? = some t → I i g acc → ∀ R' : Ev → List T → Prop, (∀ g' acc', I (i + 1) g' acc' → R' g' acc') →
      gt t g fun g1 => tt g1 (fun b g2 => ifB b (te g2 (fun τ g3 => acc.length < sizeLine ∧ R' (wipeE g3 vs) (acc ++ [τ])) noX) (R' (wipeE g2 vs) acc)) noX)
    (he : ∀ g acc, I ts.length g acc → R acc g) : Lc gt tt te vs ts g acc R := by
  refine ⟨?_⟩
  have key : ∀ (rest : List T) (i : Nat) (g : Ev) (acc : List T), ts.drop i = rest → i ≤ ts.length → I i g acc → lcL gt tt te vs rest g acc R := by
    intro rest
    induction rest with
    | nil =>
      intro i g acc e hi h
      have : i = ts.length := by
        have := congrArg List.length e
        rw [List.length_drop, List.length_nil] at this
        omega
      subst this
      exact he g acc h
    | cons t rest ih =>
      intro i g acc e hi h
      have ht : ts[i]? = some t := by
        have := congrArg (·[0]?) e
        simpa using this
      have hlt : i < ts.length := by
        have := congrArg List.length e
        rw [List.length_drop, List.length_cons] at this
        omega
      refine hs i t g acc ht h (fun g' acc' => lcL gt tt te vs rest g' acc' R) fun g' acc' h' => ih (i + 1) g' acc' ?_ hlt h'
      have := congrArg (List.drop 1) e
      rw [List.drop_drop] at this
      simpa [Nat.add_comm] using this
  exact key ts 0 g acc rfl (Nat.zero_le _) h0
theorem Lc.fm {gt : DTG} {tt : DTT} {te : DTE} {vs : List Nat} {ts : List T} {g : Ev} {R : List T → Ev → Prop} (F : T → Option T) (hl : ts.length ≤ sizeLine)
    (hs : ∀ t ∈ ts, ∀ (acc : List T) (R' : Ev → List T → Prop), acc.length < sizeLine → (∀ τ, F t = some τ → R' g (acc ++ [τ])) → (F t = none → R' g acc) →
      gt t g fun g1 => tt g1 (fun b g2 => ifB b (te g2 (fun τ g3 => acc.length < sizeLine ∧ R' (wipeE g3 vs) (acc ++ [τ])) noX) (R' (wipeE g2 vs) acc)) noX)
    (he : R (ts.filterMap F) g) : Lc gt tt te vs ts g [] R := by
  refine Lc.ind (fun i g' acc => g' = g ∧ acc = (ts.take i).filterMap F ∧ i ≤ ts.length) ⟨rfl, by simp, Nat.zero_le _⟩ (fun i t g' acc ht h R' hR => ?_) fun g' acc h => ?_
  · obtain ⟨rfl, rfl, hi⟩ := h
    have hlt : i < ts.length := by
      rw [List.getElem?_eq_some_iff] at ht
      exact ht.1
    have e1 : ts.take (i + 1) = ts.take i ++ [t] := by
      rw [List.take_add_one, ht]
      rfl
    refine hs t (List.mem_of_getElem? ht) _ R' ?_ (fun τ hτ => hR _ _ ⟨rfl, ?_, hlt⟩) (fun hn => hR _ _ ⟨rfl, ?_, hlt⟩)
    · have h1 := List.length_filterMap_le F (ts.take i)
      rw [List.length_take] at h1
      omega
    · rw [e1, List.filterMap_append]
      simp [hτ]
    · rw [e1, List.filterMap_append]
      simp [hn]
  · obtain ⟨rfl, rfl, _⟩ := h
    rw [List.take_length]
    exact he
def xLc (it : DTI) (gt : DTG) (tt : DTT) (te : DTE) (vs : List Nat) : DTE := fun g Q E => it g (fun ts g1 => Lc gt tt te vs ts (wipeE g1 vs) [] (fun acc g2 => Q (.node true .lst acc) g2)) E
theorem lcL_mono {gt : DTG} {tt : DTT} {te : DTE} {vs : List Nat} (hg : ∀ τ g Q Q', (∀ g', Q g' → Q' g') → gt τ g Q → gt τ g Q') (ht : ∀ g Q Q' E E', (∀ b g', Q b g' → Q' b g') → (∀ c fs g', E c fs g' → E' c fs g') → tt g Q E → tt g Q' E')
    (he : ∀ g Q Q' E E', (∀ b g', Q b g' → Q' b g') → (∀ c fs g', E c fs g' → E' c fs g') → te g Q E → te g Q' E') : ∀ ts g acc R R', (∀ acc g, R acc g → R' acc g) → lcL gt tt te vs ts g acc R → lcL gt tt te vs ts g acc R'
  | [], g, acc, R, R', h, q => h _ _ q
  | t :: ts, g, acc, R, R', h, q => hg _ _ _ _ (fun g1 q1 => ht _ _ _ _ _ (fun b g2 q2 => by
      cases b with
      | true => exact he _ _ _ _ _ (fun τ g3 q3 => ⟨q3.1, lcL_mono hg ht he ts _ _ R R' h q3.2⟩) (fun _ _ _ z => z) q2
      | false => exact lcL_mono hg ht he ts _ _ R R' h q2) (fun _ _ _ z => z) q1) q
section
variable {X : Cx} {W : WX} {m : Nat → Bool} {tg iter elt e : Expr} {te : DTE} {pos p : Pos}
theorem lc_reads {it : DTI} {gt : DTG} {tt : DTT} {vs : List Nat} {B : Bs} {σ : St} {H : Hp} {Q : VK} (mi : ∀ g Q Q' E E', (∀ ts g', Q ts g' → Q' ts g') → (∀ c fs g', E c fs g' → E' c fs g') → it g Q E → it g Q' E')
    (mg : ∀ τ g Q Q', (∀ g', Q g' → Q' g') → gt τ g Q → gt τ g Q') (mt : ∀ g Q Q' E E', (∀ b g', Q b g' → Q' b g') → (∀ c fs g', E c fs g' → E' c fs g') → tt g Q E → tt g Q' E')
    (me : ∀ g Q Q' E E', (∀ b g', Q b g' → Q' b g') → (∀ c fs g', E c fs g' → E' c fs g') → te g Q E → te g Q' E') (h : liftE X.K B W (xLc it gt tt te vs) σ H Q) :
    tLc (liftI X.K B W it) (liftG X.K B (mB vs) (L2.wipe σ vs) gt) (liftT X.K B W0 tt) (liftE X.K B W0 te) vs σ H Q := by
  obtain ⟨Φ, lim, g, E, r, hx, q⟩ := h
  refine ⟨Φ, lim, g, E, r, hx, mi _ _ _ _ _ (fun ts g1 q1 J Ψ H1 r1 hw D hD => ?_) (fun _ _ _ z => z) q⟩
  have r2 : RepG X.K B lim σ (upd H1 D (.lst [])) g1 (Ψ ++ ((.ref D, .node true .lst []) :: Φ)) := (RepG.make (s := .lst) (zs := []) r1 hD).perm List.perm_middle.symm
  refine ⟨fun i n H => n = ts.length - i ∧ i ≤ ts.length ∧ ∃ g acc, NoOwn g vs ∧ RepG X.K B lim (L2.wipe σ vs) H g (Ψ ++ ((.ref D, .node true .lst acc) :: Φ)) ∧
    lcL gt tt te vs (ts.drop i) g acc (fun acc g2 => ∀ v H', RepG X.K B lim σ H' g2 ((v, .node true .lst acc) :: Φ) → Q v H'), ⟨ts.length, by simp, Nat.zero_le _, _, [], noOwn_wipe g1 vs, r2.wipe vs, q1.out⟩, ?_⟩
  rintro i n H ⟨rfl, hi, g2, acc, no, r3, q3⟩
  obtain ⟨w1, w2⟩ := hw _ H g2 _ i r3
  by_cases hlt : i < ts.length
  · have e : ts.drop i = ts[i] :: ts.drop (i + 1) := (List.drop_eq_getElem_cons hlt)
    rw [e] at q3
    obtain ⟨go, yl⟩ := w1 ts[i] (by simp [hlt])
    refine .inr ⟨go, fun H => ∃ g acc, NoOwn g vs ∧ RepG X.K B lim (L2.wipe σ vs) H g (Ψ ++ ((.ref D, .node true .lst acc) :: Φ)) ∧
      lcL gt tt te vs (ts.drop (i + 1)) g acc (fun acc g2 => ∀ v H', RepG X.K B lim σ H' g2 ((v, .node true .lst acc) :: Φ) → Q v H'), fun H' z => ⟨ts.length - (i + 1), by omega, rfl, hlt, z⟩, fun x H' y => ?_⟩
    refine ⟨_, lim, g2, ts[i], yl x H' y, kept_refl, mg _ _ _ _ (fun g4 q4 σ4 H4 r4 hk4 => ?_) q3⟩
    have ws := wipe_same hk4
    refine ⟨ws, _, lim, g4, noX, r4, liftX0, mt _ _ _ _ _ (fun b g5 q5 H5 r5 => ?_) (fun _ _ _ z => z) q4⟩
    cases b with
    | false =>
      rw [if_neg Bool.false_ne_true]
      refine ⟨_, acc, noOwn_wipe g5 vs, ?_, q5⟩
      have := r5.wipe vs
      rwa [ws] at this
    | true =>
      rw [if_pos rfl]
      refine ⟨_, lim, g5, noX, r5, liftX0, me _ _ _ _ _ (fun τ g6 q6 z H6 r6 => ?_) (fun _ _ _ z => z) q5⟩
      have p1 : ((z, τ) :: (Ψ ++ ((V.ref D, T.node true .lst acc) :: Φ))).Perm ((V.ref D, T.node true .lst acc) :: ((z, τ) :: (Ψ ++ Φ))) :=
        (List.Perm.cons _ List.perm_middle).trans (List.Perm.swap _ _ _)
      obtain ⟨a, us, ea, hl, ha, r7⟩ := (r6.perm p1).open_
      cases ea
      refine ⟨us, ha, by rw [hl]; exact q6.1, _, acc ++ [τ], noOwn_wipe g6 vs, ?_, q6.2⟩
      have r8 : RepG X.K B (D :: lim) σ4 H6 g6 ((us.zip acc ++ [(z, τ)]) ++ (Ψ ++ Φ)) := by
        rw [List.append_assoc]
        exact r7
      have r9 := r8.close (s := .lst) (fun vs e => nomatch (show HO.lst us = HO.tup vs from Option.some.inj (ha.symm.trans e)))
      have e1 : ((us.zip acc ++ [(z, τ)]).map (·.1)) = us ++ [z] := by
        rw [List.map_append, List.map_fst_zip (by omega)]
        rfl
      have e2 : ((us.zip acc ++ [(z, τ)]).map (·.2)) = acc ++ [τ] := by
        rw [List.map_append, List.map_snd_zip (by omega)]
        rfl
      rw [e1, e2] at r9
      have r10 := (r9.perm List.perm_middle.symm).wipe vs
      rwa [ws] at r10
  · have e : ts.drop i = [] := List.drop_eq_nil_of_le (by omega)
    rw [e] at q3
    exact .inl ⟨w2 (by omega), q3 _ H (r3.unwipe no |>.dropTs)⟩
theorem xLc_mono {it : DTI} {gt : DTG} {tt : DTT} {vs : List Nat} (mi : ∀ g Q Q' E E', (∀ ts g', Q ts g' → Q' ts g') → (∀ c fs g', E c fs g' → E' c fs g') → it g Q E → it g Q' E')
    (mg : ∀ τ g Q Q', (∀ g', Q g' → Q' g') → gt τ g Q → gt τ g Q') (mt : ∀ g Q Q' E E', (∀ b g', Q b g' → Q' b g') → (∀ c fs g', E c fs g' → E' c fs g') → tt g Q E → tt g Q' E')
    (me : ∀ g Q Q' E E', (∀ b g', Q b g' → Q' b g') → (∀ c fs g', E c fs g' → E' c fs g') → te g Q E → te g Q' E') :
    ∀ g Q Q' E E', (∀ τ g', Q τ g' → Q' τ g') → (∀ c fs g', E c fs g' → E' c fs g') → xLc it gt tt te vs g Q E → xLc it gt tt te vs g Q' E' := fun g Q Q' E E' hq hE q =>
  mi _ _ _ _ _ (fun ts g1 q1 => ⟨lcL_mono mg mt me ts _ _ _ _ (fun _ _ z => hq _ _ z) q1.out⟩) hE q
theorem d_lc {ifs : List Expr} {scope : Scope} {own : List (Str × Nat)} {it : DTI} {gt : DTG} {tt : DTT} (hc : X.calm = true) (hN : X.N.Nodup) (hi : DI X W tg iter it) (ok : BlkOk X.N X.env.scope scope own)
    (hg : ∀ (s : Shared) (H : Hp) (C : Addr) (cl : List (Str × Addr)) (fp : List Addr), DG (X.blk s H scope (compEnvC scope cl C X.env) fp) (mB (own.map (·.2))) tg gt)
    (ht : ∀ (s : Shared) (H : Hp) (C : Addr) (cl : List (Str × Addr)) (fp : List Addr), DTs (X.blk s H scope (compEnvC scope cl C X.env) fp) W0 ifs tt)
    (he : ∀ (s : Shared) (H : Hp) (C : Addr) (cl : List (Str × Addr)) (fp : List Addr), DE (X.blk s H scope (compEnvC scope cl C X.env) fp) W0 elt te) (hs : ∀ x, foldedSetIterable iter X.env x = pure x := by intro _; rfl) :
    DE X W (.ListComp elt [⟨tg, iter, ifs, 0⟩] scope pos) (xLc it gt tt te (own.map (·.2))) :=
  have mg := fun (s : Shared) (H : Hp) => (hg s H 0 [] []).mono
  have mt := fun (s : Shared) (H : Hp) => (ht s H 0 [] []).mono
  have me := fun (s : Shared) (H : Hp) => (he s H 0 [] []).mono
  ⟨fun B => ⟨fun pins s σ H Q I h => (pe_lc (g := liftG X.K B (mB (own.map (·.2))) (L2.wipe σ (own.map (·.2))) gt) hc hN (hi.run B) ok (fun s H C cl fp => (hg s H C cl fp).run B _) (fun s H C cl fp => (ht s H C cl fp).run B) (fun s H C cl fp => (he s H C cl fp).run B) hs).run pins s σ H Q I
    (lc_reads hi.mono (mg s H) (mt s H) (me s H) h)⟩, xLc_mono hi.mono (mg X.s_0 X.H_0) (mt X.s_0 X.H_0) (me X.s_0 X.H_0)⟩
theorem ds_setLc {i : Nat} {y : Str} {py spos : Pos} {ifs : List Expr} {scope : Scope} {own : List (Str × Nat)} {it : DTI} {gt : DTG} {tt : DTT} (ow : Bool) (hc : X.calm = true) (hN : X.N.Nodup) (hy : X.N[i]? = some y) (hyl : X.env.scope.names.lookup y = some .local) (hmi : m i = false)
    (hsw : swapsWith (.ListComp elt [⟨tg, iter, ifs, 0⟩] scope pos) (some (.Name y py)) spos.line X.env = pure true) (hi : DI X W tg iter it) (ok : BlkOk X.N X.env.scope scope own)
    (hg : ∀ (s : Shared) (H : Hp) (C : Addr) (cl : List (Str × Addr)) (fp : List Addr), DG (X.blk s H scope (compEnvC scope cl C X.env) fp) (mB (own.map (·.2))) tg gt)
    (ht : ∀ (s : Shared) (H : Hp) (C : Addr) (cl : List (Str × Addr)) (fp : List Addr), DTs (X.blk s H scope (compEnvC scope cl C X.env) fp) W0 ifs tt)
    (he : ∀ (s : Shared) (H : Hp) (C : Addr) (cl : List (Str × Addr)) (fp : List Addr), DE (X.blk s H scope (compEnvC scope cl C X.env) fp) W0 elt te) (hs : ∀ x, foldedSetIterable iter X.env x = pure x := by intro _; rfl) :
    DS X W m (.Assign [.Name y py] (.ListComp elt [⟨tg, iter, ifs, 0⟩] scope pos) spos) (sSet ow i (xLc it gt tt te (own.map (·.2)))) := by
  have mg := fun (s : Shared) (H : Hp) => (hg s H 0 [] []).mono
  have mt := fun (s : Shared) (H : Hp) => (ht s H 0 [] []).mono
  have me := fun (s : Shared) (H : Hp) => (he s H 0 [] []).mono
  refine ⟨fun B σ0 => ⟨fun pins s σ H D I ⟨Φ, lim, g, E, r, hk, hX, q⟩ => ?_⟩, fun D D' g h q => xLc_mono hi.mono (mg X.s_0 X.H_0) (mt X.s_0 X.H_0) (me X.s_0 X.H_0) _ _ _ _ _ (fun τ g1 q1 => h.nx _ q1) h.ex q⟩
  refine (ps_setLc (g := liftG X.K B (mB (own.map (·.2))) (L2.wipe σ (own.map (·.2))) gt) (tt := liftT X.K B W0 tt) (te := liftE X.K B W0 te) (wi := liftI X.K B W it) hc hN hy hyl hsw (hi.run B) ok (fun s H C cl fp => (hg s H C cl fp).run B _) (fun s H C cl fp => (ht s H C cl fp).run B) (fun s H C cl fp => (he s H C cl fp).run B) hs).run pins s σ H D I ?_
  refine lc_reads hi.mono (mg s H) (mt s H) (me s H) ⟨Φ, lim, g, E, r, hX σ hk, xLc_mono hi.mono (mg s H) (mt s H) (me s H) _ _ _ _ _ (fun τ g1 q1 v H1 r1 => ?_) (fun _ _ _ z => z) q⟩
  refine q1 (σ.set i (some v)) H1 ?_ (hk.set hmi)
  cases ow with
  | true => exact r1.put'
  | false => exact r1.freezeT.put'
def rtIx : R2T := fun τ1 τ2 Q => match τ1, τ2 with
  | .node _ .lst ts, .leaf (.int i) => ∃ t, atI ts i = some t ∧ Q (frz t)
  | .node _ .tup ts, .leaf (.int i) => ∃ t, atI ts i = some t ∧ Q (frz t)
  | .leaf (.str z), .leaf (.int i) => z.length ≤ sizeLine ∧ ∃ c, atI z.cps.toList i = some c ∧ Q (.leaf (.str ⟨#[c]⟩))
  | _, _ => False
theorem atI_len {α β : Type} {xs : List α} {ys : List β} {i : Int} {y : β} (hl : xs.length = ys.length) (h : atI ys i = some y) : ∃ (j : Nat) (x : α), atI xs i = some x ∧ xs[j]? = some x ∧ ys[j]? = some y := by
  unfold atI at h ⊢
  rw [hl]
  cases e : ixN ys.length i with
  | none => rw [e] at h; cases h
  | some j =>
    rw [e] at h
    have h' : ys[j]? = some y := h
    have hj : j < xs.length := by
      rw [hl]
      rw [List.getElem?_eq_some_iff] at h'
      exact h'.1
    exact ⟨j, xs[j], by show xs[j]? = _; simp [hj], by simp [hj], h'⟩
theorem frzL_at : ∀ {ts : List T} {j : Nat} {t : T}, ts[j]? = some t → (frzL ts)[j]? = some (frz t)
  | [], _, _, h => by simp at h
  | a :: ts, 0, t, h => by
    simp at h
    subst h
    rfl
  | a :: ts, j + 1, t, h => by
    have := frzL_at (ts := ts) (j := j) (t := t) (by simpa using h)
    simpa [frzL] using this
theorem RepG.part {K : PySem.W.Frag} {B : Bs} {lim : List Addr} {σ : St} {H : Hp} {g : Ev} {Φ : Its} {v : V} {o : Bool} {s : Sh} {ts : List T} (h : RepG K B lim σ H g ((v, .node o s ts) :: Φ)) :
    ∃ a vs, v = .ref a ∧ vs.length = ts.length ∧ (Rd H a (s.mk a vs) ∨ Konst K a vs s) ∧ ∀ (j : Nat) (t : T) (x : V), ts[j]? = some t → vs[j]? = some x → RepG K B lim σ H g ((x, frz t) :: Φ) := by
  obtain ⟨a, vs, e, hl, hr, r⟩ := h.parts
  refine ⟨a, vs, e, hl, hr, fun j t x ht hx => ?_⟩
  obtain ⟨y, hy, hz⟩ := zip_get (l := vs) (r := frzL ts) (by rw [hl, frzL_length]) (frzL_at ht)
  rw [hx] at hy
  cases hy
  exact (r.one hz).perm (List.Perm.swap _ _ _) |>.dropT
theorem op2_ix {K : PySem.W.Frag} : Op2 K (rIx K) rtIx := by
  refine ⟨fun B lim σ H g Φ v1 v2 τ1 τ2 Q r q => ?_, fun τ1 τ2 Q Q' hq q => ?_⟩
  · unfold rtIx at q
    split at q
    · rename_i o ts i
      obtain rfl := r.leaf
      obtain ⟨t, ht, q⟩ := q
      obtain ⟨a, vs, rfl, hl, hr, hp⟩ := r.dropT.part
      obtain ⟨j, x, e1, e2, e3⟩ := atI_len hl ht
      exact .inl ⟨a, vs, i, x, rfl, rfl, seqL hr, e1, q x H (hp j t x e3 e2)⟩
    · rename_i o ts i
      obtain rfl := r.leaf
      obtain ⟨t, ht, q⟩ := q
      obtain ⟨a, vs, rfl, hl, hr, hp⟩ := r.dropT.part
      obtain ⟨j, x, e1, e2, e3⟩ := atI_len hl ht
      exact .inr (.inl ⟨a, vs, i, x, rfl, rfl, seqT hr, e1, q x H (hp j t x e3 e2)⟩)
    · rename_i z i
      obtain rfl := r.leaf
      obtain rfl := r.dropT.leaf
      obtain ⟨hz, c, hc, q⟩ := q
      exact .inr (.inr ⟨z, i, c, rfl, rfl, hz, hc, q _ H r.dropT.dropT.addLeaf⟩)
    · exact q.elim
  · unfold rtIx at q
    split at q
    · obtain ⟨t, ht, q⟩ := q
      exact ⟨t, ht, hq _ q⟩
    · obtain ⟨t, ht, q⟩ := q
      exact ⟨t, ht, hq _ q⟩
    · obtain ⟨hz, c, hc, q⟩ := q
      exact ⟨hz, c, hc, hq _ q⟩
    · exact q.elim
theorem d_ix {a b : Expr} {ta tb : DTE} (ha : DE X W a ta) (hb : DE X W b tb) (hs : PlainIx b := by intro _ _; rfl) : DE X W (.Subscript a b pos) (xOp rtIx ta tb) := by
  refine ⟨fun B => PE.imp (pe_ix ix_seq (ha.run B) (hb.run B) hs) fun σ H Q ⟨Φ, lim, g, E, r, hx, q⟩ => ?_, fun g Q Q' E E' hq he q => ?_⟩
  · exact lift2 r hx hb.mono ha.mono q fun v1 v2 τ1 τ2 g2 H2 r2 q2 => op2_ix.1 B lim σ H2 g2 Φ v1 v2 τ1 τ2 Q r2 q2
  · exact ha.mono _ _ _ _ _ (fun τ1 g1 q1 => hb.mono _ _ _ _ _ (fun τ2 g2 q2 => (op2_ix (K := X.K)).2 _ _ _ _ (fun τ z => hq _ _ z) q2) he q1) he q
end
end DL
set_option Elab.async false
set_option linter.all false
set_option maxRecDepth 100000
set_option maxHeartbeats 4000000
namespace DL
open PySem L2
abbrev RNT := List T → (T → Prop) → Prop
def CallN (X : Cx) (f : Value) (r : List V → Hp → VK → Prop) (rt : RNT) : Prop :=
  CallR X f r ∧ (∀ (B : Bs) (lim : List Addr) (σ : St) (H : Hp) (g : Ev) (Φ : Its) (vs : List V) (τs : List T) (Q : VK), vs.length = τs.length → RepG X.K B lim σ H g (vs.zip τs ++ Φ) →
    rt τs (fun τ => ∀ v H', RepG X.K B lim σ H' g ((v, τ) :: Φ) → Q v H') → r vs H Q) ∧ ∀ τs Q Q', (∀ τ, Q τ → Q' τ) → rt τs Q → rt τs Q'
def xCB (rt : RNT) (t : DTA) : DTE := fun g Q E => t g (fun τs g1 => rt τs fun τ => Q τ g1) E
section
variable {X : Cx} {W : WX} {m : Nat → Bool} {a b c e : Expr} {es : List Expr} {ta tb tc te : DTE} {t : DTA} {bs : List (Option Nat)} {pos p : Pos} {x : Str}
theorem xCB_mono {rt : RNT} (hm : ∀ τs Q Q', (∀ τ, Q τ → Q' τ) → rt τs Q → rt τs Q') (ht : ∀ g Q Q' E E', (∀ τs g', Q τs g' → Q' τs g') → (∀ c fs g', E c fs g' → E' c fs g') → t g Q E → t g Q' E') :
    ∀ g Q Q' E E', (∀ τ g', Q τ g' → Q' τ g') → (∀ c fs g', E c fs g' → E' c fs g') → xCB rt t g Q E → xCB rt t g Q' E' := fun g Q Q' E E' hq he q =>
  ht _ _ _ _ _ (fun τs g1 q1 => hm _ _ _ (fun τ z => hq _ _ z) q1) he q
theorem d_callB {id : String} {r : List V → Hp → VK → Prop} {rt : RNT} (hc : CallN X (.builtin id) r rt) (hg : Gl X x) (hm : X.mg x = none) (hv : bootBuiltins x = some (.builtin id)) (ha : DA X W (e :: es) bs t) (hn : x ≠ "__name__" := by decide) (hdb : (x == ("__debug__" : Str)) = false := by decide)
    (he : starEach (e :: es) X.env = (false, eval e X.env) :: starEach es X.env := by rfl) (hpl : (backTo pos (starEach es X.env)).any (·.1) = false := by rfl) : DE X W (.Call (.Name x p) (e :: es) [] pos) (xCB rt t) := by
  refine ⟨fun B => PE.imp (pe_callB hc.1 hg hm hv (ha.run B) hn hdb he hpl) fun σ H Q ⟨Φ, lim, g, E, r, hx, q⟩ => ?_, xCB_mono hc.2.2 ha.mono⟩
  exact ⟨Φ, lim, g, E, r, hx, ha.mono _ _ _ _ _ (fun τs g1 q1 vs H1 hl _ r1 => hc.2.1 B lim σ H1 g1 Φ vs τs Q hl r1 (hc.2.2 _ _ _ (fun τ z v H' r' => z v H' r') q1)) (fun _ _ _ z => z) q⟩
theorem d_callTy {id : String} {r : List V → Hp → VK → Prop} {rt : RNT} (hc : CallN X (.type id) r rt) (hg : Gl X x) (hm : X.mg x = none) (hv : bootBuiltins x = some (.type id)) (ha : DA X W (e :: es) bs t) (hn : x ≠ "__name__" := by decide) (hdb : (x == ("__debug__" : Str)) = false := by decide)
    (he : starEach (e :: es) X.env = (false, eval e X.env) :: starEach es X.env := by rfl) (hpl : (backTo pos (starEach es X.env)).any (·.1) = false := by rfl) : DE X W (.Call (.Name x p) (e :: es) [] pos) (xCB rt t) := by
  refine ⟨fun B => PE.imp (pe_callTy hc.1 hg hm hv (ha.run B) hn hdb he hpl) fun σ H Q ⟨Φ, lim, g, E, r, hx, q⟩ => ?_, xCB_mono hc.2.2 ha.mono⟩
  exact ⟨Φ, lim, g, E, r, hx, ha.mono _ _ _ _ _ (fun τs g1 q1 vs H1 hl _ r1 => hc.2.1 B lim σ H1 g1 Φ vs τs Q hl r1 (hc.2.2 _ _ _ (fun τ z v H' r' => z v H' r') q1)) (fun _ _ _ z => z) q⟩
theorem one_leaf {K : PySem.W.Frag} {B : Bs} {lim : List Addr} {σ : St} {H : Hp} {g : Ev} {Φ : Its} {vs : List V} {w : V} (hl : vs.length = [T.leaf w].length) (r : RepG K B lim σ H g (vs.zip [T.leaf w] ++ Φ)) : vs = [w] ∧ RepG K B lim σ H g Φ := by
  match vs, hl with
  | [v], _ =>
    have r2 : RepG K B lim σ H g ((v, .leaf w) :: Φ) := r
    obtain rfl := r2.leaf
    exact ⟨rfl, r2.dropT⟩
theorem two_leaf {K : PySem.W.Frag} {B : Bs} {lim : List Addr} {σ : St} {H : Hp} {g : Ev} {Φ : Its} {vs : List V} {w w' : V} (hl : vs.length = [T.leaf w, T.leaf w'].length) (r : RepG K B lim σ H g (vs.zip [T.leaf w, T.leaf w'] ++ Φ)) : vs = [w, w'] ∧ RepG K B lim σ H g Φ := by
  match vs, hl with
  | [v, v'], _ =>
    have r2 : RepG K B lim σ H g ((v, .leaf w) :: (v', .leaf w') :: Φ) := r
    obtain rfl := r2.leaf
    obtain rfl := r2.dropT.leaf
    exact ⟨rfl, r2.dropT.dropT⟩
def rnAbs : RNT := fun τs Q => match τs with
  | [.leaf (.int i)] => Q (.leaf (.int (if i < 0 then -i else i)))
  | _ => False
theorem n_abs : CallN X (.builtin "abs") (fun xs H Q => ∃ i, xs = [.int i] ∧ Q (.int (if i < 0 then -i else i)) H) rnAbs := by
  refine ⟨call_abs, fun B lim σ H g Φ vs τs Q hl r q => ?_, fun τs Q Q' h q => ?_⟩
  · unfold rnAbs at q
    split at q
    · obtain ⟨rfl, r'⟩ := one_leaf hl r
      exact ⟨_, rfl, q _ _ r'.addLeaf⟩
    · exact q.elim
  · unfold rnAbs at q
    split at q
    · exact h _ q
    · exact q.elim
def rnInt : RNT := fun τs Q => match τs with
  | [.leaf (.int i)] => Q (.leaf (.int i))
  | [.leaf (.bl k)] => Q (.leaf (.int (if k then 1 else 0)))
  | _ => False
theorem n_int : CallN X (.type "int") (fun xs H Q => (∃ i, xs = [.int i] ∧ Q (.int i) H) ∨ ∃ k, xs = [.bl k] ∧ Q (.int (if k then 1 else 0)) H) rnInt := by
  refine ⟨call_int1, fun B lim σ H g Φ vs τs Q hl r q => ?_, fun τs Q Q' h q => ?_⟩
  · unfold rnInt at q
    split at q
    · obtain ⟨rfl, r'⟩ := one_leaf hl r
      exact .inl ⟨_, rfl, q _ _ r'.addLeaf⟩
    · obtain ⟨rfl, r'⟩ := one_leaf hl r
      exact .inr ⟨_, rfl, q _ _ r'.addLeaf⟩
    · exact q.elim
  · unfold rnInt at q
    split at q
    · exact h _ q
    · exact h _ q
    · exact q.elim
def rnLen : RNT := fun τs Q => match τs with
  | [.node _ .lst ts] => Q (.leaf (.int ts.length))
  | [.node _ .tup ts] => Q (.leaf (.int ts.length))
  | [.leaf (.str z)] => z.length ≤ sizeLine ∧ Q (.leaf (.int z.length))
  | _ => False
def rLenA (K : PySem.W.Frag) : List V → Hp → VK → Prop := fun xs H Q => (∃ p ys, xs = [.ref p] ∧ (SqL K H p ys ∨ SqT K H p ys) ∧ Q (.int ys.length) H) ∨ ∃ z, xs = [.str z] ∧ z.length ≤ sizeLine ∧ Q (.int z.length) H
theorem n_len : CallN X (.builtin "len") (rLenA X.K) rnLen := by
  refine ⟨call_len_seq.or call_len_str, fun B lim σ H g Φ vs τs Q hl r q => ?_, fun τs Q Q' h q => ?_⟩
  · unfold rnLen at q
    split at q
    · rename_i o ts
      match vs, hl with
      | [v], _ =>
        have r2 : RepG X.K B lim σ H g ((v, .node o .lst ts) :: Φ) := r
        obtain ⟨a, us, rfl, hl', hr⟩ := r2.node
        exact .inl ⟨a, us, rfl, .inl (seqL hr), by rw [hl']; exact q _ _ r2.dropT.addLeaf⟩
    · rename_i o ts
      match vs, hl with
      | [v], _ =>
        have r2 : RepG X.K B lim σ H g ((v, .node o .tup ts) :: Φ) := r
        obtain ⟨a, us, rfl, hl', hr⟩ := r2.node
        exact .inl ⟨a, us, rfl, .inr (seqT hr), by rw [hl']; exact q _ _ r2.dropT.addLeaf⟩
    · obtain ⟨rfl, r'⟩ := one_leaf hl r
      exact .inr ⟨_, rfl, q.1, q.2 _ _ r'.addLeaf⟩
    · exact q.elim
  · unfold rnLen at q
    split at q
    · exact h _ q
    · exact h _ q
    · exact ⟨q.1, h _ q.2⟩
    · exact q.elim
def rnMax2 : RNT := fun τs Q => match τs with
  | [.leaf (.int i), .leaf (.int j)] => Q (.leaf (.int (if j > i then j else i)))
  | _ => False
theorem n_max2 (hc : X.calm = true) : CallN X (.builtin "max") (fun xs H Q => ∃ i j, xs = [.int i, .int j] ∧ Q (.int (if j > i then j else i)) H) rnMax2 := by
  refine ⟨call_max2 hc, fun B lim σ H g Φ vs τs Q hl r q => ?_, fun τs Q Q' h q => ?_⟩
  · unfold rnMax2 at q
    split at q
    · obtain ⟨rfl, r'⟩ := two_leaf hl r
      exact ⟨_, _, rfl, q _ _ r'.addLeaf⟩
    · exact q.elim
  · unfold rnMax2 at q
    split at q
    · exact h _ q
    · exact q.elim
def rnMin2 : RNT := fun τs Q => match τs with
  | [.leaf (.int i), .leaf (.int j)] => Q (.leaf (.int (if j < i then j else i)))
  | _ => False
theorem n_min2 (hc : X.calm = true) : CallN X (.builtin "min") (fun xs H Q => ∃ i j, xs = [.int i, .int j] ∧ Q (.int (if j < i then j else i)) H) rnMin2 := by
  refine ⟨call_min2 hc, fun B lim σ H g Φ vs τs Q hl r q => ?_, fun τs Q Q' h q => ?_⟩
  · unfold rnMin2 at q
    split at q
    · obtain ⟨rfl, r'⟩ := two_leaf hl r
      exact ⟨_, _, rfl, q _ _ r'.addLeaf⟩
    · exact q.elim
  · unfold rnMin2 at q
    split at q
    · exact h _ q
    · exact q.elim
mutual
def toP : T → Option PyData
  | .leaf .non => some .none
  | .leaf (.bl b) => some (.bool b)
  | .leaf (.int i) => some (.int i)
  | .leaf (.str x) => some (.str x)
  | .leaf _ => none
  | .node _ .lst ts => (toPL ts).map .list
  | .node _ .tup ts => (toPL ts).map .tuple
  | .node _ _ _ => none
  | .pin _ _ => none
def toPL : List T → Option (List PyData)
  | [] => some []
  | t :: ts => match toP t with
    | none => none
    | some d => (toPL ts).map (d :: ·)
end
mutual
theorem OwnP.dp {K : PySem.W.Frag} {F : Addr → Prop} {H : Hp} : ∀ (t : T) {v : V} {fp : List Addr} {d : PyData}, OwnP K F H v t fp → toP t = some d → Dp K H v d
  | .leaf w, _, _, d, h, e => by
    cases h
    cases w <;> simp only [toP, Option.some.injEq, reduceCtorEq] at e
    · subst e; exact .non
    · subst e; exact .bl _
    · subst e; exact .int _
    · subst e; exact .str _
  | .pin _ _, _, _, _, _, e => by simp [toP] at e
  | .node o s ts, _, _, d, h, e => by
    cases s with
    | lst =>
      simp only [toP] at e
      cases q : toPL ts with
      | none => rw [q] at e; cases e
      | some ds =>
        rw [q] at e
        cases e
        cases h with
        | fz hf hr hk => exact .lst (SqL.of hr) (OwnL.dp ts hk q)
        | own ha hk => exact .lst (SqL.of ha) (OwnL.dp ts hk q)
    | tup =>
      simp only [toP] at e
      cases q : toPL ts with
      | none => rw [q] at e; cases e
      | some ds =>
        rw [q] at e
        cases e
        cases h with
        | fz hf hr hk => exact .tup (SqT.of hr) (OwnL.dp ts hk q)
        | kz hc _ hk => exact .tup (seqT (.inr hc)) (OwnL.dp ts hk q)
        | tk hr hk => exact .tup (seqT (.inl (.inl hr))) (OwnL.dp ts hk q)
        | own ha hk => exact .tup (SqT.of ha) (OwnL.dp ts hk q)
    | dK _ => simp [toP] at e
    | dT _ => simp [toP] at e
    | ins _ _ _ => simp [toP] at e
    | ext _ => simp [toP] at e
    | exc _ => simp [toP] at e
    | lk _ _ => simp [toP] at e
theorem OwnL.dp {K : PySem.W.Frag} {F : Addr → Prop} {H : Hp} : ∀ (ts : List T) {vs : List V} {fp : List Addr} {ds : List PyData}, OwnL K F H vs ts fp → toPL ts = some ds → DpAll K H vs ds
  | [], _, _, _, h, e => by
    cases h
    simp only [toPL, Option.some.injEq] at e
    subst e
    exact .nil
  | t :: ts, _, _, ds, h, e => by
    cases h with
    | cons h1 h2 =>
      simp only [toPL] at e
      cases q1 : toP t with
      | none => rw [q1] at e; cases e
      | some d =>
        rw [q1] at e
        cases q2 : toPL ts with
        | none => simp [q2] at e
        | some ds' =>
          simp only [q2, Option.map_some, Option.some.injEq] at e
          subst e
          exact .cons (OwnP.dp t h1 q1) (OwnL.dp ts h2 q2)
end
theorem RepG.dp {K : PySem.W.Frag} {B : Bs} {lim : List Addr} {σ : St} {H : Hp} {g : Ev} {Φ : Its} {v : V} {τ : T} {d : PyData} (h : RepG K B lim σ H g ((v, τ) :: Φ)) (e : toP τ = some d) : Dp K H v d := by
  obtain ⟨F, zs, fp, en, oz, f, hl⟩ := h
  obtain ⟨fp', pf, o'⟩ := oz.perm (List.perm_middle (a := (v, τ)))
  obtain ⟨f1, f2, rfl, p1, o2⟩ := OwnZ.uncons (zs := zs ++ Φ) o'
  exact p1.dp τ e
def rtEq (neg : Bool) : R2T := fun τ1 τ2 Q => match τ1, τ2 with
  | .leaf (.int i), .leaf (.int j) => Q (.leaf (.bl (if neg then !decide (i = j) else decide (i = j))))
  | .leaf (.str i), .leaf (.str j) => Q (.leaf (.bl (if neg then !decide (i = j) else decide (i = j))))
  | .leaf (.bl i), .leaf (.bl j) => Q (.leaf (.bl (if neg then !decide (i = j) else decide (i = j))))
  | τ1, τ2 => ∃ d e, toP τ1 = some d ∧ toP τ2 = some e ∧ SeqAt.shaped d = true ∧ SeqAt.shaped e = true ∧ Q (.leaf (.bl (if neg then !PyData.eqv d e else PyData.eqv d e)))
theorem rtEq_mono {neg : Bool} : ∀ τ1 τ2 Q Q', (∀ τ, Q τ → Q' τ) → rtEq neg τ1 τ2 Q → rtEq neg τ1 τ2 Q' := by
  intro τ1 τ2 Q Q' hq q
  unfold rtEq at q ⊢
  split at q
  · exact hq _ q
  · exact hq _ q
  · exact hq _ q
  · obtain ⟨d, e, h1, h2, h3, h4, q⟩ := q
    exact ⟨d, e, h1, h2, h3, h4, hq _ q⟩
def rEqA (K : PySem.W.Frag) : R2 := fun x y H Q => rEq x y H Q ∨ rEqD K x y H Q
def rNeA (K : PySem.W.Frag) : R2 := fun x y H Q => rNe x y H Q ∨ rNeD K x y H Q
theorem op_eqA (hu : X.A.units + 64 < cLine) : OpR X (compareOp .Eq) (rEqA X.K) := fun pins s σ H x y v u Q I rx ry h => h.elim (op_eq pins s σ H x y v u Q I rx ry) (op_eqD hu pins s σ H x y v u Q I rx ry)
theorem op_neA (hu : X.A.units + 64 < cLine) : OpR X (compareOp .NotEq) (rNeA X.K) := fun pins s σ H x y v u Q I rx ry h => h.elim (op_ne pins s σ H x y v u Q I rx ry) (op_neD hu pins s σ H x y v u Q I rx ry)
theorem dec_vint (i j : Int) : decide (V.int i = V.int j) = decide (i = j) := by simp
theorem dec_vstr (i j : Str) : decide (V.str i = V.str j) = decide (i = j) := by simp
theorem dec_vbl (i j : Bool) : decide (V.bl i = V.bl j) = decide (i = j) := by simp
theorem op2_eq {K : PySem.W.Frag} : Op2 K (rEqA K) (rtEq false) := by
  refine ⟨fun B lim σ H g Φ v1 v2 τ1 τ2 Q r q => ?_, rtEq_mono⟩
  unfold rtEq at q
  split at q
  · obtain rfl := r.leaf
    obtain rfl := r.dropT.leaf
    refine .inl ⟨rfl, ?_⟩
    rw [dec_vint]
    exact q _ _ r.dropT.dropT.addLeaf
  · obtain rfl := r.leaf
    obtain rfl := r.dropT.leaf
    refine .inl ⟨rfl, ?_⟩
    rw [dec_vstr]
    exact q _ _ r.dropT.dropT.addLeaf
  · obtain rfl := r.leaf
    obtain rfl := r.dropT.leaf
    refine .inl ⟨rfl, ?_⟩
    rw [dec_vbl]
    exact q _ _ r.dropT.dropT.addLeaf
  · obtain ⟨d, e, h1, h2, h3, h4, q⟩ := q
    exact .inr ⟨d, e, r.dropT.dp h1, r.dp h2, h3, h4, q _ _ r.dropT.dropT.addLeaf⟩
theorem op2_ne {K : PySem.W.Frag} : Op2 K (rNeA K) (rtEq true) := by
  refine ⟨fun B lim σ H g Φ v1 v2 τ1 τ2 Q r q => ?_, rtEq_mono⟩
  unfold rtEq at q
  split at q
  · obtain rfl := r.leaf
    obtain rfl := r.dropT.leaf
    refine .inl ⟨rfl, ?_⟩
    rw [dec_vint]
    exact q _ _ r.dropT.dropT.addLeaf
  · obtain rfl := r.leaf
    obtain rfl := r.dropT.leaf
    refine .inl ⟨rfl, ?_⟩
    rw [dec_vstr]
    exact q _ _ r.dropT.dropT.addLeaf
  · obtain rfl := r.leaf
    obtain rfl := r.dropT.leaf
    refine .inl ⟨rfl, ?_⟩
    rw [dec_vbl]
    exact q _ _ r.dropT.dropT.addLeaf
  · obtain ⟨d, e, h1, h2, h3, h4, q⟩ := q
    exact .inr ⟨d, e, r.dropT.dp h1, r.dp h2, h3, h4, q _ _ r.dropT.dropT.addLeaf⟩
def rRepr (K : PySem.W.Frag) : List V → Hp → VK → Prop := fun xs H Q => ∃ v d, xs = [v] ∧ Dp K H v d ∧ d.showable = true ∧ d.hasDict = false ∧ d.depth ≤ 60 ∧ d.shown.length ≤ sizeLine ∧ Q (.str d.shown) H
theorem reads_leafy {h : Heap} {u : Value} {d : PyData} {as : List Addr} (r : Reads h u d as) : (∃ a, u = .ref a) ∨ (u = .none ∧ d = .none) ∨ (∃ b, u = .bool b ∧ d = .bool b) ∨ (∃ i t, u = .int i t ∧ d = .int i) ∨ ∃ x t, u = .str x t ∧ d = .str x := by
  cases r with
  | none => exact .inr (.inl ⟨rfl, rfl⟩)
  | bool b => exact .inr (.inr (.inl ⟨b, rfl, rfl⟩))
  | int i t => exact .inr (.inr (.inr (.inl ⟨i, t, rfl, rfl⟩)))
  | str x t => exact .inr (.inr (.inr (.inr ⟨x, t, rfl, rfl⟩)))
  | list h1 h2 h3 h4 => exact .inl ⟨_, rfl⟩
  | tuple h1 h2 h3 h4 => exact .inl ⟨_, rfl⟩
  | dict h1 h2 h3 h4 h5 => exact .inl ⟨_, rfl⟩
theorem call_reprD (hgd : X.A.guards = some []) (hu : X.A.units + 64 < cLine) : CallR X (.builtin "repr") (rRepr X.K) := by
  intro pins s σ H xs us Q I r h
  obtain ⟨v, d, rfl, hd, hs, hnd, hdep, hsz, q⟩ := h
  obtain ⟨u, rfl, ru⟩ := Vals.one r
  obtain ⟨as, rd⟩ := Dp.reads I d v u hd ru
  have fin : ∀ (h' : Heap) (t tk : Nat), (∀ b o, s.heap.get? b = some o → h'.get? b = some o) → EP X pins σ Q (.str d.shown t) { s with heap := h', toks := tk } := fun h' t tk k => ⟨.str d.shown, H, I.kept k, ⟨t, rfl⟩, q⟩
  rcases reads_leafy rd with ⟨a, rfl⟩ | ⟨rfl, rfl⟩ | ⟨b, rfl, rfl⟩ | ⟨i, t, rfl, rfl⟩ | ⟨x, t, rfl, rfl⟩
  · exact repr_of_reads' rd hs (fun z => by rw [hnd] at z; cases z) hgd (by omega) (fun _ _ z => z) (fun h' u tk k => fin h' u tk k) hsz
  · have := fin s.heap s.toks (s.toks + 1) fun _ _ z => z
    simp only [PyData.shown] at this
    exact PySem.P.repr_of_none this
  · have := fin s.heap s.toks (s.toks + 1) fun _ _ z => z
    simp only [PyData.shown] at this
    exact PySem.P.repr_of_bool this
  · have := fin s.heap s.toks (s.toks + 1) fun _ _ z => z
    simp only [PyData.shown] at this
    exact PySem.P.repr_of_int (by simpa [PyData.showable] using hs) this
  · have := fin s.heap s.toks (s.toks + 1) fun _ _ z => z
    simp only [PyData.shown] at this hsz
    exact PySem.P.repr_of_str this hsz
def rnRepr : RNT := fun τs Q => match τs with
  | [τ] => ∃ d, toP τ = some d ∧ d.showable = true ∧ d.hasDict = false ∧ d.depth ≤ 60 ∧ d.shown.length ≤ sizeLine ∧ Q (.leaf (.str d.shown))
  | _ => False
theorem n_repr (hgd : X.A.guards = some []) (hu : X.A.units + 64 < cLine) : CallN X (.builtin "repr") (rRepr X.K) rnRepr := by
  refine ⟨call_reprD hgd hu, fun B lim σ H g Φ vs τs Q hl r q => ?_, fun τs Q Q' h q => ?_⟩
  · unfold rnRepr at q
    split at q
    · rename_i τ
      match vs, hl with
      | [v], _ =>
        have r2 : RepG X.K B lim σ H g ((v, τ) :: Φ) := r
        obtain ⟨d, h1, h2, h3, h4, h5, q⟩ := q
        exact ⟨v, d, rfl, r2.dp h1, h2, h3, h4, h5, q _ _ r2.dropT.addLeaf⟩
    · exact q.elim
  · unfold rnRepr at q
    split at q
    · obtain ⟨d, h1, h2, h3, h4, h5, q⟩ := q
      exact ⟨d, h1, h2, h3, h4, h5, h _ q⟩
    · exact q.elim
end
end DL
set_option Elab.async false
set_option linter.all false
set_option maxRecDepth 100000
set_option maxHeartbeats 4000000
namespace DL
open PySem L2
theorem upd_self {H : Hp} {a : Addr} {o : HO} (h : H a = some o) : upd H a o = H := by
  funext b
  unfold upd
  split
  · rename_i e
    rw [e, h]
  · rfl
section
variable {K : PySem.W.Frag} {B : Bs} {lim : List Addr} {σ : St} {H H' : Hp} {g : Ev} {Φ Ψ : Its}
theorem set_perm {α : Type} : ∀ {l : List α} {i : Nat} {x : α} (y : α), l[i]? = some x → ∃ r, l.Perm (x :: r) ∧ (l.set i y).Perm (y :: r)
  | [], _, _, _, h => by simp at h
  | a :: l, 0, x, y, h => by
    simp at h
    subst h
    exact ⟨l, .refl _, .refl _⟩
  | a :: l, i + 1, x, y, h => by
    obtain ⟨r, p1, p2⟩ := set_perm (l := l) (i := i) (x := x) y (by simpa using h)
    exact ⟨a :: r, (List.Perm.cons _ p1).trans (List.Perm.swap _ _ _), (List.Perm.cons _ p2).trans (List.Perm.swap _ _ _)⟩
theorem zip_set {α β : Type} : ∀ {l : List α} {r : List β} {i : Nat} {a : α} {b : β}, (l.zip r).set i (a, b) = (l.set i a).zip (r.set i b)
  | [], _, _, _, _ => by simp
  | _ :: _, [], _, _, _ => by simp
  | x :: l, y :: r, 0, a, b => rfl
  | x :: l, y :: r, i + 1, a, b => by
    simp only [List.zip_cons_cons, List.set_cons_succ, List.cons.injEq, true_and]
    exact zip_set
theorem RepG.partO {i : Nat} {s : Sh} {ts : List T} {j : Nat} {t : T} (h : RepG K B lim σ H g Φ) (e : g[i]? = some (some (.node true s ts))) (ht : ts[j]? = some t) :
    ∃ a us x, σ[i]? = some (some (.ref a)) ∧ us.length = ts.length ∧ H a = some (s.mk a us) ∧ us[j]? = some x ∧ RepG K B lim σ H (g.set i (some (.node true s (ts.set j (frz t))))) ((x, frz t) :: Φ) := by
  obtain ⟨v, hv, r1⟩ := h.move e
  obtain ⟨a, us, rfl, hl, ha, r2⟩ := r1.open_
  obtain ⟨x, hx, hz⟩ := zip_get (l := us) (r := ts) hl ht
  obtain ⟨r, p1, p2⟩ := set_perm (x, frz t) hz
  have r3 : RepG K B (a :: lim) σ H (g.set i none) ((x, t) :: (r ++ Φ)) := r2.perm (List.Perm.append_right Φ p1)
  have r4 := r3.freezeT.dup (frz_frz t)
  have r5 : RepG K B (a :: lim) σ H (g.set i none) (us.zip (ts.set j (frz t)) ++ ((x, frz t) :: Φ)) := by
    refine r4.perm ?_
    have e1 : us.zip (ts.set j (frz t)) = (us.zip ts).set j (x, frz t) := by
      rw [zip_set, set_at hx]
    rw [e1]
    refine (List.Perm.cons _ (List.Perm.append_right Φ p2.symm)).trans ?_
    exact List.perm_middle.symm
  have hl2 : us.length = (ts.set j (frz t)).length := by rw [List.length_set]; exact hl
  have r6 := r5.close (s := s) (fun vs e => by rw [List.map_fst_zip (by omega)]; exact Option.some.inj (ha.symm.trans e))
  rw [List.map_fst_zip (by omega), List.map_snd_zip (by omega), upd_self ha] at r6
  have r7 := r6.back hv
  rw [List.set_set] at r7
  exact ⟨a, us, x, hv, hl, ha, hx, r7⟩
theorem RepG.setO {i : Nat} {s : Sh} {ts : List T} {j : Nat} {w : V} {τ : T} (h : RepG K B lim σ H g ((w, τ) :: Φ)) (e : g[i]? = some (some (.node true s ts))) (hj : j < ts.length) (hs : s ≠ .tup := by intro h; cases h) :
    ∃ a us, σ[i]? = some (some (.ref a)) ∧ us.length = ts.length ∧ H a = some (s.mk a us) ∧ RepG K B lim σ (upd H a (s.mk a (us.set j w))) (g.set i (some (.node true s (ts.set j τ)))) Φ := by
  obtain ⟨v, hv, r1⟩ := h.move e
  obtain ⟨a, us, rfl, hl, ha, r2⟩ := r1.open_
  have ht : ts[j]? = some ts[j] := by simp [hj]
  obtain ⟨x, hx, hz⟩ := zip_get (l := us) (r := ts) hl ht
  obtain ⟨r, p1, p2⟩ := set_perm (w, τ) hz
  have r3 : RepG K B (a :: lim) σ H (g.set i none) ((x, ts[j]) :: (r ++ ((w, τ) :: Φ))) := r2.perm (List.Perm.append_right _ p1)
  have r5 : RepG K B (a :: lim) σ H (g.set i none) ((us.set j w).zip (ts.set j τ) ++ Φ) := by
    refine r3.dropT.perm ?_
    rw [← zip_set]
    exact List.perm_middle.trans (List.Perm.append_right Φ p2.symm)
  have hl2 : (us.set j w).length = (ts.set j τ).length := by rw [List.length_set, List.length_set]; exact hl
  have r6 := r5.close (s := s) (fun vs e => absurd (Sh.mk_tup (Option.some.inj (ha.symm.trans e))).1 hs)
  rw [List.map_fst_zip (by omega), List.map_snd_zip (by omega)] at r6
  have r7 := r6.back hv
  rw [List.set_set] at r7
  exact ⟨a, us, hv, hl, ha, r7⟩
theorem RepG.renew {i : Nat} {s s' : Sh} {ts : List T} (h : RepG K B lim σ H g Φ) (e : g[i]? = some (some (.node true s ts))) (hs : s ≠ .tup := by intro h; cases h) :
    ∃ a us, σ[i]? = some (some (.ref a)) ∧ us.length = ts.length ∧ H a = some (s.mk a us) ∧ ∀ (zs Ψ : Its), (zs ++ Ψ).Perm (us.zip ts ++ Φ) →
      RepG K B lim σ (upd H a (s'.mk a (zs.map (·.1)))) (g.set i (some (.node true s' (zs.map (·.2))))) Ψ := by
  obtain ⟨v, hv, r1⟩ := h.move e
  obtain ⟨a, us, rfl, hl, ha, r2⟩ := r1.open_
  refine ⟨a, us, hv, hl, ha, fun zs Ψ p => ?_⟩
  have r6 := (r2.perm p.symm).close (s := s') (fun vs e => absurd (Sh.mk_tup (Option.some.inj (ha.symm.trans e))).1 hs)
  have r7 := r6.back hv
  rwa [List.set_set] at r7
theorem RepG.slot {i : Nat} {t : T} (h : RepG K B lim σ H g Φ) (e : g[i]? = some (some t)) : ∃ v, σ[i]? = some (some v) := by
  obtain ⟨v, hv, _⟩ := h.move e
  exact ⟨v, hv⟩
end
section
variable {X : Cx} {W : WX} {m : Nat → Bool} {a b c e : Expr} {es : List Expr} {ta tb tc te : DTE} {t : DTA} {bs : List (Option Nat)} {pos p : Pos} {x : Str}
def atSlot (i : Nat) (g : Ev) (P : T → Prop) : Prop := match g[i]? with
  | some (some t) => P t
  | _ => False
theorem atSlot_mono {i : Nat} {g : Ev} {P P' : T → Prop} (h : ∀ t, P t → P' t) (q : atSlot i g P) : atSlot i g P' := by
  unfold atSlot at q ⊢
  split at q
  · exact h _ q
  · exact q.elim
theorem atSlot_of {i : Nat} {g : Ev} {P : T → Prop} (q : atSlot i g P) : ∃ t, g[i]? = some (some t) ∧ P t := by
  unfold atSlot at q
  split at q
  · rename_i t h
    exact ⟨t, h, q⟩
  · exact q.elim
def ownL : T → (List T → Prop) → Prop
  | .node true .lst ts, P => P ts
  | _, _ => False
theorem ownL_mono {t : T} {P P' : List T → Prop} (h : ∀ ts, P ts → P' ts) (q : ownL t P) : ownL t P' := by
  unfold ownL at q
  split at q
  · exact h _ q
  · exact q.elim
theorem ownL_of {t : T} {P : List T → Prop} (q : ownL t P) : ∃ ts, t = .node true .lst ts ∧ P ts := by
  unfold ownL at q
  split at q
  · exact ⟨_, rfl, q⟩
  · exact q.elim
def isI : T → (Int → Prop) → Prop
  | .leaf (.int i), P => P i
  | _, _ => False
theorem isI_mono {t : T} {P P' : Int → Prop} (h : ∀ i, P i → P' i) (q : isI t P) : isI t P' := by
  unfold isI at q
  split at q
  · exact h _ q
  · exact q.elim
theorem isI_of {t : T} {P : Int → Prop} (q : isI t P) : ∃ i, t = .leaf (.int i) ∧ P i := by
  unfold isI at q
  split at q
  · exact ⟨_, rfl, q⟩
  · exact q.elim
theorem ixN_lt {n : Nat} {k : Int} {j : Nat} (h : ixN n k = some j) : j < n := (ixN_seq h).2.1
def xIxO (i : Nat) (tb : DTE) : DTE := fun g Q E => atSlot i g fun _ => tb g (fun τ2 g1 => isI τ2 fun k => atSlot i g1 fun t0 => ownL t0 fun ts => ∃ j t, ixN ts.length k = some j ∧ ts[j]? = some t ∧ Q (frz t) (g1.set i (some (.node true .lst (ts.set j (frz t)))))) E
theorem d_ixO (i : Nat) (ha : PE X a (tVar i)) (hb : DE X W b tb) (hs : PlainIx b := by intro _ _; rfl) : DE X W (.Subscript a b pos) (xIxO i tb) := by
  refine ⟨fun B => PE.imp (pe_ix ix_list ha (hb.run B) hs) fun σ H Q ⟨Φ, lim, g, E, r, hx, q⟩ => ?_, fun g Q Q' E E' hq he q => atSlot_mono (fun _ q => hb.mono _ _ _ _ _ (fun τ g1 q1 => isI_mono (fun k q2 => atSlot_mono (fun t0 q3 => ownL_mono (fun ts ⟨j, t, h1, h2, q4⟩ => ⟨j, t, h1, h2, hq _ _ q4⟩) q3) q2) q1) he q) q⟩
  obtain ⟨t0, h0, q⟩ := atSlot_of q
  obtain ⟨v, hv⟩ := r.slot h0
  refine ⟨v, hv, Φ, lim, g, E, r, hx, hb.mono _ _ _ _ _ (fun τ2 g1 q1 v2 H2 r2 => ?_) (fun _ _ _ z => z) q⟩
  obtain ⟨k, rfl, q1⟩ := isI_of q1
  obtain ⟨t1, h1, q1⟩ := atSlot_of q1
  obtain ⟨ts, rfl, j, t, hj, ht, q1⟩ := ownL_of q1
  obtain rfl := r2.leaf
  obtain ⟨ad, us, y, hv2, hl, hH, hy, r3⟩ := r2.dropT.partO h1 ht
  rw [hv] at hv2
  cases hv2
  refine ⟨ad, us, k, y, rfl, rfl, SqL.of hH, ?_, q1 _ _ r3⟩
  unfold atI
  rw [hl, hj]
  exact hy
def gSetI (i : Nat) (ti : DTE) : DTG := fun τ g Q => atSlot i g fun _ => ti g (fun τ2 g1 => isI τ2 fun k => atSlot i g1 fun t0 => ownL t0 fun ts => ∃ j, ixN ts.length k = some j ∧ Q (g1.set i (some (.node true .lst (ts.set j τ))))) noX
theorem dg_setI {o ix : Expr} {ti : DTE} (i : Nat) (ho : PE X o (tVar i)) (hi : DE X W0 ix ti) (ha : ∀ v, assign (.Subscript o ix pos) X.env v = (do
      let ov ← holding [v] (eval o X.env)
      let iv ← holding [v, ov] (eval ix X.env)
      standAt pos
      holding [v, ov, iv] (setItem ov iv v)
      release [v, ov, iv] []) := by intro _; rfl) : DG X m (.Subscript o ix pos) (gSetI i ti) := by
  refine ⟨fun B σ0 => PG.imp (pg_sub ho (hi.run B) set_list ha) fun v σ H Q ⟨Φ, lim, g, τ, r, hk, q⟩ => ?_, fun τ g Q Q' h q => atSlot_mono (fun _ q => hi.mono _ _ _ _ _ (fun τ g1 q1 => isI_mono (fun k q2 => atSlot_mono (fun t0 q3 => ownL_mono (fun ts ⟨j, h1, q4⟩ => ⟨j, h1, h _ q4⟩) q3) q2) q1) (fun _ _ _ z => z) q) q⟩
  obtain ⟨t0, h0, q⟩ := atSlot_of q
  obtain ⟨v0, hv⟩ := r.slot h0
  refine ⟨v0, hv, (v, τ) :: Φ, lim, g, noX, r, liftX0, hi.mono _ _ _ _ _ (fun τ2 g1 q1 v2 H2 r2 => ?_) (fun _ _ _ z => z) q⟩
  obtain ⟨k, rfl, q1⟩ := isI_of q1
  obtain ⟨t1, h1, q1⟩ := atSlot_of q1
  obtain ⟨ts, rfl, j, hj, q1⟩ := ownL_of q1
  obtain rfl := r2.leaf
  obtain ⟨ad, us, hv2, hl, hH, r3⟩ := r2.dropT.setO h1 (ixN_lt hj)
  rw [hv] at hv2
  cases hv2
  exact ⟨ad, us, k, j, rfl, rfl, hH, by rw [hl]; exact hj, q1 _ _ r3 hk⟩
theorem get_list : PGet X (fun o i H Q => ∃ (p : Addr) (xs : List V) (k : Int) (v : V), o = .ref p ∧ i = .int k ∧ 0 ≤ k ∧ SqL X.K H p xs ∧ xs[k.toNat]? = some v ∧ Q v H) := by
  intro pins s σ H o i ov iv Q I ro ri h
  obtain ⟨pa, xs, k, v, rfl, rfl, h0, hs, hv, q⟩ := h
  cases ro
  obtain ⟨t, rfl⟩ := ri
  obtain ⟨its, r, pl, hz⟩ := I.list hs
  obtain ⟨w, ew, rw'⟩ := r.get hv
  have hl := r.length
  have hn := line63
  have hk : k.toNat < xs.length := by
    rw [List.getElem?_eq_some_iff] at hv
    exact hv.1
  exact wpAny_getItem_list pl.isList h0 (by omega) (by simpa using ew) ⟨v, H, I, rw', q⟩
def isLf : T → (V → Prop) → Prop
  | .leaf w, P => P w
  | _, _ => False
theorem isLf_mono {t : T} {P P' : V → Prop} (h : ∀ i, P i → P' i) (q : isLf t P) : isLf t P' := by
  unfold isLf at q
  split at q
  · exact h _ q
  · exact q.elim
theorem isLf_of {t : T} {P : V → Prop} (q : isLf t P) : ∃ i, t = .leaf i ∧ P i := by
  unfold isLf at q
  split at q
  · exact ⟨_, rfl, q⟩
  · exact q.elim
def sAugI (i : Nat) (ti : DTE) (rt : R2T) (te : DTE) : DTS := fun D g => atSlot i g fun _ => ti g (fun τ2 g1 => isI τ2 fun k => 0 ≤ k ∧ atSlot i g1 fun t0 => ownL t0 fun ts => ∃ t, ts[k.toNat]? = some t ∧ isLf t fun w => te g1 (fun τe g2 => rt (.leaf w) τe fun τ =>
  atSlot i g2 fun t2 => ownL t2 fun ts2 => k.toNat < ts2.length ∧ D.nx (g2.set i (some (.node true .lst (ts2.set k.toNat τ))))) D.ex) D.ex
theorem ds_augI {o ix : Expr} {ti : DTE} {op : Operator} {rr : R2} {rt : R2T} {tpos : Pos} (i : Nat) (ho : PE X o (tVar i)) (hi : DE X W ix ti) (he : DE X W e te) (hp : OpR X (inplaceOp op) rr) (hr : Op2 X.K rr rt)
    (ha : ∀ ov iv new, augStore ix ov iv new = (do holding [new, ov, iv] (setItem ov iv new); release [new, ov, iv] []; pure .next) := by intros; rfl) : DS X W m (.AugAssign (.Subscript o ix tpos) op e pos) (sAugI i ti rt te) := by
  refine .mk' (fun B σ0 => ps_augS ho (hi.run B) get_list (he.run B) hp set_list ha) (fun B σ0 D σ H Φ lim g E r hk hX q => ?_) fun D D' g h q => ?_
  · obtain ⟨t0, h0, q⟩ := atSlot_of q
    obtain ⟨v0, hv⟩ := r.slot h0
    refine ⟨v0, hv, Φ, lim, g, E, r, hX σ hk, hi.mono _ _ _ _ _ (fun τ2 g1 q1 v2 H2 r2 => ?_) (fun _ _ _ z => z) q⟩
    obtain ⟨k, rfl, hk0, q1⟩ := isI_of q1
    obtain ⟨t1, h1, q1⟩ := atSlot_of q1
    obtain ⟨ts, rfl, t, ht, q1⟩ := ownL_of q1
    obtain ⟨w, rfl, q1⟩ := isLf_of q1
    obtain rfl := r2.leaf
    obtain ⟨ad, us, y, hv2, hl, hH, hy, r3⟩ := r2.dropT.partO h1 ht
    rw [hv] at hv2
    cases hv2
    obtain rfl := r3.leaf
    have r4 : RepG X.K B lim σ H2 g1 ((y, .leaf y) :: Φ) := by
      have e1 : ts.set k.toNat (frz (.leaf y)) = ts := by
        show ts.set k.toNat (.leaf y) = ts
        exact set_at ht
      rw [e1, set_at h1] at r3
      exact r3
    refine ⟨ad, us, k, y, rfl, rfl, hk0, SqL.of hH, hy, (y, .leaf y) :: Φ, lim, g1, E, r4, hX σ hk, he.mono _ _ _ _ _ (fun τe g2 q2 v3 H3 r5 => ?_) (fun _ _ _ z => z) q1⟩
    refine hr.1 B lim σ H3 g2 Φ y v3 _ τe _ r5 (hr.2 _ _ _ _ (fun τ q3 v4 H4 r6 => ?_) q2)
    obtain ⟨t2, h2, q3⟩ := atSlot_of q3
    obtain ⟨ts2, rfl, hlt, q3⟩ := ownL_of q3
    obtain ⟨ad2, us2, hv3, hl2, hH2, r7⟩ := r6.setO h2 hlt
    rw [hv] at hv3
    cases hv3
    refine ⟨ad, us2, k, k.toNat, rfl, rfl, hH2, ?_, q3 _ _ r7 hk⟩
    unfold ixN
    rw [if_pos hk0, hl2, if_pos (by omega)]
  · refine atSlot_mono (fun _ q => hi.mono _ _ _ _ _ (fun τ g1 q1 => isI_mono (fun k q2 => ⟨q2.1, atSlot_mono (fun t0 q3 => ownL_mono (fun ts ⟨t, h1, q4⟩ => ⟨t, h1, isLf_mono (fun w q5 => ?_) q4⟩) q3) q2.2⟩) q1) h.ex q) q
    exact he.mono _ _ _ _ _ (fun τe g2 q6 => hr.2 _ _ _ _ (fun τ q7 => atSlot_mono (fun t2 q8 => ownL_mono (fun ts2 q9 => ⟨q9.1, h.nx _ q9.2⟩) q8) q7) q6) h.ex q5
def sAug (i : Nat) (rt : R2T) (te : DTE) : DTS := fun D g => atSlot i g fun t0 => isLf t0 fun w => te g (fun τe g1 => rt (.leaf w) τe fun τ => D.nx (g1.set i (some (frz τ)))) D.ex
theorem ds_aug {i : Nat} {op : Operator} {rr : R2} {rt : R2T} {pos' : Pos} (hN : X.N.Nodup) (hi : X.N[i]? = some x) (hx : Loc X.env.scope x) (he : DE X W e te) (hp : OpR X (inplaceOp op) rr) (hr : Op2 X.K rr rt) (hm : m i = false)
    (hf : X.fn x = true ∨ X.env.scope.names.lookup x = some .local := by first | exact .inl rfl | exact .inr rfl | assumption) : DS X W m (.AugAssign (.Name x pos') op e pos) (sAug i rt te) := by
  refine .mk' (fun B σ0 => ps_aug hN hi hx (he.run B) hp hf) (fun B σ0 D σ H Φ lim g E r hk hX q => ?_) fun D D' g h q => ?_
  · obtain ⟨t0, h0, q⟩ := atSlot_of q
    obtain ⟨w, rfl, q⟩ := isLf_of q
    obtain ⟨v0, hv, r1⟩ := r.look h0 rfl
    obtain rfl := r1.leaf
    refine ⟨v0, hv, (v0, .leaf v0) :: Φ, lim, g, E, r1, hX σ hk, he.mono _ _ _ _ _ (fun τe g1 q1 v1 H1 r2 => ?_) (fun _ _ _ z => z) q⟩
    exact hr.1 B lim σ H1 g1 Φ v0 v1 _ τe _ r2 (hr.2 _ _ _ _ (fun τ q2 v2 H2 r3 => q2 _ _ r3.freezeT.put' (hk.set hm)) q1)
  · exact atSlot_mono (fun t0 q => isLf_mono (fun w q => he.mono _ _ _ _ _ (fun τe g1 q1 => hr.2 _ _ _ _ (fun τ q2 => h.nx _ q2) q1) h.ex q) q) q
def xApp (i : Nat) (te : DTE) : DTE := fun g Q E => atSlot i g fun t0 => ownL t0 fun _ => te g (fun τ g1 => atSlot i g1 fun t1 => ownL t1 fun ts => ts.length < sizeLine ∧ Q (.leaf .non) (g1.set i (some (.node true .lst (ts ++ [τ]))))) E
theorem d_app {o : Expr} {apos cpos : Pos} (i : Nat) (ho : PE X o (tVar i)) (he : DE X W e te) (hbase : attributeBase o "append" X.env (eval o X.env) = eval o X.env := by rfl)
    (hfew : ((backTo cpos (starEach [e] X.env)).all (fun x => !x.1) && (backToKw cpos (keywordEach [] X.env)).all (fun x => x.1.isSome) && decide ([e].length + ([] : List Keyword).length + (if ([] : List Keyword).isEmpty then 0 else 1) < 30)) = true := by rfl)
    (hline : (apos.endLine == cpos.line) = true := by rfl) (hs : starEach [e] X.env = (false, eval e X.env) :: starEach [] X.env := by rfl) (hplain : (backTo cpos (starEach [] X.env)).any (·.1) = false := by rfl) : DE X W (.Call (.Attribute o "append" apos) [e] [] cpos) (xApp i te) := by
  refine ⟨fun B => PE.imp (pe_bm PySem.F.plainAttrs_list PySem.F.slot_list_append PySem.F.type_list_append mt_append ho (pa_cons (he.run B) pa_nil hs) hbase hfew hline hs hplain) fun σ H Q ⟨Φ, lim, g, E, r, hx, q⟩ => ?_, fun g Q Q' E E' hq hE q => ?_⟩
  · obtain ⟨t0, h0, q⟩ := atSlot_of q
    obtain ⟨ts0, rfl, q⟩ := ownL_of q
    obtain ⟨ad, us, hv, hl, hH, _⟩ := r.renew (s' := .lst) h0
    refine ⟨.ref ad, hv, .inl ⟨rfl, us, SqL.of hH⟩, Φ, lim, g, E, r, hx, he.mono _ _ _ _ _ (fun τ g1 q1 w H1 r1 => ?_) (fun _ _ _ z => z) q⟩
    obtain ⟨t1, h1, q1⟩ := atSlot_of q1
    obtain ⟨ts, rfl, hlt, q1⟩ := ownL_of q1
    obtain ⟨ad2, us2, hv2, hl2, hH2, k⟩ := r1.renew (s' := .lst) h1
    rw [hv] at hv2
    cases hv2
    refine ⟨ad, us2, w, rfl, rfl, hH2, by omega, ?_⟩
    have r2 := k (us2.zip ts ++ [(w, τ)]) Φ (by rw [List.append_assoc]; exact .refl _)
    have e1 : ((us2.zip ts ++ [(w, τ)]).map (·.1)) = us2 ++ [w] := by
      rw [List.map_append, List.map_fst_zip (by omega)]
      rfl
    have e2 : ((us2.zip ts ++ [(w, τ)]).map (·.2)) = ts ++ [τ] := by
      rw [List.map_append, List.map_snd_zip (by omega)]
      rfl
    rw [e1, e2] at r2
    exact q1 _ _ r2.addLeaf
  · exact atSlot_mono (fun t0 q => ownL_mono (fun _ q => he.mono _ _ _ _ _ (fun τ g1 q1 => atSlot_mono (fun t1 q2 => ownL_mono (fun ts q3 => ⟨q3.1, hq _ _ q3.2⟩) q2) q1) hE q) q) q
end
end DL
set_option Elab.async false
set_option linter.all false
set_option maxRecDepth 100000
set_option maxHeartbeats 4000000
namespace DL
open PySem L2
section
variable {K : PySem.W.Frag} {B : Bs} {lim : List Addr} {σ : St} {H H' : Hp} {g : Ev} {Φ Ψ : Its}
theorem RepG.leaves : ∀ {ws vs : List V}, vs.length = (ws.map T.leaf).length → RepG K B lim σ H g (vs.zip (ws.map T.leaf) ++ Φ) → vs = ws
  | [], [], _, _ => rfl
  | [], _ :: _, h, _ => by cases h
  | _ :: _, [], h, _ => by cases h
  | w :: ws, v :: vs, h, r => by
    have r1 : RepG K B lim σ H g ((v, .leaf w) :: (vs.zip (ws.map T.leaf) ++ Φ)) := r
    obtain rfl := r1.leaf
    rw [RepG.leaves (ws := ws) (vs := vs) (by simpa using h) r1.dropT]
theorem frzL_leaves (ws : List V) : frzL (ws.map T.leaf) = ws.map T.leaf := by
  rw [frzL_map, List.map_map]
  rfl
theorem RepG.flats {v : V} {o : Bool} {s : Sh} {ws : List V} (h : RepG K B lim σ H g ((v, .node o s (ws.map T.leaf)) :: Φ)) :
    ∃ a, v = .ref a ∧ (Rd H a (s.mk a ws) ∨ Konst K a ws s) := by
  obtain ⟨a, vs, e, hl, hr, r⟩ := h.parts
  rw [frzL_leaves] at r
  rw [RepG.leaves hl r] at hr
  exact ⟨a, e, hr⟩
theorem RepG.kidsH {v : V} {s : Sh} {ts : List T} (hs : s ≠ .tup) (h : RepG K B lim σ H g ((v, .node false s ts) :: Φ)) :
    ∃ a vs, v = .ref a ∧ vs.length = ts.length ∧ H a = some (s.mk a vs) ∧ RepG K B lim σ H g (vs.zip ts ++ (v, .node false s ts) :: Φ) := by
  obtain ⟨F, zs, fp, en, oz, f, hl⟩ := h
  obtain ⟨fp', pf, o'⟩ := oz.perm (List.perm_middle (a := (v, T.node false s ts)))
  obtain ⟨f1, f2, rfl, p1, o2⟩ := OwnZ.uncons (zs := zs ++ Φ) o'
  have f' := f.perm (List.Perm.append_left lim pf)
  have p1' := p1
  have fin : ∀ vs : List V, OwnL K F H vs ts [] → f1 = [] → RepG K B lim σ H g (vs.zip ts ++ (v, .node false s ts) :: Φ) := fun vs hk e => by
    subst e
    have oz2 : OwnZ K F H (vs.zip ts ++ ((v, T.node false s ts) :: (zs ++ Φ))) ([] ++ ([] ++ f2)) := hk.zip.append (.cons p1' o2)
    refine rep_items (ds := []) en oz2 f' hl ?_
    rw [List.nil_append]
    have e1 : (vs.zip ts ++ (v, T.node false s ts) :: (zs ++ Φ)).Perm ((zs ++ ((v, T.node false s ts) :: Φ)) ++ vs.zip ts) :=
      List.perm_append_comm.trans (List.Perm.append_right _ List.perm_middle.symm)
    refine e1.trans ?_
    rw [List.append_assoc]
    exact List.Perm.append_left _ List.perm_append_comm
  cases p1 with
  | fz hf hr hk => exact ⟨_, _, rfl, hk.length, hr, fin _ hk rfl⟩
  | kz hc _ hk => exact absurd rfl hs
  | tk _ _ => exact absurd rfl hs
theorem RepG.subs {zs ys : Its} (e : ys.Sublist zs) (h : RepG K B lim σ H g (zs ++ Φ)) : RepG K B lim σ H g (ys ++ Φ) := by
  induction e generalizing Φ with
  | slnil => exact h
  | cons x _ ih => exact ih (RepG.dropT h)
  | cons_cons x _ ih =>
    rename_i l1 l2 _
    have h1 : RepG K B lim σ H g (l2 ++ x :: Φ) := h.perm List.perm_middle.symm
    exact (ih h1).perm List.perm_middle
end
def cutA {α : Type} (xs : List α) (lo hi : Option Int) : List α := (xs.drop (HT.sIx xs.length 0 lo)).take (HT.sIx xs.length xs.length hi - HT.sIx xs.length 0 lo)
theorem cutV_eq (xs : List V) (lo hi : Option Int) : cutV xs lo hi = cutA xs lo hi := rfl
theorem cutA_zip {α β : Type} {xs : List α} {ys : List β} (h : xs.length = ys.length) (lo hi : Option Int) : (cutA xs lo hi).zip (cutA ys lo hi) = cutA (xs.zip ys) lo hi := by
  unfold cutA
  have e : (xs.zip ys).length = xs.length := by rw [List.length_zip]; omega
  rw [e, ← h, List.zip_eq_zipWith, List.zip_eq_zipWith, List.drop_zipWith, List.take_zipWith]
theorem cutA_sub {α : Type} (xs : List α) (lo hi : Option Int) : (cutA xs lo hi).Sublist xs := (List.take_sublist _ _).trans (List.drop_sublist _ _)
theorem cutA_len {α β : Type} {xs : List α} {ys : List β} (h : xs.length = ys.length) (lo hi : Option Int) : (cutA xs lo hi).length = (cutA ys lo hi).length := by
  unfold cutA
  rw [List.length_take, List.length_take, List.length_drop, List.length_drop, h]
abbrev DTO := Ev → (Option Int → Ev → Prop) → XP → Prop
def liftO (K : PySem.W.Frag) (B : Bs) (W : WX) (t : DTO) : TO := fun σ H Q => ∃ (Φ : Its) (lim : List Addr) (g : Ev) (E : XP), RepG K B lim σ H g Φ ∧ liftX K B W σ E ∧ t g (fun o g' => ∀ H', RepG K B lim σ H' g' Φ → Q o H') E
structure DO (X : Cx) (W : WX) (e : Option Expr) (t : DTO) : Prop where
  run : ∀ B, PO X e (liftO X.K B W t)
  mono : ∀ g Q Q' E E', (∀ b g', Q b g' → Q' b g') → (∀ c fs g', E c fs g' → E' c fs g') → t g Q E → t g Q' E'
def xNoP : DTO := fun g Q _ => Q none g
def xPart (te : DTE) : DTO := fun g Q E => te g (fun τ g1 => isI τ fun i => Q (some i) g1) E
theorem PO.imp {X : Cx} {e : Option Expr} {t t' : TO} (h : PO X e t) (i : ∀ σ H Q, t' σ H Q → t σ H Q) : PO X e t' := ⟨fun pins s σ H Q I hw => h.run pins s σ H Q I (i σ H Q hw)⟩
section
variable {X : Cx} {W : WX} {m : Nat → Bool} {a b c e : Expr} {es : List Expr} {ta tb tc te : DTE} {t : DTA} {bs : List (Option Nat)} {pos p p2 : Pos} {x : Str} {lo hi : Option Expr} {tl th : DTO}
theorem do_none : DO X W none xNoP := ⟨fun B => PO.imp po_none fun σ H Q ⟨Φ, lim, g, E, r, hx, q⟩ => q H r, fun g Q Q' E E' hq _ q => hq _ _ q⟩
theorem do_some (h : DE X W e te) : DO X W (some e) (xPart te) := by
  refine ⟨fun B => PO.imp (po_some (h.run B)) fun σ H Q ⟨Φ, lim, g, E, r, hx, q⟩ => ?_, fun g Q Q' E E' hq he q => h.mono _ _ _ _ _ (fun τ g1 q1 => isI_mono (fun i z => hq _ _ z) q1) he q⟩
  refine ⟨Φ, lim, g, E, r, hx, h.mono _ _ _ _ _ (fun τ g1 q1 v H1 r1 => ?_) (fun _ _ _ z => z) q⟩
  obtain ⟨i, rfl, q1⟩ := isI_of q1
  obtain rfl := r1.leaf
  exact ⟨i, rfl, q1 _ r1.dropT⟩
def rtSl : T → Option Int → Option Int → (T → Prop) → Prop := fun τ lo hi Q => match τ with
  | .node _ .lst ts => Q (.node true .lst (cutA (frzL ts) lo hi))
  | .node _ .tup ts => ¬ (HT.sIx ts.length 0 lo = 0 ∧ HT.sIx ts.length ts.length hi = ts.length) ∧ Q (.node true .tup (cutA (frzL ts) lo hi))
  | .pin .lst vs => Q (.node true .lst ((cutA vs lo hi).map .leaf))
  | .leaf (.str z) => z.length ≤ sizeLine ∧ Q (.leaf (.str (cutS z lo hi)))
  | _ => False
theorem rtSl_mono {τ : T} {l u : Option Int} {Q Q' : T → Prop} (h : ∀ τ, Q τ → Q' τ) (q : rtSl τ l u Q) : rtSl τ l u Q' := by
  unfold rtSl at q ⊢
  split at q
  · exact h _ q
  · exact ⟨q.1, h _ q.2⟩
  · exact h _ q
  · exact ⟨q.1, h _ q.2⟩
  · exact q.elim
def xSl (te : DTE) (tl th : DTO) : DTE := fun g Q E => te g (fun τ g1 => tl g1 (fun l g2 => th g2 (fun u g3 => rtSl τ l u fun τ' => Q τ' g3) E) E) E
def rSlA (K : PySem.W.Frag) : V → Option Int → Option Int → Hp → VK → Prop := fun x lo hi H Q => (rSlL K x lo hi H Q ∨ rSlT K x lo hi H Q) ∨ rSlS x lo hi H Q
theorem make_cut {B : Bs} {K : PySem.W.Frag} {lim : List Addr} {σ : St} {H : Hp} {g : Ev} {Φ : Its} {us : List V} {ts : List T} {lo hi : Option Int} (s : Sh) (hl : us.length = ts.length) (r : RepG K B lim σ H g (us.zip ts ++ Φ)) {q : Addr} (hq : H q = none) :
    RepG K B lim σ (upd H q (s.mk q (cutV us lo hi))) g ((.ref q, .node true s (cutA ts lo hi)) :: Φ) := by
  have r1 : RepG K B lim σ H g ((cutA us lo hi).zip (cutA ts lo hi) ++ Φ) := by
    rw [cutA_zip hl]
    exact r.subs (cutA_sub _ _ _)
  exact make_of s (cutA_len hl lo hi) r1 hq
theorem leavesR {B : Bs} {K : PySem.W.Frag} {lim : List Addr} {σ : St} {H : Hp} {g : Ev} {Φ : Its} (r : RepG K B lim σ H g Φ) : ∀ vs : List V, RepG K B lim σ H g (vs.zip (vs.map T.leaf) ++ Φ)
  | [] => r
  | v :: vs => (leavesR r vs).addLeaf
theorem d_slice (he : DE X W e te) (hl : DO X W lo tl) (hu : DO X W hi th) : DE X W (.Subscript e (.Slice lo hi none p2) pos) (xSl te tl th) := by
  refine ⟨fun B => PE.imp (pe_slice ((SlR.or (sl_list (X := X)) (sl_tup (X := X))).or sl_str) (he.run B) (hl.run B) (hu.run B)) fun σ H Q ⟨Φ, lim, g, E, r, hx, q⟩ => ?_, fun g Q Q' E E' hq hE q => he.mono _ _ _ _ _ (fun τ g1 q1 => hl.mono _ _ _ _ _ (fun l g2 q2 => hu.mono _ _ _ _ _ (fun u g3 q3 => rtSl_mono (fun τ z => hq _ _ z) q3) hE q2) hE q1) hE q⟩
  refine ⟨Φ, lim, g, E, r, hx, he.mono _ _ _ _ _ (fun τ g1 q1 v H1 r1 => ?_) (fun _ _ _ z => z) q⟩
  refine ⟨(v, τ) :: Φ, lim, g1, E, r1, hx, hl.mono _ _ _ _ _ (fun l g2 q2 H2 r2 => ?_) (fun _ _ _ z => z) q1⟩
  refine ⟨(v, τ) :: Φ, lim, g2, E, r2, hx, hu.mono _ _ _ _ _ (fun u g3 q3 H3 r3 => ?_) (fun _ _ _ z => z) q2⟩
  unfold rtSl at q3
  split at q3
  · rename_i o ts
    obtain ⟨ad, us, rfl, hlen, hr, r4⟩ := r3.parts
    refine .inl (.inl ⟨ad, us, rfl, seqL hr, fun q hq => q3 _ _ ?_⟩)
    exact make_cut .lst (ts := frzL ts) (by rw [hlen, frzL_length]) ((r4.perm (List.perm_append_comm (l₁ := us.zip (frzL ts)) (l₂ := (V.ref ad, T.node false .lst (frzL ts)) :: Φ))).dropT.perm List.perm_append_comm) hq
  · rename_i o ts
    obtain ⟨ad, us, rfl, hlen, hr, r4⟩ := r3.parts
    refine .inl (.inr ⟨ad, us, rfl, seqT hr, by rw [hlen]; exact q3.1, fun q hq => q3.2 _ _ ?_⟩)
    exact make_cut .tup (ts := frzL ts) (by rw [hlen, frzL_length]) ((r4.perm (List.perm_append_comm (l₁ := us.zip (frzL ts)) (l₂ := (V.ref ad, T.node false .tup (frzL ts)) :: Φ))).dropT.perm List.perm_append_comm) hq
  · rename_i vs
    obtain ⟨ad, rfl, hr⟩ := r3.pinAt
    refine .inl (.inl ⟨ad, vs, rfl, seqL hr, fun q hq => q3 _ _ ?_⟩)
    exact make_of .lst (by simp) (leavesR r3.dropT (cutV vs l u)) hq
  · rename_i z
    obtain rfl := r3.leaf
    exact .inr ⟨z, rfl, q3.1, q3.2 _ _ r3.dropT.addLeaf⟩
  · exact q3.elim
def rtCat : R2T := fun τ1 τ2 Q => match τ1, τ2 with
  | .node _ .lst ts, .node _ .lst us => ts.length + us.length ≤ sizeLine ∧ Q (.node true .lst (frzL ts ++ frzL us))
  | .leaf (.int i), .leaf (.int j) => Q (.leaf (.int (i + j)))
  | _, _ => False
theorem rtCat_mono : ∀ τ1 τ2 Q Q', (∀ τ, Q τ → Q' τ) → rtCat τ1 τ2 Q → rtCat τ1 τ2 Q' := by
  intro τ1 τ2 Q Q' hq q
  unfold rtCat at q
  split at q
  · exact ⟨q.1, hq _ q.2⟩
  · exact hq _ q
  · exact q.elim
def rAdd : R2 := fun x y H Q => rCat x y H Q ∨ rI0 (fun i j => .int (i + j)) x y H Q
theorem op_addL : OpR X (binaryOp .Add) rAdd := fun pins s σ H x y v u Q I rx ry h => h.elim (op_cat pins s σ H x y v u Q I rx ry) (op_add pins s σ H x y v u Q I rx ry)
theorem frz_node (o : Bool) (s : Sh) (ts : List T) : frz (T.node o s ts) = .node false s (frzL ts) := by simp [frz]
theorem zip_app {α β : Type} {l l' : List α} {r r' : List β} (h : l.length = r.length) : (l ++ l').zip (r ++ r') = l.zip r ++ l'.zip r' := List.zip_append h
theorem op2_cat {K : PySem.W.Frag} : Op2 K rAdd rtCat := by
  refine ⟨fun B lim σ H g Φ v1 v2 τ1 τ2 Q r q => ?_, rtCat_mono⟩
  unfold rtCat at q
  split at q
  · rename_i o ts o' us
    have r0 := r.freezeT
    rw [frz_node] at r0
    have r1 := (r0.perm (List.Perm.swap _ _ _)).freezeT
    rw [frz_node] at r1
    obtain ⟨a1, vs1, rfl, hl1, hr1, r2⟩ := r1.kidsH (by nofun)
    have r3 := r2.perm (Ψ := (v2, .node false .lst (frzL us)) :: (vs1.zip (frzL ts) ++ (V.ref a1, T.node false .lst (frzL ts)) :: Φ)) (by
      have e := List.perm_middle (a := (v2, T.node false .lst (frzL us))) (l₁ := vs1.zip (frzL ts) ++ [(V.ref a1, T.node false .lst (frzL ts))]) (l₂ := Φ)
      simpa using e)
    obtain ⟨a2, vs2, rfl, hl2, hr2, r4⟩ := r3.kidsH (by nofun)
    refine .inl ⟨a1, a2, vs1, vs2, rfl, rfl, hr1, hr2, by rw [hl1, hl2, frzL_length, frzL_length]; exact q.1, fun p hp => q.2 _ _ ?_⟩
    have r5 : RepG K B lim σ H g ((vs1 ++ vs2).zip (frzL ts ++ frzL us) ++ Φ) := by
      rw [zip_app hl1]
      have r6 := r4.perm (Ψ := (V.ref a2, T.node false .lst (frzL us)) :: (V.ref a1, T.node false .lst (frzL ts)) :: (vs1.zip (frzL ts) ++ vs2.zip (frzL us) ++ Φ)) (by
        refine (List.perm_middle).trans (List.Perm.cons _ ?_)
        have e1 : (vs2.zip (frzL us) ++ (vs1.zip (frzL ts) ++ (V.ref a1, T.node false .lst (frzL ts)) :: Φ)).Perm ((V.ref a1, T.node false .lst (frzL ts)) :: (vs2.zip (frzL us) ++ (vs1.zip (frzL ts) ++ Φ))) := by
          rw [← List.append_assoc, ← List.append_assoc]
          exact List.perm_middle
        refine e1.trans (List.Perm.cons _ ?_)
        rw [← List.append_assoc]
        exact List.Perm.append_right _ List.perm_append_comm)
      exact r6.dropT.dropT
    have hl : (vs1 ++ vs2).length = (frzL ts ++ frzL us).length := by rw [List.length_append, List.length_append, hl1, hl2]
    exact make_of .lst hl r5 hp
  · obtain rfl := r.leaf
    obtain rfl := r.dropT.leaf
    exact .inr ⟨_, _, rfl, rfl, q _ _ r.dropT.dropT.addLeaf⟩
  · exact q.elim
def rtIn (neg : Bool) : R2T := fun τ1 τ2 Q => match τ2 with
  | .node _ .lst ts => ∃ w ws, τ1 = .leaf w ∧ ts = ws.map .leaf ∧ flatV w = true ∧ ws.all flatV = true ∧ Q (.leaf (.bl (if neg then !inV w ws else inV w ws)))
  | .node _ .tup ts => ∃ w ws, τ1 = .leaf w ∧ ts = ws.map .leaf ∧ flatV w = true ∧ ws.all flatV = true ∧ Q (.leaf (.bl (if neg then !inV w ws else inV w ws)))
  | _ => False
theorem op2_in {K : PySem.W.Frag} {neg : Bool} : Op2 K (rIn K neg) (rtIn neg) := by
  refine ⟨fun B lim σ H g Φ v1 v2 τ1 τ2 Q r q => ?_, fun τ1 τ2 Q Q' hq q => ?_⟩
  · unfold rtIn at q
    split at q
    · obtain ⟨w, ws, rfl, rfl, h1, h2, q⟩ := q
      obtain rfl := r.dropT.leaf
      obtain ⟨a, rfl, hr⟩ := r.flats
      exact ⟨a, ws, rfl, .inl (seqL hr), h1, h2, q _ _ r.dropT.dropT.addLeaf⟩
    · obtain ⟨w, ws, rfl, rfl, h1, h2, q⟩ := q
      obtain rfl := r.dropT.leaf
      obtain ⟨a, rfl, hr⟩ := r.flats
      exact ⟨a, ws, rfl, .inr (seqT hr), h1, h2, q _ _ r.dropT.dropT.addLeaf⟩
    · exact q.elim
  · unfold rtIn at q ⊢
    split at q
    · obtain ⟨w, ws, e, e', h1, h2, q⟩ := q
      exact ⟨w, ws, e, e', h1, h2, hq _ q⟩
    · obtain ⟨w, ws, e, e', h1, h2, q⟩ := q
      exact ⟨w, ws, e, e', h1, h2, hq _ q⟩
    · exact q.elim
abbrev intsT (ns : List Int) : List T := ns.map fun i => .leaf (.int i)
theorem intsT_eq (ns : List Int) : intsT ns = (ns.map V.int).map T.leaf := by rw [List.map_map]; rfl
def rnSum : RNT := fun τs Q => match τs with
  | [.node _ .lst ts] => ∃ ns : List Int, ts = intsT ns ∧ Q (.leaf (.int ns.sum))
  | _ => False
theorem n_sum (hc : X.calm = true) : CallN X (.builtin "sum") (rSum X.K) rnSum := by
  refine ⟨cr_sum hc, fun B lim σ H g Φ vs τs Q hl r q => ?_, fun τs Q Q' h q => ?_⟩
  · unfold rnSum at q
    split at q
    · obtain ⟨ns, rfl, q⟩ := q
      match vs, hl with
      | [v], _ =>
        rename_i o _
        have r2 : RepG X.K B lim σ H g ((v, .node o .lst ((ns.map V.int).map T.leaf)) :: Φ) := by
          rw [← intsT_eq]
          exact r
        obtain ⟨a, rfl, hr⟩ := r2.flats
        exact ⟨a, ns, rfl, seqL hr, q _ _ r2.dropT.addLeaf⟩
    · exact q.elim
  · unfold rnSum at q
    split at q
    · obtain ⟨ns, e, q⟩ := q
      exact ⟨ns, e, h _ q⟩
    · exact q.elim
def rnSortedI : RNT := fun τs Q => match τs with
  | [.node _ .lst ts] => ∃ ns : List Int, ts = intsT ns ∧ ∀ ns' : List Int, ns'.Perm ns → ns'.Pairwise (· ≤ ·) → Q (.node true .lst (intsT ns'))
  | _ => False
theorem n_sortedI : CallN X (.builtin "sorted") (rSortedI X.K) rnSortedI := by
  refine ⟨cr_sortedI, fun B lim σ H g Φ vs τs Q hl r q => ?_, fun τs Q Q' h q => ?_⟩
  · unfold rnSortedI at q
    split at q
    · obtain ⟨ns, rfl, q⟩ := q
      match vs, hl with
      | [v], _ =>
        rename_i o _
        have r2 : RepG X.K B lim σ H g ((v, .node o .lst ((ns.map V.int).map T.leaf)) :: Φ) := by
          rw [← intsT_eq]
          exact r
        obtain ⟨a, rfl, hr⟩ := r2.flats
        refine ⟨a, ns, rfl, seqL hr, fun ns' p hp1 hp2 hp => q ns' hp1 hp2 _ _ ?_⟩
        rw [intsT_eq]
        exact make_of .lst (by simp) (leavesR r2.dropT (ns'.map V.int)) hp
    · exact q.elim
  · unfold rnSortedI at q
    split at q
    · obtain ⟨ns, e, q⟩ := q
      exact ⟨ns, e, fun ns' h1 h2 => h _ (q ns' h1 h2)⟩
    · exact q.elim
abbrev DTR := Ev → (Int → Int → Ev → Prop) → XP → Prop
abbrev TRg := St → Hp → (Int → Int → Hp → Prop) → Prop
def liftR (K : PySem.W.Frag) (B : Bs) (W : WX) (t : DTR) : TRg := fun σ H Q => ∃ (Φ : Its) (lim : List Addr) (g : Ev) (E : XP), RepG K B lim σ H g Φ ∧ liftX K B W σ E ∧ t g (fun i j g' => ∀ H', RepG K B lim σ H' g' Φ → Q i j H') E
structure DR (X : Cx) (W : WX) (e : Expr) (t : DTR) : Prop where
  run : ∀ B, PRg X e (liftR X.K B W t)
  mono : ∀ g Q Q' E E', (∀ i j g', Q i j g' → Q' i j g') → (∀ c fs g', E c fs g' → E' c fs g') → t g Q E → t g Q' E'
def xRg1 (ta : DTE) : DTR := fun g Q E => ta g (fun τ g1 => isI τ fun n => Q 0 n g1) E
def xRg2 (ta tb : DTE) : DTR := fun g Q E => ta g (fun τ g1 => isI τ fun i => tb g1 (fun τ' g2 => isI τ' fun j => Q i j g2) E) E
theorem PRg.imp {X : Cx} {e : Expr} {t t' : TRg} (h : PRg X e t) (i : ∀ σ H Q, t' σ H Q → t σ H Q) : PRg X e t' := fun pins s σ H Q I hw => h pins s σ H Q I (i σ H Q hw)
theorem dr_1 (hg : Gl X "range") (hm : X.mg "range" = none) (ha : DE X W a ta) (na : starEach [a] X.env = (false, eval a X.env) :: starEach [] X.env := by rfl) : DR X W (.Call (.Name "range" p) [a] [] pos) (xRg1 ta) := by
  refine ⟨fun B => PRg.imp (prg_1 hg hm (ha.run B) na) fun σ H Q ⟨Φ, lim, g, E, r, hx, q⟩ => ?_, fun g Q Q' E E' hq he q => ha.mono _ _ _ _ _ (fun τ g1 q1 => isI_mono (fun n z => hq _ _ _ z) q1) he q⟩
  refine ⟨Φ, lim, g, E, r, hx, ha.mono _ _ _ _ _ (fun τ g1 q1 v H1 r1 => ?_) (fun _ _ _ z => z) q⟩
  obtain ⟨i, rfl, q1⟩ := isI_of q1
  obtain rfl := r1.leaf
  exact ⟨i, rfl, q1 _ r1.dropT⟩
theorem dr_2 (hg : Gl X "range") (hm : X.mg "range" = none) (ha : DE X W a ta) (hb : DE X W b tb) (na : starEach [a, b] X.env = (false, eval a X.env) :: starEach [b] X.env := by rfl)
    (nb : starEach [b] X.env = (false, eval b X.env) :: starEach [] X.env := by rfl) (hp : (backTo pos (starEach [b] X.env)).any (·.1) = false := by rfl) : DR X W (.Call (.Name "range" p) [a, b] [] pos) (xRg2 ta tb) := by
  refine ⟨fun B => PRg.imp (prg_2 hg hm (ha.run B) (hb.run B) na nb hp) fun σ H Q ⟨Φ, lim, g, E, r, hx, q⟩ => ?_, fun g Q Q' E E' hq he q => ha.mono _ _ _ _ _ (fun τ g1 q1 => isI_mono (fun n z => hb.mono _ _ _ _ _ (fun τ' g2 q2 => isI_mono (fun j z => hq _ _ _ z) q2) he z) q1) he q⟩
  refine ⟨Φ, lim, g, E, r, hx, ha.mono _ _ _ _ _ (fun τ g1 q1 v H1 r1 => ?_) (fun _ _ _ z => z) q⟩
  obtain ⟨i, rfl, q1⟩ := isI_of q1
  obtain rfl := r1.leaf
  refine ⟨Φ, lim, g1, E, r1.dropT, hx, hb.mono _ _ _ _ _ (fun τ g1 q1 v H1 r1 => ?_) (fun _ _ _ z => z) q1⟩
  obtain ⟨j, rfl, q1⟩ := isI_of q1
  obtain rfl := r1.leaf
  exact ⟨i, j, rfl, rfl, q1 _ r1.dropT⟩
def xLstRg (t : DTR) : DTE := fun g Q E => t g (fun a b g1 => RgOk a b ∧ Q (.node true .lst ((rgV a b).map .leaf)) g1) E
theorem d_listRg {t : DTR} (hc : X.calm = true) (hg : Gl X "list") (hm : X.mg "list" = none) (he : DR X W e t) (na : starEach [e] X.env = (false, eval e X.env) :: starEach [] X.env := by rfl) : DE X W (.Call (.Name "list" p) [e] [] pos) (xLstRg t) := by
  refine ⟨fun B => PE.imp (pe_listRg hc hg hm (he.run B) na) fun σ H Q ⟨Φ, lim, g, E, r, hx, q⟩ => ?_, fun g Q Q' E E' hq hE q => he.mono _ _ _ _ _ (fun i j g1 q1 => ⟨q1.1, hq _ _ q1.2⟩) hE q⟩
  refine ⟨Φ, lim, g, E, r, hx, he.mono _ _ _ _ _ (fun i j g1 q1 H1 r1 => ⟨q1.1, fun q hq => q1.2 _ _ ?_⟩) (fun _ _ _ z => z) q⟩
  exact make_of .lst (by simp) (leavesR r1 (rgV i j)) hq
end
end DL
set_option Elab.async false
set_option linter.all false
set_option maxRecDepth 100000
set_option maxHeartbeats 4000000
namespace DL
open PySem L2 PySem.Spec PyProof.Rows
theorem spD_law {K : PySem.W.Frag} {mg : Str → Option Value} {H : Hp} {a : Addr} {ns : List Int} {m : DSp} (hm : MonoD m) (hS : SqL K H a (ns.map V.int)) (h : m [.pin .lst (ns.map V.int)] (fun t _ => t = .leaf (.bl true)) fun _ _ _ => False) :
    spD K mg [false] m [.ref a] H (fun v _ => v = .bl true) fun _ _ _ => False := by
  have fin : ∀ F : Addr → Prop, OwnP K F H (.ref a) (.pin .lst (ns.map V.int)) [] → (∀ b, F b → H b ≠ none) → spD K mg [false] m [.ref a] H (fun v _ => v = .bl true) fun _ _ _ => False := fun F o ht => by
    refine ⟨[.pin .lst (ns.map V.int)], F, [], .cons (fp := []) (fp' := []) o .nil, .nil, (fun _ z => nomatch z), ht, rfl, hm _ (fun t _ => t = .leaf (.bl true)) _ (fun _ _ _ => False) _ (fun t us e v H' aft => ?_) (fun _ _ _ z => z.elim) h⟩
    subst e
    obtain ⟨F', f', hl, o2, _⟩ := aft
    have o3 : OwnZ K F' H' [(v, .leaf (.bl true))] f' := by
      have : (pick [false] [V.ref a]).zip us = [] := by
        show ([] : List V).zip us = []
        rfl
      rw [this] at o2
      exact o2
    obtain ⟨f1, f2, _, p, _⟩ := o3.uncons
    cases p
    rfl
  rcases hS with hr | ⟨o, its, n, h1, h2, h3, h4, h5, h6⟩
  · refine fin (fun b => b = a) (.pinF rfl hr) fun b e => ?_
    subst e
    rcases hr with hr | ⟨o, hr⟩
    · rw [hr]; exact nofun
    · rw [hr]; exact nofun
  · exact fin (fun _ => False) (.pinK ⟨o, its, n, h1, h2, h3, h4, h5, h6⟩) fun _ z => z.elim
theorem law_callG {P : Program} {w : World} {K : PySem.W.Frag} {mg mb : Str → Option Value} {k : Nat} {fa a : Addr} {fd : FuncData} {x : Str} {sp : Sp} {s₁ : Shared} {vs : List Value} {ns : List Int}
    (KX : K.In s₁.heap) (hns : s₁.heap.Ns mainGlobals mg) (hb : s₁.heap.Ns builtinsNs mb) (hbb : ∀ x : Str, x ≠ "__name__" → mb x = bootBuiltins x) (hlim : s₁.heap.NoLimit) (hg : s₁.gens = #[])
    (ha : s₁.heap.get? a = some { cls := .type "list", data := .seq vs.toArray }) (hi : IntsAre vs ns) (hl : ns.length ≤ sizeLine) (hr : Room k callerA)
    (F : ∀ base : Heap, K.In base → base.Ns mainGlobals mg → FnG P w K mg base k fa fd [x] sp) (hbind : ∀ (s : Shared) (u : Value), BindsTo s fd ⟨[u], []⟩ [(x, u)])
    (hsp : ∀ H : Hp, SqL K H a (ns.map V.int) → sp [.ref a] H (fun v _ => v = .bl true) fun _ _ _ => False) :
    codeAny (model P w) callerA (.call (.ref fa) ⟨[.ref a], []⟩) (fun r s' => r = .ok (.ret (.bool true)) ∧ OldK s₁.heap s'.heap ∧ s'.os = s₁.os ∧ AllBare s'.gens) s₁ := by
  have rv := vals_ints hi
  have lenV := hi.length
  have core : ∀ H : Hp, (∀ b, H b = none ∨ ∃ ob xs, H b = some (.frz ob xs)) → SqL K H a (ns.map V.int) → HOk P w H s₁.heap → (∀ b, H b ≠ none → b = a) → (H a ≠ none → K.lookup a = none) →
      codeAny (model P w) callerA (.call (.ref fa) ⟨[.ref a], []⟩) (fun r s' => r = .ok (.ret (.bool true)) ∧ OldK s₁.heap s'.heap ∧ s'.os = s₁.os ∧ AllBare s'.gens) s₁ := by
    intro H hO hS hok hA hK
    have base_of : ∀ {b : Addr} {o : Obj}, s₁.heap.get? b = some o → H b = none → (hidT s₁.heap H).get? b = some o := fun e n => hidT_get e n
    have noA : ∀ {b : Addr} {o : Obj} {es : Array DictEntry} {ep : Nat}, s₁.heap.get? b = some o → o.data = .dict es ep → H b = none := fun {b o es ep} e d => by
      cases q : H b with
      | none => rfl
      | some u =>
        have e' : b = a := hA b (by rw [q]; simp)
        subst e'
        rw [ha] at e; cases e
        have d' : Data.seq vs.toArray _ = Data.dict es ep := d
        cases d'
    have nsK : ∀ {b : Addr} {m : Str → Option Value}, s₁.heap.Ns b m → (hidT s₁.heap H).Ns b m := fun {b m} ⟨o, es, ep, e, d, r⟩ => ⟨o, es, ep, base_of e (noA e d), d, r⟩
    have hKb : K.In (hidT s₁.heap H) := fun b o e => base_of (KX b o e) (by
      cases q : H b with
      | none => rfl
      | some u =>
        have e' : b = a := hA b (by rw [q]; simp)
        subst e'
        rw [hK (by rw [q]; simp)] at e; cases e)
    have hM : Mod K mg (hidT s₁.heap H) := ⟨hKb, nsK hns, ⟨mb, nsK hb, hbb⟩, let ⟨mc, h1, h2⟩ := hlim; ⟨mc, nsK h1, h2⟩⟩
    have e0 : Env0 P w K mg (hidT s₁.heap H) callerA [] s₁ H := ⟨rfl, hM, fun b o e => of_hidT e, Nat.le_of_eq (hidT_size _ _), trivial, fun b hb => absurd (show b ∈ ([] : List Addr) from hb) (by simp), hok, .of_eq hg⟩
    refine codeAny_mono ((F _ hKb (nsK hns)).run callerA [] s₁ H ⟨[.ref a], []⟩ [.ref a] [.ref a] _ _ hr rfl e0 (hbind s₁ (.ref a)) (.cons rfl .nil) (hsp H hS)) fun r s' h => ?_
    cases r with
    | error e =>
      obtain ⟨_, _, _, _, _, _, _, _, _, _, _, _, z⟩ := h
      exact z.elim
    | ok fl =>
      cases fl with
      | next => exact False.elim h
      | brk => exact False.elim h
      | cont => exact False.elim h
      | ret u =>
        obtain ⟨v, H', os, bare, un, hok', r', q⟩ := h
        have q' : v = .bl true := q
        subst q'
        obtain rfl : u = Value.bool true := r'
        refine ⟨rfl, OldK.of_keep fun b o e => ?_, os, bare⟩
        cases q : H b with
        | none => exact un.keep b o e q (by intro z; exact absurd (show b ∈ ([] : List Addr) from z) (by simp)) (by simp)
        | some u =>
          rcases hO b with z | ⟨ob, xs, z⟩
          · rw [q] at z; cases z
          · have z2 := un.frzs b ob _ z
            obtain ⟨e1, _⟩ := hok b _ z
            obtain ⟨e2, _⟩ := hok' b _ z2
            rw [e] at e1; cases e1
            exact e2
  cases hk : K.lookup a with
  | some o =>
    have e := KX a o hk
    rw [ha] at e
    cases e
    refine core (fun _ => none) (fun _ => .inl rfl) (.inr ⟨_, vs.toArray, _, hk, rfl, rfl, rfl, by rw [List.size_toArray, lenV]; exact hl, by simpa using rv⟩) (fun b u z => by have z' : (none : Option HO) = some u := z; cases z') (fun b z => absurd rfl z) fun z => absurd rfl z
  | none =>
    refine core (fun b => if b = a then some (.frz { cls := .type "list", data := .seq vs.toArray } (.lst (ns.map V.int))) else none) (fun b => ?_) (.inl (.inr ⟨{ cls := .type "list", data := .seq vs.toArray }, if_pos rfl⟩)) (fun b u z => ?_) (fun b z => ?_) fun _ => hk
    · by_cases hb : b = a
      · exact .inr ⟨_, _, if_pos hb⟩
      · exact .inl (if_neg hb)
    · by_cases hb : b = a
      · have z' := (if_pos hb).symm.trans z
        cases z'
        subst hb
        exact ⟨ha, by rw [List.length_map]; exact hl, vs, _, rv, ha⟩
      · have z' := (if_neg hb).symm.trans z
        cases z'
    · by_cases hb : b = a
      · exact hb
      · exact absurd (if_neg hb) z
theorem walk_ofG {l : PySem.W.OpenLaw} {n k : Nat} {q : Program} {loose : List Str} {XP : (Str → Option Value) → Heap → Prop} {YP : World → Heap → Prop} {d : DefRec} {K : Params → PySem.W.Frag} {sp : DSp} {x : Str}
    (hn : l.most = some n) (hn2 : n ≤ sizeLine) (hdf : d.params.defaults = []) (hr : Room k callerA)
    (hY : ∀ (w : World) (h : Heap), YP w h → (K w.params).In h) (hm : MonoD sp)
    (F : ∀ (w : World) (mg : Str → Option Value) (fa : Addr) (h : Heap), (K w.params).In h → h.Ns mainGlobals mg → mg d.name = some (.ref fa) →
      ∃ fd : FuncData, (∀ (s : Shared) (u : Value), BindsTo s fd ⟨[u], []⟩ [(x, u)]) ∧
        ∀ base : Heap, (K w.params).In base → base.Ns mainGlobals mg → FnG l.prog w (K w.params) mg base k fa fd [x] (spD (K w.params) mg [false] sp))
    (hsp : ∀ (ns : List Int), ns.length ≤ n → sp [.pin .lst (ns.map V.int)] (fun t _ => t = .leaf (.bl true)) fun _ _ _ => False) :
    PySem.W.WalkO q loose XP YP l.row.toRowW d [] (fun f vs => PySem.call f vs) := by
  refine Att.attach_call hn hdf fun w s₀ s₁ mg mb fa o pm cd doc a vs ns G Y ho hd hcd hmg hobj hints hlen hg => ?_
  have KX := hY w _ Y
  obtain ⟨fd, hb, hF⟩ := F w mg fa _ KX G.T.g hmg
  exact law_callG KX G.T.g G.T.b G.T.builtins G.T.nolimit hg hobj hints (Nat.le_trans hlen hn2) hr hF hb fun H hS => spD_law hm hS (hsp ns hlen)
def spLaw : DSp := fun ts Q _ => ∃ ns : List Int, ts = [.pin .lst (ns.map V.int)] ∧ ns.length ≤ 63 ∧ Q (.leaf (.bl true)) []
theorem spLaw_mono : MonoD spLaw := fun ts Q Q' E E' hq he ⟨ns, e, h, q⟩ => ⟨ns, e, h, hq _ _ q⟩
end DL
set_option Elab.async false
set_option linter.all false
set_option maxRecDepth 100000
set_option maxHeartbeats 4000000
namespace DL
open PySem L2
def isTup : Sh → Bool
  | .tup => true
  | _ => false
theorem isTup_of : ∀ {s : Sh}, isTup s = true → s = .tup := by
  intro s h
  cases s <;> first | rfl | (simp [isTup] at h)
mutual
def pureT : T → Bool
  | .leaf _ => true
  | .pin _ _ => false
  | .node o s k => (o || isTup s) && pureL k
def pureL : List T → Bool
  | [] => true
  | t :: ts => pureT t && pureL ts
end
section
variable {K : PySem.W.Frag} {F F' : Addr → Prop} {H H' : Hp}
mutual
theorem OwnP.anyF : ∀ (t : T) {v : V} {fp : List Addr}, OwnP K F H v t fp → pureT t = true → OwnP K F' H v t fp
  | .leaf _, _, _, h, _ => by
    cases h
    exact .leaf _
  | .pin _ _, _, _, _, e => by simp [pureT] at e
  | .node o s ts, _, _, h, e => by
    simp only [pureT, Bool.and_eq_true, Bool.or_eq_true] at e
    obtain ⟨eo, e⟩ := e
    cases h with
    | own ha hk => exact .own ha (OwnL.anyF ts hk e)
    | tk ha hk => exact .tk ha (OwnL.anyF ts hk e)
    | kz k1 k2 hk => exact .kz k1 k2 (OwnL.anyF ts hk e)
    | fz hf ha hk =>
      rcases eo with z | z
      · cases z
      · obtain rfl := isTup_of z
        exact .tk ha (OwnL.anyF ts hk e)
theorem OwnL.anyF : ∀ (ts : List T) {vs : List V} {fp : List Addr}, OwnL K F H vs ts fp → pureL ts = true → OwnL K F' H vs ts fp
  | [], _, _, h, _ => by
    cases h
    exact .nil
  | t :: ts, _, _, h, e => by
    simp only [pureL, Bool.and_eq_true] at e
    cases h with
    | cons h1 h2 => exact .cons (OwnP.anyF t h1 e.1) (OwnL.anyF ts h2 e.2)
end
def frzE (g : Ev) : Ev := g.map (Option.map frz)
theorem EnvIs.frzE : ∀ {σ : St} {g : Ev} {zs : Its}, EnvIs σ g zs → EnvIs σ (frzE g) (zs.map fun z => (z.1, frz z.2))
  | _, _, _, .nil => .nil
  | _, _, _, .skip h => .skip (EnvIs.frzE h)
  | _, _, _, .have h => .have (EnvIs.frzE h)
theorem OwnZ.frzZ {zs : Its} {fp : List Addr} (hF : ∀ a, F a → F' a) (h : OwnZ K F H zs fp) (hp : ∀ a ∈ fp, F' a) : OwnZ K F' H (zs.map fun z => (z.1, frz z.2)) [] := by
  have := OwnL.freeze hF _ h hp
  rw [frzL_map] at this
  unfold OwnZ
  rw [List.map_map, List.map_map]
  rw [List.map_map] at this
  exact this
end
section
variable {X : Cx} {W : WX} {m : Nat → Bool} {a b c e : Expr} {es : List Expr} {ta tb tc te : DTE} {tA : DTT} {t : DTA} {bs : List (Option Nat)} {pos p : Pos} {x : Str}
def baseB (H : Hp) (F : Addr → Prop) (fp : List Addr) : Bs := ⟨H, fun a => F a ∨ a ∈ fp, []⟩
theorem bor_in {K : PySem.W.Frag} {B : Bs} {lim : List Addr} {σ : St} {H : Hp} {g : Ev} {Φ : Its} (r : RepG K B lim σ H g Φ) : ∃ B', RepG K B' [] σ H (frzE g) [] ∧
    (∀ H1, (∃ g', RepG K B' [] σ H1 g' []) → RepG K B lim σ H1 g Φ) ∧ ∀ v τ H1 g', pureT τ = true → RepG K B' [] σ H1 g' [(v, τ)] → RepG K B lim σ H1 g ((v, τ) :: Φ) := by
  obtain ⟨F, zs, fp, en, o, f, hl⟩ := r
  obtain ⟨f1, f2, rfl, o1, o2⟩ := o.split
  have trk : ∀ a, a ∈ lim ++ (f1 ++ f2) → H a ≠ none := fun a ha => by
    rcases List.mem_append.mp ha with z | z
    · exact hl a z
    · exact o.tracked a z
  have back : ∀ H1 (F1 : Addr → Prop) (fv : List Addr) (Ψ : Its), Fine (baseB H F (lim ++ (f1 ++ f2))) F1 H1 fv → OwnZ K F H1 Ψ fv → RepG K B lim σ H1 g (Ψ ++ Φ) := fun H1 F1 fv Ψ fn oz => by
    have st : ∀ b o, H b = some o → H1 b = some o := fun b o e => fn.keep b o e (fun z => nomatch z)
    have stn : ∀ b, H b ≠ none → H1 b ≠ none := fun b hb => by
      cases q : H b with
      | none => exact absurd q hb
      | some o => rw [st b o q]; exact nofun
    have new : ∀ b ∈ fv, H b = none := fun b hb => by
      rcases fn.newO b hb with z | z
      · cases z
      · exact z
    have oo : OwnZ K F H1 (zs ++ Φ) (f1 ++ f2) := o.mono (fun _ z => z) (fun b _ u e => st b u e) fun b vs e => st b _ e
    have o3 : OwnZ K F H1 (Ψ ++ (zs ++ Φ)) (fv ++ (f1 ++ f2)) := oz.append oo
    have ff : Fine B F H1 (lim ++ (fv ++ (f1 ++ f2))) := by
      refine ⟨?_, fun b z => ?_, fun b z => stn b (f.trk b z), f.inc, fun b o e n => st b o (f.keep b o e n), f.newF, fun b z => ?_, fun b vs e => st b _ (f.keepT b vs e)⟩
      · refine List.nodup_append.mpr ⟨(List.nodup_append.mp f.nd).1, List.nodup_append.mpr ⟨fn.nd, (List.nodup_append.mp f.nd).2.1, fun x hx y hy e => ?_⟩, fun x hx y hy e => ?_⟩
        · subst e
          exact trk x (List.mem_append_right _ hy) (new x hx)
        · subst e
          rcases List.mem_append.mp hy with q | q
          · exact hl x hx (new x q)
          · exact (List.nodup_append.mp f.nd).2.2 x hx x q rfl
      · rcases List.mem_append.mp z with q | q
        · exact f.off b (List.mem_append_left _ q)
        · rcases List.mem_append.mp q with q | q
          · intro zz
            exact f.trk b zz (new b q)
          · exact f.off b (List.mem_append_right _ q)
      · rcases List.mem_append.mp z with q | q
        · exact f.newO b (List.mem_append_left _ q)
        · rcases List.mem_append.mp q with q | q
          · by_cases hb : b ∈ B.fp0
            · exact .inl hb
            · refine .inr ?_
              cases z : B.H0 b with
              | none => rfl
              | some u =>
                have := f.keep b u z hb
                rw [new b q] at this; cases this
          · exact f.newO b (List.mem_append_right _ q)
    refine rep_items (ds := []) en o3 ff (fun b z => stn b (hl b z)) ?_
    rw [List.nil_append, ← List.append_assoc, ← List.append_assoc]
    exact List.Perm.append_right _ List.perm_append_comm
  refine ⟨baseB H F (lim ++ (f1 ++ f2)), ?_, fun H1 ⟨g', r1⟩ => ?_, fun v τ H1 g' hp r1 => ?_⟩
  · refine ⟨fun a => F a ∨ a ∈ lim ++ (f1 ++ f2), zs.map fun z => (z.1, frz z.2), [], en.frzE, ?_, ?_, fun _ z => nomatch z⟩
    · rw [List.append_nil]
      exact o1.frzZ (fun _ z => .inl z) fun a z => .inr (List.mem_append_right _ (List.mem_append_left _ z))
    · exact ⟨.nil, (fun _ z => nomatch z), fun b z => z.elim (f.trk b) (trk b), fun _ z => z, fun _ _ z _ => z, fun _ z => .inl z, (fun _ z => nomatch z), fun _ _ e => e⟩
  · obtain ⟨F1, zs1, fp1, en1, oz1, fn, _⟩ := r1
    exact back H1 F1 [] [] (fn.sub (List.nil_sublist _)) .nil
  · obtain ⟨F1, zs1, fp1, en1, oz1, fn, _⟩ := r1
    obtain ⟨g1, g2, rfl, oa, ob⟩ := oz1.split
    obtain ⟨h1, h2, e, pv, pn⟩ := ob.uncons
    have e2 : h2 = [] := by cases pn; rfl
    subst e e2
    exact back H1 F1 (h1 ++ []) [(v, τ)] (fn.sub (by rw [List.nil_append]; exact List.sublist_append_right _ _)) (.cons (pv.anyF τ hp) .nil)
def xBor (te : DTE) : DTE := fun g Q _ => te (frzE g) (fun τ _ => pureT τ = true ∧ Q τ g) noX
def xBorT (tA : DTT) : DTT := fun g Q _ => tA (frzE g) (fun b _ => Q b g) noX
theorem d_bor (h : DE X W e te) : DE X W e (xBor te) := by
  refine ⟨fun B => ⟨fun pins s σ H Q I ⟨Φ, lim, g, E, r, hx, q⟩ => ?_⟩, fun g Q Q' E E' hq _ q => h.mono _ _ _ _ _ (fun τ g1 q1 => ⟨q1.1, hq _ _ q1.2⟩) (fun _ _ _ z => z) q⟩
  obtain ⟨B', r1, _, k⟩ := bor_in r
  refine (h.run B').run pins s σ H Q I ⟨[], [], _, noX, r1, liftX0, h.mono _ _ _ _ _ (fun τ g1 q1 v H1 r2 => ?_) (fun _ _ _ z => z) q⟩
  exact q1.2 v H1 (k v τ H1 g1 q1.1 r2)
theorem dt_bor (h : DT X W e tA) : DT X W e (xBorT tA) := by
  refine ⟨fun B => ⟨fun pins s σ H Q I ⟨Φ, lim, g, E, r, hx, q⟩ => ?_⟩, fun g Q Q' E E' hq _ q => h.mono _ _ _ _ _ (fun τ g1 q1 => hq _ _ q1) (fun _ _ _ z => z) q⟩
  obtain ⟨B', r1, k, _⟩ := bor_in r
  refine (h.run B').run pins s σ H Q I ⟨[], [], _, noX, r1, liftX0, h.mono _ _ _ _ _ (fun b g1 q1 H1 r2 => ?_) (fun _ _ _ z => z) q⟩
  exact q1 H1 (k H1 ⟨g1, r2⟩)
def xUn (f : Int → V) (ta : DTE) : DTE := fun g Q E => ta g (fun τ g1 => isI τ fun i => Q (.leaf (f i)) g1) E
theorem d_un {op : UnaryOp} {f : Int → V} (ho : UnR X (unaryOp op) (rU f)) (ha : DE X W a ta) : DE X W (.UnaryOp op a pos) (xUn f ta) := by
  refine ⟨fun B => PE.imp (pe_un ho (ha.run B)) fun σ H Q ⟨Φ, lim, g, E, r, hx, q⟩ => ?_, fun g Q Q' E E' hq he q => ha.mono _ _ _ _ _ (fun τ g1 q1 => isI_mono (fun i z => hq _ _ z) q1) he q⟩
  refine ⟨Φ, lim, g, E, r, hx, ha.mono _ _ _ _ _ (fun τ g1 q1 v H1 r1 => ?_) (fun _ _ _ z => z) q⟩
  obtain ⟨i, rfl, q1⟩ := isI_of q1
  obtain rfl := r1.leaf
  exact ⟨i, rfl, q1 _ _ r1.dropT.addLeaf⟩
end
end DL
set_option Elab.async false
set_option linter.all false
set_option maxRecDepth 100000
set_option maxHeartbeats 4000000
namespace DL
open PySem L2 PySem.Spec PyProof.Rows
def frzP : List Bool → List T → List T
  | true :: bs, t :: ts => t :: frzP bs ts
  | false :: bs, t :: ts => frz t :: frzP bs ts
  | _, ts => ts
theorem frzP_length : ∀ (fl : List Bool) (ts : List T), (frzP fl ts).length = ts.length
  | true :: bs, t :: ts => by simp [frzP, frzP_length bs ts]
  | false :: bs, t :: ts => by simp [frzP, frzP_length bs ts]
  | [], ts => by simp [frzP]
  | _ :: _, [] => by simp [frzP]
section
variable {K : PySem.W.Frag} {B : Bs} {lim : List Addr} {σ : L2.St} {H : Hp} {Φ : Its}
theorem RepG.frzP : ∀ {fl : List Bool} {ts : List T} {pre rest : Ev}, RepG K B lim σ H (pre ++ (ts.map some ++ rest)) Φ → RepG K B lim σ H (pre ++ ((frzP fl ts).map some ++ rest)) Φ
  | true :: bs, t :: ts, pre, rest, h => by
    have h1 : RepG K B lim σ H ((pre ++ [some t]) ++ (ts.map some ++ rest)) Φ := by
      rw [List.append_assoc]
      exact h
    have h2 := RepG.frzP (fl := bs) h1
    rw [List.append_assoc] at h2
    exact h2
  | false :: bs, t :: ts, pre, rest, h => by
    have e : (pre ++ ((t :: ts).map some ++ rest))[pre.length]? = some (some t) := by simp
    have h0 := h.freeze e
    have e2 : (pre ++ ((t :: ts).map some ++ rest)).set pre.length (some (frz t)) = (pre ++ [some (frz t)]) ++ (ts.map some ++ rest) := by simp
    rw [e2] at h0
    have h2 := RepG.frzP (fl := bs) h0
    rw [List.append_assoc] at h2
    exact h2
  | [], ts, pre, rest, h => h
  | true :: _, [], pre, rest, h => h
  | false :: _, [], pre, rest, h => h
end
section
variable {P : Program} {w : World} {K : PySem.W.Frag} {mg : Str → Option Value} {base : Heap}
theorem fnD_of2 {x qual : Str} {st : Stmt} {f : Addr} {fd : FuncData} {N ps : List Str} {k : Nat} {sp : DSp} {fl : List Bool} (F : Fun K x qual st f fd) (S : FnScope N ps (defScope st)) (hfl : fl.length = ps.length)
    (hbody : ∀ (cdv : Value) (A : Around) (outer : List Env) (s : Shared) (H : Hp) (E : XK), Room k (A.deeper (PyProof.Rows.envOfC qual (defScope st) s.heap.objs.size f cdv)) → (A.deeper (PyProof.Rows.envOfC qual (defScope st) s.heap.objs.size f cdv)).guards = some [] →
      ∃ t, DSs (cxOf (L2.CX P w) P w K mg base N qual (defScope st) f cdv A outer s H E) (fun x d _ H => ∀ cv, sym mg x cv → E cv d H) (mutOf fl) (defBody st) t ∧
        ∀ ts Q' E', ts.length = ps.length → sp ts Q' E' → t (bodyEnds fl Q' E') (startE N.length (frzP fl ts))) :
    FnG P w K mg base (k + 1) f fd ps (spD K mg fl sp) := by
  refine fnD_of F S hfl fun cdv A outer s H E hr hgd => ?_
  obtain ⟨t, ht, hb⟩ := hbody cdv A outer s H E hr hgd
  refine ⟨fun D g => ∃ ts, g = startE N.length ts ∧ t D (startE N.length (frzP fl ts)), ⟨fun B σ0 => ⟨fun pins s σ H D I ⟨Φ, lim, g, E, r, hk, hx, ts, e, q⟩ => ?_⟩, fun D D' g h ⟨ts, e, q⟩ => ⟨ts, e, ht.mono _ _ _ h q⟩⟩, fun ts Q' E' hl h => ⟨ts, rfl, hb ts Q' E' hl h⟩⟩
  refine (ht.run B σ0).run pins s σ H D I ⟨Φ, lim, _, E, ?_, hk, hx, q⟩
  subst e
  have := RepG.frzP (fl := fl) (pre := []) r
  unfold startE
  rw [frzP_length]
  exact this
end
def aLend (j : Nat) (t : DTA) : DTA := fun g Q E => atSlot j g fun _ => t g (fun τs g2 => atSlot j g2 fun τ => Q (τ :: τs) (g2.set j none)) E
theorem da_late {X : Cx} {W : WX} {e : Expr} {es : List Expr} (j : Nat) {bs : List (Option Nat)} {t : DTA} (h : PE X e (tVar j)) (hr : DA X W es bs t) (hs : starEach (e :: es) X.env = (false, eval e X.env) :: starEach es X.env := by rfl) : DA X W (e :: es) (some j :: bs) (aLend j t) := by
  refine ⟨fun B => PA.imp (pa_cons h (hr.run B) hs) fun σ H Q ⟨Φ, lim, g, E, r, hx, q⟩ => ?_, fun g Q Q' E E' hq he q => atSlot_mono (fun τ z => hr.mono _ _ _ _ _ (fun τs g2 q2 => atSlot_mono (fun τ z => hq _ _ z) q2) he z) q⟩
  obtain ⟨τ0, h0, q⟩ := atSlot_of q
  obtain ⟨v, hv⟩ := r.slot h0
  refine ⟨v, hv, Φ, lim, g, E, r, hx, hr.mono _ _ _ _ _ (fun τs g2 q2 vs H2 hl hb r2 => ?_) (fun _ _ _ z => z) q⟩
  obtain ⟨τ, h2, q2⟩ := atSlot_of q2
  obtain ⟨v', hv', r'⟩ := r2.move h2
  rw [hv] at hv'
  cases hv'
  exact q2 (v :: vs) H2 (by simp [hl]) ⟨hv, hb⟩ r'
abbrev oSub : R2T := rtI0 fun i j => .int (i - j)
def CMulA (i j : Int) : Prop := CMul i j ∨ CMulW i j
abbrev oMul : R2T := rtI CMulA fun i j => .int (i * j)
abbrev oDiv : R2T := rtI CDivW fun i j => .int (i / j)
abbrev oMod : R2T := rtI (fun _ j => 0 < j) fun i j => .int (i % j)
abbrev oPow : R2T := rtI CPow fun i j => .int (i ^ j.toNat)
abbrev oShl : R2T := rtI CPow fun i j => .int (i * 2 ^ j.toNat)
abbrev oShr : R2T := rtI (fun _ j => 0 ≤ j) fun i j => .int (i / 2 ^ j.toNat)
abbrev oAnd : R2T := rtI0 fun i j => .int (Builtin.bitAnd i j)
abbrev oOr : R2T := rtI0 fun i j => .int (Builtin.bitOr i j)
abbrev oXor : R2T := rtI0 fun i j => .int (Builtin.bitXor i j)
abbrev oLt : R2T := rtI0 fun i j => .bl (decide (i < j))
abbrev oLe : R2T := rtI0 fun i j => .bl (decide (i ≤ j))
abbrev oGt : R2T := rtI0 fun i j => .bl (decide (j < i))
abbrev oGe : R2T := rtI0 fun i j => .bl (decide (j ≤ i))
section
variable {X : Cx} {W : WX} {m : Nat → Bool} {a b c e : Expr} {es : List Expr} {ta tb tc te : DTE} {tA : DTT} {t : DTA} {bs : List (Option Nat)} {pos p : Pos} {x : Str}
theorem op_mulA : OpR X (binaryOp .Mult) (rI CMulA fun i j => .int (i * j)) := opI fun _ _ _ _ _ _ _ hc q => mul_int q (hc.elim CMul.ok CMulW.ok)
theorem d_add (ha : DE X W a ta) (hb : DE X W b tb) : DE X W (.BinOp a .Add b pos) (xOp rtCat ta tb) := d_op2 op_addL op2_cat ha hb
theorem d_sub (ha : DE X W a ta) (hb : DE X W b tb) : DE X W (.BinOp a .Sub b pos) (xOp oSub ta tb) := d_op2 op_sub op2_I0 ha hb
theorem d_mul (ha : DE X W a ta) (hb : DE X W b tb) : DE X W (.BinOp a .Mult b pos) (xOp oMul ta tb) := d_op2 op_mulA (op2_I fun _ _ z => z) ha hb
theorem d_div (ha : DE X W a ta) (hb : DE X W b tb) : DE X W (.BinOp a .FloorDiv b pos) (xOp oDiv ta tb) := d_op2 op_fdivW (op2_I fun _ _ z => z) ha hb
theorem d_mod (ha : DE X W a ta) (hb : DE X W b tb) : DE X W (.BinOp a .Mod b pos) (xOp oMod ta tb) := d_op2 op_mod (op2_I fun _ _ z => z) ha hb
theorem d_pow (ha : DE X W a ta) (hb : DE X W b tb) : DE X W (.BinOp a .Pow b pos) (xOp oPow ta tb) := d_op2 op_pow (op2_I fun _ _ z => z) ha hb
theorem d_shl (ha : DE X W a ta) (hb : DE X W b tb) : DE X W (.BinOp a .LShift b pos) (xOp oShl ta tb) := d_op2 op_shl (op2_I fun _ _ z => z) ha hb
theorem d_shr (ha : DE X W a ta) (hb : DE X W b tb) : DE X W (.BinOp a .RShift b pos) (xOp oShr ta tb) := d_op2 op_shr (op2_I fun _ _ z => z) ha hb
theorem d_bitand (ha : DE X W a ta) (hb : DE X W b tb) : DE X W (.BinOp a .BitAnd b pos) (xOp oAnd ta tb) := d_op2 op_and op2_I0 ha hb
theorem d_bitor (ha : DE X W a ta) (hb : DE X W b tb) : DE X W (.BinOp a .BitOr b pos) (xOp oOr ta tb) := d_op2 op_or op2_I0 ha hb
theorem d_bitxor (ha : DE X W a ta) (hb : DE X W b tb) : DE X W (.BinOp a .BitXor b pos) (xOp oXor ta tb) := d_op2 op_xor op2_I0 ha hb
theorem d_lt (ha : DE X W a ta) (hb : DE X W b tb) : DE X W (.Compare a [.Lt] [b] pos) (xOp oLt ta tb) := d_cmp op_lt op2_I0 ha hb (nomark _)
theorem d_le (ha : DE X W a ta) (hb : DE X W b tb) : DE X W (.Compare a [.LtE] [b] pos) (xOp oLe ta tb) := d_cmp op_le op2_I0 ha hb (nomark _)
theorem d_gt (ha : DE X W a ta) (hb : DE X W b tb) : DE X W (.Compare a [.Gt] [b] pos) (xOp oGt ta tb) := d_cmp op_gt op2_I0 ha hb (nomark _)
theorem d_ge (ha : DE X W a ta) (hb : DE X W b tb) : DE X W (.Compare a [.GtE] [b] pos) (xOp oGe ta tb) := d_cmp op_ge op2_I0 ha hb (nomark _)
theorem d_eq (hu : X.A.units + 64 < cLine) (ha : DE X W a ta) (hb : DE X W b tb) : DE X W (.Compare a [.Eq] [b] pos) (xOp (rtEq false) ta tb) := d_cmp (op_eqA hu) op2_eq ha hb (nomark _)
theorem d_ne (hu : X.A.units + 64 < cLine) (ha : DE X W a ta) (hb : DE X W b tb) : DE X W (.Compare a [.NotEq] [b] pos) (xOp (rtEq true) ta tb) := d_cmp (op_neA hu) op2_ne ha hb (nomark _)
theorem d_in (hm : behindInMarks .In b = false) (ha : DE X W a ta) (hb : DE X W b tb) : DE X W (.Compare a [.In] [b] pos) (xOp (rtIn false) ta tb) := d_cmp op_in_seq op2_in ha hb hm
theorem d_notin (hm : behindInMarks .NotIn b = false) (ha : DE X W a ta) (hb : DE X W b tb) : DE X W (.Compare a [.NotIn] [b] pos) (xOp (rtIn true) ta tb) := d_cmp op_notIn_seq op2_in ha hb hm
theorem dt_lt (ha : DE X W a ta) (hb : DE X W b tb) : DT X W (.Compare a [.Lt] [b] pos) (xB (xOp oLt ta tb)) := dt_cmp op_lt op2_I0 ha hb (nomark _)
theorem dt_le (ha : DE X W a ta) (hb : DE X W b tb) : DT X W (.Compare a [.LtE] [b] pos) (xB (xOp oLe ta tb)) := dt_cmp op_le op2_I0 ha hb (nomark _)
theorem dt_gt (ha : DE X W a ta) (hb : DE X W b tb) : DT X W (.Compare a [.Gt] [b] pos) (xB (xOp oGt ta tb)) := dt_cmp op_gt op2_I0 ha hb (nomark _)
theorem dt_ge (ha : DE X W a ta) (hb : DE X W b tb) : DT X W (.Compare a [.GtE] [b] pos) (xB (xOp oGe ta tb)) := dt_cmp op_ge op2_I0 ha hb (nomark _)
theorem dt_eq (hu : X.A.units + 64 < cLine) (ha : DE X W a ta) (hb : DE X W b tb) : DT X W (.Compare a [.Eq] [b] pos) (xB (xOp (rtEq false) ta tb)) := dt_cmp (op_eqA hu) op2_eq ha hb (nomark _)
theorem dt_ne (hu : X.A.units + 64 < cLine) (ha : DE X W a ta) (hb : DE X W b tb) : DT X W (.Compare a [.NotEq] [b] pos) (xB (xOp (rtEq true) ta tb)) := dt_cmp (op_neA hu) op2_ne ha hb (nomark _)
theorem dt_in (hm : behindInMarks .In b = false) (ha : DE X W a ta) (hb : DE X W b tb) : DT X W (.Compare a [.In] [b] pos) (xB (xOp (rtIn false) ta tb)) := dt_cmp op_in_seq op2_in ha hb hm
theorem dt_notin (hm : behindInMarks .NotIn b = false) (ha : DE X W a ta) (hb : DE X W b tb) : DT X W (.Compare a [.NotIn] [b] pos) (xB (xOp (rtIn true) ta tb)) := dt_cmp op_notIn_seq op2_in ha hb hm
theorem d_neg (ha : DE X W a ta) : DE X W (.UnaryOp .USub a pos) (xUn (fun i => .int (-i)) ta) := d_un un_neg ha
end
theorem takes0 {X : Cx} : Takes X (upW X.mg W0) := by
  intro u s' x
  obtain ⟨_, _, _, _, _, _, _, _, _, _, _, _, _, _, _, _, _, _, z⟩ := x
  exact z.elim
theorem takesN {X : Cx} {E : XK} (h : Takes X (fun cls d _ H => E cls d H)) : Takes X (upW X.mg (fun x d _ H => ∀ cv, sym X.mg x cv → E cv d H)) := h.imp fun c _ _ _ ⟨_, hs, w⟩ => w c hs
mutual
def smallD : PyData → Prop
  | .none => True
  | .bool _ => True
  | .int i => i.natAbs < 2 ^ 1800
  | .str x => PyData.canLay0 (.str x) = true ∧ (∀ c ∈ x.cps.toList, c < 16 ^ 8)
  | .list xs => smallL xs
  | .tuple xs => smallL xs
  | .dict _ => False
def smallL : List PyData → Prop
  | [] => True
  | x :: xs => smallD x ∧ smallL xs
end
mutual
def szD : PyData → Nat
  | .none => 1
  | .bool _ => 1
  | .int _ => 1
  | .str x => x.length + 1
  | .list xs => szL xs + 1
  | .tuple xs => szL xs + 1
  | .dict _ => 1
def szL : List PyData → Nat
  | [] => 0
  | x :: xs => szD x + szL xs
end
mutual
theorem small_canLay : ∀ d : PyData, smallD d → d.canLay0 = true
  | .none, _ => by simp [PyData.canLay0]
  | .bool _, _ => by simp [PyData.canLay0]
  | .int _, _ => by simp [PyData.canLay0]
  | .str x, h => by
    simp only [smallD] at h
    exact h.1
  | .list xs, h => by
    simp only [smallD] at h
    simp only [PyData.canLay0]
    exact small_canLayL xs h
  | .tuple xs, h => by
    simp only [smallD] at h
    simp only [PyData.canLay0]
    exact small_canLayL xs h
  | .dict _, h => by simp only [smallD] at h
theorem small_canLayL : ∀ xs : List PyData, smallL xs → PyData.canLayAll0 xs = true
  | [], _ => by simp [PyData.canLayAll0]
  | x :: xs, h => by
    simp only [smallL] at h
    simp only [PyData.canLayAll0, Bool.and_eq_true]
    exact ⟨small_canLay x h.1, small_canLayL xs h.2⟩
end
theorem log2_small {n : Nat} (h : n < 2 ^ 1800) : n.log2 < 1800 := PySem.Flt.log2_lt_of (by decide) h
mutual
theorem small_show : ∀ d : PyData, smallD d → d.showable = true
  | .none, _ => by simp [PyData.showable]
  | .bool _, _ => by simp [PyData.showable]
  | .int i, h => by
    simp only [smallD] at h
    simp only [PyData.showable, decide_eq_true_eq]
    exact Nat.lt_trans (log2_small h) (by decide)
  | .str x, h => by simp [PyData.showable]
  | .list xs, h => by
    simp only [smallD] at h
    simp only [PyData.showable]
    exact small_showL xs h
  | .tuple xs, h => by
    simp only [smallD] at h
    simp only [PyData.showable]
    exact small_showL xs h
  | .dict _, h => by simp only [smallD] at h
theorem small_showL : ∀ xs : List PyData, smallL xs → PyData.showableAll xs = true
  | [], _ => by simp [PyData.showableAll]
  | x :: xs, h => by
    simp only [smallL] at h
    simp only [PyData.showableAll, Bool.and_eq_true]
    exact ⟨small_show x h.1, small_showL xs h.2⟩
end
theorem szL_len : ∀ xs : List PyData, (PyData.shownAll xs).length = xs.length
  | [] => by simp [PyData.shownAll]
  | x :: xs => by simp [PyData.shownAll, szL_len xs]
mutual
theorem small_len : ∀ d : PyData, smallD d → d.shown.length + 2 ≤ 2000 * szD d
  | .none, _ => by
    have e : (PyData.shown .none).length = 4 := by simp only [PyData.shown]; rfl
    simp only [szD]
    omega
  | .bool b, _ => by
    have e : (PyData.shown (.bool b)).length ≤ 5 := by
      simp only [PyData.shown]
      cases b <;> decide
    simp only [szD]
    omega
  | .int i, h => by
    simp only [smallD] at h
    have e : (PyData.shown (.int i)).length ≤ 1801 := by
      simp only [PyData.shown]
      have := int_text_length_le (a := i) (k := 1800) (by decide) (log2_small h)
      exact Nat.le_trans (Nat.le_of_eq (PySem.ofString_length _)) this
    simp only [szD]
    omega
  | .str x, h => by
    simp only [smallD] at h
    have e := StrLaws.reprText_len x h.2
    simp only [PyData.shown, szD]
    omega
  | .list xs, h => by
    simp only [smallD] at h
    have h1 := small_lenL xs h
    have h2 := listText_len_le (PyData.shownAll xs)
    have h3 := szL_len xs
    simp only [PyData.shown, szD]
    omega
  | .tuple xs, h => by
    simp only [smallD] at h
    have h1 := small_lenL xs h
    have h2 := tupleText_len_le (PyData.shownAll xs)
    have h3 := szL_len xs
    simp only [PyData.shown, szD]
    omega
  | .dict _, h => by simp only [smallD] at h
theorem small_lenL : ∀ xs : List PyData, smallL xs → ((PyData.shownAll xs).map (·.length)).sum + 2 * xs.length ≤ 2000 * szL xs
  | [], _ => by simp [PyData.shownAll, szL]
  | x :: xs, h => by
    simp only [smallL] at h
    have h1 := small_len x h.1
    have h2 := small_lenL xs h.2
    simp only [PyData.shownAll, List.map_cons, List.sum_cons, List.length_cons, szL]
    omega
end
structure GoodD (d : PyData) : Prop where
  sm : smallD d
  dp : d.depth ≤ 60
  sz : szD d ≤ 8000
theorem GoodD.shaped {d : PyData} (h : GoodD d) : SeqAt.shaped d = true := by
  unfold SeqAt.shaped
  rw [Bool.and_eq_true, decide_eq_true_eq]
  exact ⟨small_canLay d h.sm, Nat.le_trans h.dp (by decide)⟩
theorem GoodD.show {d : PyData} (h : GoodD d) : d.showable = true := small_show d h.sm
theorem GoodD.nodict {d : PyData} (h : GoodD d) : d.hasDict = false := PyData.hasDict_of_canLay d (small_canLay d h.sm)
theorem GoodD.len {d : PyData} (h : GoodD d) : d.shown.length ≤ sizeLine := by
  have h1 := small_len d h.sm
  have h2 := h.sz
  show _ ≤ 2 ^ 24
  omega
theorem GoodD.refl {d : PyData} (h : GoodD d) : PyData.eqv d d = true := SeqAt.eqv_refl d (small_canLay d h.sm)
end DL
set_option Elab.async false
set_option linter.all false
set_option maxRecDepth 100000
set_option maxHeartbeats 4000000
namespace DL
open PySem L2
theorem sz_eq : sizeLine = 16777216 := rfl
theorem rtEq_int {i j : Int} {Q : T → Prop} : rtEq false (.leaf (.int i)) (.leaf (.int j)) Q = Q (.leaf (.bl (decide (i = j)))) := rfl
theorem rtEq_int' {i j : Int} {Q : T → Prop} : rtEq true (.leaf (.int i)) (.leaf (.int j)) Q = Q (.leaf (.bl (!decide (i = j)))) := rfl
theorem intsT_frz (ns : List Int) : frzL (intsT ns) = intsT ns := by
  rw [frzL_map, List.map_map]
  rfl
theorem frz_ints (s : Sh) (ns : List Int) : frz (.node false s (intsT ns)) = .node false s (intsT ns) := by
  rw [frz_node, intsT_frz]
theorem rtEq_same {a b : T} {d : PyData} {Q : T → Prop} (ha : toP a = some d) (hb : toP b = some d) (h : GoodD d) (q : Q (.leaf (.bl true))) : rtEq false a b Q := by
  unfold rtEq
  split
  · rename_i i j
    simp only [toP, Option.some.injEq] at ha hb
    have : i = j := by
      rw [← ha] at hb
      cases hb
      rfl
    simpa [this] using q
  · rename_i i j
    simp only [toP, Option.some.injEq] at ha hb
    have : i = j := by
      rw [← ha] at hb
      cases hb
      rfl
    simpa [this] using q
  · rename_i i j
    simp only [toP, Option.some.injEq] at ha hb
    have : i = j := by
      rw [← ha] at hb
      cases hb
      rfl
    simpa [this] using q
  · exact ⟨d, d, ha, hb, h.shaped, h.shaped, by simpa [h.refl] using q⟩
theorem rtNe_same {a b : T} {d : PyData} {Q : T → Prop} (ha : toP a = some d) (hb : toP b = some d) (h : GoodD d) (q : Q (.leaf (.bl false))) : rtEq true a b Q := by
  unfold rtEq
  split
  · rename_i i j
    simp only [toP, Option.some.injEq] at ha hb
    have : i = j := by
      rw [← ha] at hb
      cases hb
      rfl
    simpa [this] using q
  · rename_i i j
    simp only [toP, Option.some.injEq] at ha hb
    have : i = j := by
      rw [← ha] at hb
      cases hb
      rfl
    simpa [this] using q
  · rename_i i j
    simp only [toP, Option.some.injEq] at ha hb
    have : i = j := by
      rw [← ha] at hb
      cases hb
      rfl
    simpa [this] using q
  · exact ⟨d, d, ha, hb, h.shaped, h.shaped, by simpa [h.refl] using q⟩
mutual
theorem toP_frz : ∀ t : T, toP (frz t) = toP t
  | .leaf _ => by simp [frz]
  | .pin _ _ => by simp [frz]
  | .node o s k => by
    cases s <;> simp [frz, toP, toPL_frz k]
theorem toPL_frz : ∀ ts : List T, toPL (frzL ts) = toPL ts
  | [] => by simp [frzL]
  | t :: ts => by simp [frzL, toPL, toP_frz t, toPL_frz ts]
end
theorem toPL_ints : ∀ ns : List Int, toPL (intsT ns) = some (ns.map PyData.int)
  | [] => by simp [toPL]
  | n :: ns => by
    have := toPL_ints ns
    simp only [intsT, List.map_cons, toPL, toP] at this ⊢
    rw [this]
    rfl
theorem smallL_ints : ∀ {ns : List Int}, (∀ n ∈ ns, n.natAbs < 2 ^ 1800) → smallL (ns.map PyData.int)
  | [], _ => by simp [smallL]
  | n :: ns, h => by
    simp only [List.map_cons, smallL, smallD]
    exact ⟨h n List.mem_cons_self, smallL_ints fun m hm => h m (List.mem_cons_of_mem _ hm)⟩
theorem szL_ints : ∀ ns : List Int, szL (ns.map PyData.int) = ns.length
  | [] => by simp [szL]
  | n :: ns => by
    simp only [List.map_cons, szL, szD, List.length_cons, szL_ints ns]
    omega
theorem depthAll_ints : ∀ ns : List Int, PyData.depthAll (ns.map PyData.int) = 0
  | [] => by simp [PyData.depthAll]
  | n :: ns => by simp [PyData.depthAll, PyData.depth, depthAll_ints ns]
theorem small_of_abs {i : Int} (h : i.natAbs < 2 ^ 200) : i.natAbs < 2 ^ 1800 := Nat.lt_of_lt_of_le h (Nat.pow_le_pow_right (by decide) (by decide))
theorem good_int {i : Int} (h : i.natAbs < 2 ^ 1800) : GoodD (.int i) := ⟨by simpa [smallD] using h, by simp [PyData.depth], by simp [szD]⟩
theorem good_ints {ns : List Int} (h : ∀ n ∈ ns, n.natAbs < 2 ^ 1800) (hl : ns.length ≤ 7000) : GoodD (.list (ns.map .int)) := ⟨by simpa [smallD] using smallL_ints h, by simp [PyData.depth, depthAll_ints], by simp [szD, szL_ints]; omega⟩
theorem ixN_nat (n k : Nat) : ixN n (k : Int) = if k < n then some k else none := by
  unfold ixN
  rw [if_pos (by omega), Int.toNat_natCast]
  by_cases h : k < n
  · rw [if_pos h, if_pos (by omega)]
  · rw [if_neg h, if_neg (by omega)]
theorem ixN_0 {n : Nat} : ixN n 0 = if 0 < n then some 0 else none := ixN_nat n 0
theorem ixN_1 {n : Nat} : ixN n 1 = if 1 < n then some 1 else none := ixN_nat n 1
theorem ixN_2 {n : Nat} : ixN n 2 = if 2 < n then some 2 else none := ixN_nat n 2
theorem ixN_3 {n : Nat} : ixN n 3 = if 3 < n then some 3 else none := ixN_nat n 3
theorem ixN_4 {n : Nat} : ixN n 4 = if 4 < n then some 4 else none := ixN_nat n 4
theorem ixN_5 {n : Nat} : ixN n 5 = if 5 < n then some 5 else none := ixN_nat n 5
theorem ixN_6 {n : Nat} : ixN n 6 = if 6 < n then some 6 else none := ixN_nat n 6
theorem ixN_7 {n : Nat} : ixN n 7 = if 7 < n then some 7 else none := ixN_nat n 7
theorem ixN_8 {n : Nat} : ixN n 8 = if 8 < n then some 8 else none := ixN_nat n 8
theorem ixN_9 {n : Nat} : ixN n 9 = if 9 < n then some 9 else none := ixN_nat n 9
theorem ixN_10 {n : Nat} : ixN n 10 = if 10 < n then some 10 else none := ixN_nat n 10
theorem ixN_11 {n : Nat} : ixN n 11 = if 11 < n then some 11 else none := ixN_nat n 11
theorem ixN_12 {n : Nat} : ixN n 12 = if 12 < n then some 12 else none := ixN_nat n 12
theorem at_first (ns : List Int) (k : Option Int) : ∃ x : Int, atI (cutA (intsT ns) k none ++ [.leaf (.int 0)]) 0 = some (.leaf (.int x)) ∧ (x = 0 ∨ x ∈ ns) := by
  have sub : ∀ t ∈ cutA (intsT ns) k none, ∃ x ∈ ns, t = .leaf (.int x) := fun t ht => by
    have := (cutA_sub _ _ _).subset ht
    obtain ⟨x, hx, e⟩ := List.mem_map.mp this
    exact ⟨x, hx, e.symm⟩
  cases h : cutA (intsT ns) k none with
  | nil => exact ⟨0, rfl, .inl rfl⟩
  | cons t r =>
    obtain ⟨x, hx, e⟩ := sub t (by rw [h]; exact List.mem_cons_self)
    subst e
    refine ⟨x, ?_, .inr hx⟩
    rw [List.cons_append]
    unfold atI
    have : ixN (T.leaf (V.int x) :: (r ++ [T.leaf (V.int 0)])).length 0 = some 0 := by
      unfold ixN
      simp
      omega
    rw [this]
    rfl
theorem cutA_ints (ns : List Int) (lo hi : Option Int) : cutA (intsT ns) lo hi = intsT (cutA ns lo hi) := by
  unfold cutA
  simp only [intsT, List.length_map, List.map_take, List.map_drop]
theorem at_first' (ns : List Int) (k : Option Int) : ∃ x : Int, atI (frzL (cutA (frzL (frzL (intsT ns))) k none) ++ frzL [.leaf (.int 0)]) 0 = some (.leaf (.int x)) ∧ (x = 0 ∨ x ∈ ns) := by
  rw [intsT_frz, intsT_frz, cutA_ints, intsT_frz]
  have := at_first ns k
  rw [cutA_ints] at this
  exact this
theorem cutA_length_le {α : Type} (xs : List α) (lo hi : Option Int) : (cutA xs lo hi).length ≤ xs.length := (cutA_sub xs lo hi).length_le
end DL
set_option Elab.async false
set_option linter.all false
set_option maxRecDepth 100000
set_option maxHeartbeats 4000000
namespace DL
open PySem PySem.Spec PyProof.Rows
open Sem (wp)
theorem meets_enum_new {v : Value} {o : Obj} {H : Heap → Prop} (B : Begins v o H) :
    Meets (Builtin.«enumerate.__new__» ⟨[.type "enumerate", v], []⟩) (fun _ R s => H s.heap ∧
      R (.ok (.ret (.ref (s.heap.push o).objs.size))) { s with heap := (s.heap.push o).push { cls := .type "enumerate", data := .fields #[.none, .bool false, .ref s.heap.objs.size, rawInt 0, .none, .none] } }) :=
  .of_wp fun prog w A R s h => by
    obtain ⟨hp, g, d, tk, os⟩ := s; obtain ⟨h1, h⟩ := h
    have hsub := sub_enumerate
    have q1 : ∀ {A' : Around} {E : Value → Shared → Prop} {Q : Value → Shared → Prop}, Q (.ref hp.objs.size) ⟨hp.push o, g, d, tk, os⟩ → wpAny (model prog w) A' (pyIter v) Q E ⟨hp, g, d, tk, os⟩ :=
      fun q => B.iter prog w _ _ ⟨hp, g, d, tk, os⟩ _ h1 q
    wp_walk using q1
    refine wpAny_stack_any fun st => wpAny_pure ?_
    split
    · rename_i c _ _ _ _ _
      cases (c == Value.type "enumerate")
      · wp_walk using q1
        exact ⟨_, rfl, h⟩
      · wp_walk using q1
        exact ⟨_, rfl, h⟩
    · wp_walk using q1
      exact ⟨_, rfl, h⟩
section
variable {prog : Program} {w : World} {A : Around} {E : Value → Shared → Prop} {s : Shared}
theorem call_enum_new {v : Value} {o : Obj} {H : Heap → Prop} {Q : Value → Shared → Prop} (B : Begins v o H) (h1 : H s.heap)
    (h : ∀ h', IsEnum h' (s.heap.objs.size + 1) s.heap.objs.size 0 .none → h'.get? s.heap.objs.size = some o → h'.objs.size = s.heap.objs.size + 2 →
      (∀ b o, s.heap.get? b = some o → h'.get? b = some o) → Q (.ref (s.heap.objs.size + 1)) { s with heap := h' }) :
    wpAny (model prog w) A (call (.type "enumerate") [v]) Q E s := by
  refine callType_new F.called_enumerate (by decide) (F.typeCall_enumerate_1 _) (F.newCall_enumerate_1 _) (fun obj => F.args_object_init_2 obj _) F.entry_enumerate_new
    (meets_enum_new B) ⟨h1, ?_⟩
  have hz : (s.heap.push o).objs.size = s.heap.objs.size + 1 := Heap.size_push ..
  show _ ∧ _
  rw [hz]
  have he : IsEnum ((s.heap.push o).push { cls := .type "enumerate", data := .fields #[.none, .bool false, .ref s.heap.objs.size, rawInt 0, .none, .none] }) (s.heap.objs.size + 1) s.heap.objs.size 0 .none := by
    have := Heap.get?_push_size (s.heap.push o) (o := { cls := .type "enumerate", data := .fields #[.none, .bool false, .ref s.heap.objs.size, rawInt 0, .none, .none] }) rfl
    rw [hz] at this; exact this
  refine ⟨⟨_, he, rfl⟩, h _ he (Heap.get?_push_of_some _ (Heap.get?_push_size _ B.free)) (by rw [Heap.size_push, hz]) fun b o x => Heap.get?_push_of_some _ (Heap.get?_push_of_some _ x)⟩
theorem enum_endT {e it a : Addr} {k : Int} {i : Nat} {items : Array Value} {old : Value} {Q : Option Value → Shared → Prop} (hh : A.handled = none) (he : IsEnum s.heap e it k old) (hit : s.heap.IsTupleIter it a i) (ht : s.heap.IsTuple a items) (hx : items[i]? = none)
    (hQ : ∀ h', Heap.ExtBut it s.heap h' → Q none { s with heap := h' }) : wpAny (model prog w) A (pyNext (.ref e)) Q E s := by
  have hT : s.TypeIs (.ref e) "enumerate" := ⟨_, he, rfl⟩
  unfold pyNext
  refine wpAny_bind (wpAny_attempt (wpAny_callSpecial?_slot (name := Str.ofString "__next__") hT F.slot_enumerate_next
    (wpAny_call_entry F.slot_enumerate_next hT F.entry_enumerate_next ?_ (F.args_enumerate_next_1 _))))
  show wpAny _ _ (field (.ref e) 2 >>= _) _ _ _
  refine wpAny_bind (wpAny_field he rfl (x := .ref it) rfl ?_)
  refine wpAny_bind (wpAny_nextOf_tuple_end (show A.in1.handled = none from hh) hit ht hx fun h' x he' hx' => ?_)
  obtain ⟨o, ho, hc⟩ := hx'
  refine wpAny_bind (wpAny_isInstance (T := "StopIteration") (b := true) ⟨o, ho, hc⟩ isSubtype_stop ?_)
  exact wpAny_pure (hQ _ he')
end
open L2
def IteT (K : PySem.W.Frag) (a : Addr) : It :=
  ⟨fun i H => ∃ (xs : List V) (x : V), SqT K H a xs ∧ xs[i]? = some x, fun i H v H' => ∃ T x, v = .ref T ∧ H T = none ∧ H' = upd H T (.tup [.int (i : Nat), x]) ∧ ∀ xs, SqT K H a xs → xs[i]? = some x, fun i H => ∃ xs : List V, SqT K H a xs ∧ xs.length ≤ i⟩
theorem turn_enumT {P : Program} {w : World} {K : PySem.W.Frag} {elts : List Expr} {kk : Nat} {tpos : Pos} (a e it : Addr) (hai : a ≠ it) (hae : a ≠ e) :
    Turn P w K (.Tuple elts kk tpos) (IteT K a) [e, it] e (fun i h => (∃ old, IsEnum h e it ((i : Nat) : Int) old) ∧ h.IsTupleIter it a i ∧ e ≠ it) where
  mem := by simp
  obj := fun i h st b hb => by
    obtain ⟨⟨old, he⟩, ⟨o, ho, hc, hd⟩, _⟩ := st
    have e' : b = e ∨ b = it := by simpa using hb
    rcases e' with z | z
    · rw [z]; exact ⟨_, he, fun v q => nomatch q⟩
    · rw [z]; exact ⟨o, ho, fun v q => by rw [hd] at q; cases q⟩
  keep := fun i h h' st k => let ⟨⟨old, he⟩, hi, hne⟩ := st; ⟨⟨old, k e (by simp) _ he⟩, hi.at fun o q => k it (by simp) o q, hne⟩
  item := by
    intro X hP hw hK hc i pins s σ H E I hf st hg
    subst hP hw hK
    obtain ⟨⟨old, he⟩, hit, hne⟩ := st
    obtain ⟨xs, x, hq, hx⟩ := hg
    obtain ⟨its, rv, p, hz⟩ := I.tuple hq
    obtain ⟨u, hu, ru⟩ := rv.get hx
    have hel : e < s.heap.objs.size := Heap.lt_size he
    have hil : it < s.heap.objs.size := by obtain ⟨_, q, _⟩ := hit; exact Heap.lt_size q
    have hlt : i < its.toArray.size := by
      rw [List.getElem?_eq_some_iff] at hu
      simpa using hu.1
    refine wpAny_pyNext_enum_itemD (Draws.tuple (show X.A.in1.handled = none from I.ok.hd hc) it a hai its.toArray) he ⟨hit, p⟩ hlt hne (by simp [hne, hae.symm]) fun y h' tk hy ho hit' hT hsz hk => ?_
    have hy' : its.toArray[i]? = some y := hy
    have ey : y = u := by
      have h2 : its.toArray[i]? = some u := by simpa using hu
      rw [h2] at hy'
      exact (Option.some.inj hy').symm
    subst ey
    refine ⟨_, rfl, wpAny_letOwnedTupleGo_enum (s := { s with heap := h', toks := tk + 1 }) ho fun h'' he' sb => ?_⟩
    have hT2 : h''.get? s.heap.objs.size = some { cls := .type "tuple", data := .seq #[.int i tk, y] } := (sb.2 _ (Nat.ne_of_gt hel)).trans hT
    have new : ObjOk X.prog X.w (upd H s.heap.objs.size (.tup [.int (i : Nat), x])) h'' s.heap.objs.size (.tup [.int (i : Nat), x]) :=
      ⟨by show 2 ≤ sizeLine; decide, [.int i tk, y], .cons ⟨_, rfl⟩ (.cons ru .nil), ⟨_, hT2, rfl, _, rfl⟩⟩
    have I1 : Inv X pins σ (upd H s.heap.objs.size (.tup [.int (i : Nat), x])) { s with heap := h'', toks := tk + 1 } :=
      I.turnedNew (ch := [e, it]) (fun b ob hb q => (sb.2 b (fun z => hb (by simp [z]))).trans (hk b ob (fun z => hb (by simp [z])) (fun z => hb (by simp [z])) q)) hf (Nat.le_refl _) new
    refine ⟨.ref s.heap.objs.size, _, I1, rfl, ⟨_, x, rfl, I.hok.fresh (Nat.le_refl _), rfl, fun ys hy => by rw [I.tuple_inj hy hq]; exact hx⟩, ⟨⟨y, ?_⟩, hit'.1.at fun o q => (sb.2 it (Ne.symm hne)).trans q, hne⟩, fun b hb => ?_⟩
    · have e1 : ((i + 1 : Nat) : Int) = (i : Int) + 1 := by omega
      rw [e1]; exact he'
    · have hb' : b < s.heap.objs.size := by
        have e' : b = e ∨ b = it := by simpa using hb
        rcases e' with z | z
        · rw [z]; exact hel
        · rw [z]; exact hil
      rw [upd_ne (Nat.ne_of_lt hb')]
      exact (hf b hb).1
  done := by
    intro X hP hw hK hc i pins s σ H E I hf st hg
    subst hP hw hK
    obtain ⟨⟨old, he⟩, hit, hne⟩ := st
    obtain ⟨xs, hq, hx⟩ := hg
    obtain ⟨its, rv, p, hz⟩ := I.tuple hq
    obtain ⟨f0, f1, f2, f3, f4, f5⟩ := hf it (by simp)
    have hl := rv.length
    exact enum_endT (I.ok.hd hc) he hit p (by simp; omega) fun h' eb => ⟨rfl, I.turned (t' := s.toks) (fun b o hb q => eb b o hb q) f0 f1 f3 f4 f5⟩
  self := fun A i s Q E st h => let ⟨⟨_, he⟩, _⟩ := st; wpAny_pyIter_enum he h
def iEnumA (K : PySem.W.Frag) (ta : TA) : TI := fun σ H R => ta σ H fun vs H1 => ∃ a xs, vs = [.ref a] ∧ ((SqL K H1 a xs ∧ R (Ite K a) H1) ∨ (SqT K H1 a xs ∧ R (IteT K a) H1))
theorem pi_enumA {X : Cx} {e : Expr} {ta : TA} {p pos tpos : Pos} {elts : List Expr} {kk : Nat} (hg : Gl X "enumerate") (hm : X.mg "enumerate" = none) (ha : PA X [e] ta) (hs : starEach [e] X.env = [(false, eval e X.env)] := by rfl) :
    PI X (.Tuple elts kk tpos) (.Call (.Name "enumerate" p) [e] [] pos) (iEnumA X.K ta) := by
  refine ⟨fun pins s σ H R I h => ?_⟩
  refine Call_ (ld_blt I hg hm boot_enumerate (PyProof.Rows.callWith_type1 (thn (ha.run pos pins s σ H _ I h) fun us s1 ⟨vs, H1, I1, r1, q1⟩ => ?_) hs rfl))
  obtain ⟨a, xs, ex, q1⟩ := q1
  subst ex
  cases r1 with
  | cons r rr =>
    cases rr
    cases r
    have fresh : ∀ b, b ∈ [s1.heap.objs.size + 1, s1.heap.objs.size] → FpOk X pins H1 b := fun b hb => by
      have e' : b = s1.heap.objs.size + 1 ∨ b = s1.heap.objs.size := by simpa using hb
      have hle : s1.heap.objs.size ≤ b := by
        rcases e' with z | z
        · rw [z]; exact Nat.le_add_right _ _
        · rw [z]; exact Nat.le_refl _
      exact I1.fpOk hle (I1.hok.fresh hle)
    rcases q1 with ⟨hq, q⟩ | ⟨hq, q⟩
    · obtain ⟨its, rv, p', hz⟩ := I1.list hq
      refine call_enumerate_list p'.isList fun h' he hit hsz hk => wpAny_pyIter_enum he ?_
      have I2 : Inv X pins σ H1 { s1 with heap := h' } := I1.kept (t' := s1.toks) hk
      exact ⟨s1.heap.objs.size + 1, [s1.heap.objs.size + 1, s1.heap.objs.size], _, _, H1, rfl, I2, turn_enum a (s1.heap.objs.size + 1) s1.heap.objs.size, ⟨⟨.none, he⟩, hit, Nat.succ_ne_self _⟩, fresh, q⟩
    · obtain ⟨its, rv, p', hz⟩ := I1.tuple hq
      have pt : s1.heap.IsTuple a its.toArray := p'
      have hal : a < s1.heap.objs.size := by
        obtain ⟨o, ho, _⟩ := pt
        exact Heap.lt_size ho
      refine call_enum_new (begins_tuple a its.toArray) pt fun h' he hit hsz hk => wpAny_pyIter_enum he ?_
      have I2 : Inv X pins σ H1 { s1 with heap := h' } := I1.kept (t' := s1.toks) hk
      exact ⟨s1.heap.objs.size + 1, [s1.heap.objs.size + 1, s1.heap.objs.size], _, _, H1, rfl, I2, turn_enumT a (s1.heap.objs.size + 1) s1.heap.objs.size (Nat.ne_of_lt hal) (Nat.ne_of_lt (Nat.lt_succ_of_lt hal)), ⟨⟨.none, he⟩, ⟨_, hit, rfl, rfl⟩, Nat.succ_ne_self _⟩, fresh, q⟩
def repS (z : Str) (n : Int) : Str := ⟨(List.replicate n.toNat z.cps.toList).flatten.toArray⟩
def rRepS : R2 := fun x y H Q => ∃ z n, x = .str z ∧ y = .int n ∧ -(2 ^ 62) ≤ n ∧ n < 2 ^ 62 ∧ z.length * n.toNat ≤ sizeLine ∧ Q (.str (repS z n)) H
theorem foldl_app (l : List (Array Nat)) : ∀ acc : Array Nat, (l.foldl (· ++ ·) acc).toList = acc.toList ++ (l.map Array.toList).flatten := by
  induction l with
  | nil => intro acc; simp
  | cons a l ih =>
    intro acc
    rw [List.foldl_cons, ih]
    simp
theorem op_repS {X : Cx} : OpR X (binaryOp .Mult) rRepS := by
  intro pins s σ H x y v u Q I rx ry h
  obtain ⟨z, n, rfl, rfl, h1, h2, hz, q⟩ := h
  obtain ⟨t, rfl⟩ := rx
  obtain ⟨t', rfl⟩ := ry
  have e1 : ∀ h : n < 1, repS z n = Str.empty := fun h => by
    unfold repS
    rw [show n.toNat = 0 by omega]
    rfl
  have e3 : (⟨(List.replicate n.toNat z.cps).foldl (· ++ ·) #[]⟩ : Str) = repS z n := by
    unfold repS
    congr 1
    apply Array.toList_inj.mp
    rw [foldl_app]
    simp
  have e2 : (n == 1 || z.length == 0) = true → ¬ n < 1 → z = repS z n := fun h hn => by
    have : z.cps = (List.replicate n.toNat z.cps.toList).flatten.toArray := by
      rw [Bool.or_eq_true] at h
      rcases h with h | h
      · have : n = 1 := by simpa using h
        subst this
        simp
      · have h0 : z.cps.size = 0 := by
          have : z.length = 0 := by simpa using h
          exact this
        have : z.cps = #[] := Array.eq_empty_of_size_eq_zero h0
        rw [this]
        simp
    unfold repS
    rw [← this]
  have e4 : (⟨(List.replicate n.toNat z.cps).foldl (· ++ ·) #[]⟩ : Str).cps.size ≤ sizeLine := by
    rw [e3]
    unfold repS
    have : (List.replicate n.toNat z.cps.toList).flatten.toArray.size = z.length * n.toNat := by
      rw [List.size_toArray, List.length_flatten, List.map_replicate, List.sum_replicate_nat, Nat.mul_comm]
      rfl
    show (List.replicate n.toNat z.cps.toList).flatten.toArray.size ≤ _
    rw [this]
    exact hz
  refine PySem.P.mul_str (by
      have a1 : ¬ n < -(2 ^ 63 : Int) := by omega
      have a2 : ¬ n ≥ 2 ^ 63 := by omega
      rw [decide_eq_false a1, decide_eq_false a2]; rfl) (fun hn hb => ?_) (fun hn hb => ?_) ?_
  · have hm : ((z.length : Nat) : Int) * n ≤ 2 ^ 63 - 1 := by
      have e : ((z.length * n.toNat : Nat) : Int) = (z.length : Int) * n := by
        rw [Int.natCast_mul, Int.toNat_of_nonneg (by omega)]
      rw [← e]
      have : z.length * n.toNat ≤ 2 ^ 24 := hz
      omega
    have := Int.le_ediv_of_mul_le (by omega : 0 < n) hm
    omega
  · unfold Builtin.Str.tooLong
    exact decide_eq_false (by omega)
  · by_cases hn : n < 1
    · rw [if_pos hn]
      refine ⟨by decide, ?_⟩
      exact ⟨.str (repS z n), H, I.tok _, ⟨_, by rw [e1 hn]⟩, q⟩
    · rw [if_neg hn]
      by_cases hb : (n == 1 || z.length == 0) = true
      · rw [if_pos hb]
        refine ⟨.str (repS z n), H, I, ⟨_, by rw [← e2 hb hn]⟩, q⟩
      · rw [if_neg hb]
        refine ⟨e4, ?_⟩
        exact ⟨.str (repS z n), H, I.tok _, ⟨_, by rw [e3]⟩, q⟩
end DL
set_option Elab.async false
set_option linter.all false
set_option maxRecDepth 100000
set_option maxHeartbeats 4000000
namespace DL
open PySem L2
def enumT (ts : List T) : List T := ts.mapIdx fun i t => .node true .tup [.leaf (.int (i : Nat)), t]
theorem enumT_get {ts : List T} {i : Nat} {t : T} (h : (enumT ts)[i]? = some t) : ∃ u, ts[i]? = some u ∧ t = .node true .tup [.leaf (.int (i : Nat)), u] := by
  unfold enumT at h
  rw [List.getElem?_mapIdx] at h
  cases e : ts[i]? with
  | none => rw [e] at h; cases h
  | some u =>
    rw [e] at h
    cases h
    exact ⟨u, rfl, rfl⟩
theorem enumT_len (ts : List T) : (enumT ts).length = ts.length := by simp [enumT]
section
variable {K : PySem.W.Frag} {B : Bs} {lim : List Addr} {σ : St} {H : Hp} {g : Ev} {Φ : Its}
theorem make_pair {x y : V} {t u : T} (r : RepG K B lim σ H g ((x, t) :: (y, u) :: Φ)) {p : Addr} (hp : H p = none) : RepG K B lim σ (upd H p (.tup [x, y])) g ((.ref p, .node true .tup [t, u]) :: Φ) :=
  RepG.make (s := .tup) (zs := [(x, t), (y, u)]) r hp
theorem walks_enumL {a : Addr} {vs : List V} {ts : List T} (hl : vs.length = ts.length) (hf : ∀ (i : Nat) (t : T), ts[i]? = some t → frz t = t) : Walks K B lim (Ite K a) ((.ref a, .pin .lst vs) :: vs.zip ts) (enumT ts) := by
  intro σ H g Φ i r
  have sq : SqL K H a vs := by
    obtain ⟨b, e, hr⟩ := RepG.pinAt (Φ := vs.zip ts ++ Φ) r
    cases e
    exact seqL hr
  refine ⟨fun t ht => ?_, fun hi => ⟨vs, sq, by rw [enumT_len] at hi; omega⟩⟩
  obtain ⟨u, hu, rfl⟩ := enumT_get ht
  obtain ⟨v, hv, hz⟩ := zip_get hl hu
  refine ⟨⟨vs, v, sq, hv⟩, fun x H' y => ?_⟩
  obtain ⟨T0, x', rfl, hn, rfl, y⟩ := y
  have hx := y vs sq
  rw [hv] at hx
  cases hx
  exact make_pair (RepG.addLeaf (RepG.dupAt (zs := (.ref a, .pin .lst vs) :: vs.zip ts) (i := i + 1) r (by simpa using hz) (hf i u hu))) hn
theorem walks_enumT {a : Addr} {vs : List V} {ts : List T} (hl : vs.length = ts.length) (hf : ∀ (i : Nat) (t : T), ts[i]? = some t → frz t = t) : Walks K B lim (IteT K a) ((.ref a, .pin .tup vs) :: vs.zip ts) (enumT ts) := by
  intro σ H g Φ i r
  have sq : SqT K H a vs := by
    obtain ⟨b, e, hr⟩ := RepG.pinAt (Φ := vs.zip ts ++ Φ) r
    cases e
    exact seqT hr
  refine ⟨fun t ht => ?_, fun hi => ⟨vs, sq, by rw [enumT_len] at hi; omega⟩⟩
  obtain ⟨u, hu, rfl⟩ := enumT_get ht
  obtain ⟨v, hv, hz⟩ := zip_get hl hu
  refine ⟨⟨vs, v, sq, hv⟩, fun x H' y => ?_⟩
  obtain ⟨T0, x', rfl, hn, rfl, y⟩ := y
  have hx := y vs sq
  rw [hv] at hx
  cases hx
  exact make_pair (RepG.addLeaf (RepG.dupAt (zs := (.ref a, .pin .tup vs) :: vs.zip ts) (i := i + 1) r (by simpa using hz) (hf i u hu))) hn
end
section
variable {X : Cx} {W : WX} {m : Nat → Bool} {tg e a b c : Expr} {es : List Expr} {te ta tb tc : DTE} {t : DTA} {bs : List (Option Nat)} {pos p tpos : Pos}
def iEn (t : DTA) : DTI := fun g Q E => t g (fun τs g1 => match τs with
  | [.node _ .lst ts] => Q (enumT (frzL ts)) g1
  | [.node _ .tup ts] => Q (enumT (frzL ts)) g1
  | _ => False) E
theorem di_enum {elts : List Expr} {kk : Nat} (hg : Gl X "enumerate") (hm : X.mg "enumerate" = none) (ha : DA X W [e] bs t) (hs : starEach [e] X.env = [(false, eval e X.env)] := by rfl) :
    DI X W (.Tuple elts kk tpos) (.Call (.Name "enumerate" p) [e] [] pos) (iEn t) := by
  refine ⟨fun B => PI.imp (pi_enumA hg hm (ha.run B) hs) fun σ H R ⟨Φ, lim, g, E, r, hx, q⟩ => ?_, fun g Q Q' E E' hq hE q => ha.mono _ _ _ _ _ (fun τs g1 q1 => ?_) hE q⟩
  · refine ⟨Φ, lim, g, E, r, hx, ha.mono _ _ _ _ _ (fun τs g1 q1 vs H1 hl _ r1 => ?_) (fun _ _ _ z => z) q⟩
    split at q1
    · rename_i o ts
      match vs, hl with
      | [v], _ =>
        obtain ⟨a, us, rfl, hl', r2⟩ := RepG.pinned (Φ := Φ) (v := v) (o := o) (s := .lst) (ts := ts) r1
        have sq : SqL X.K H1 a us := by
          obtain ⟨b, e, hr⟩ := RepG.pinAt (Φ := us.zip (frzL ts) ++ Φ) r2
          cases e
          exact seqL hr
        exact ⟨a, us, rfl, .inl ⟨sq, q1 _ _ H1 r2 (walks_enumL (by rw [hl', frzL_length]) fun i t ht => frzL_get ht)⟩⟩
    · rename_i o ts
      match vs, hl with
      | [v], _ =>
        obtain ⟨a, us, rfl, hl', r2⟩ := RepG.pinned (Φ := Φ) (v := v) (o := o) (s := .tup) (ts := ts) r1
        have sq : SqT X.K H1 a us := by
          obtain ⟨b, e, hr⟩ := RepG.pinAt (Φ := us.zip (frzL ts) ++ Φ) r2
          cases e
          exact seqT hr
        exact ⟨a, us, rfl, .inr ⟨sq, q1 _ _ H1 r2 (walks_enumT (by rw [hl', frzL_length]) fun i t ht => frzL_get ht)⟩⟩
    · exact q1.elim
  · split at q1
    · exact hq _ _ q1
    · exact hq _ _ q1
    · exact q1.elim
def isBl (τ : T) (P : Bool → Prop) : Prop := match τ with
  | .leaf (.bl b) => P b
  | _ => False
theorem isBl_mono {τ : T} {P P' : Bool → Prop} (h : ∀ b, P b → P' b) (q : isBl τ P) : isBl τ P' := by
  unfold isBl at q ⊢
  split at q
  · exact h _ q
  · exact q.elim
theorem isBl_of {τ : T} {P : Bool → Prop} (q : isBl τ P) : ∃ b, τ = .leaf (.bl b) ∧ P b := by
  unfold isBl at q
  split at q
  · exact ⟨_, rfl, q⟩
  · exact q.elim
theorem ifB_mono {c : Bool} {a a' b b' : Prop} (h1 : a → a') (h2 : b → b') (q : ifB c a b) : ifB c a' b' := by
  cases c with
  | true => exact h1 q
  | false => exact h2 q
def xChain (r1 r2 : R2T) (ta tb tc : DTE) : DTE := fun g Q E => ta g (fun τ1 g1 => tb g1 (fun τ2 g2 => r1 τ1 (frz τ2) fun τ => isBl τ fun k => ifB k (tc g2 (fun τ3 g3 => r2 (frz τ2) τ3 fun τ' => Q τ' g3) E) (Q (.leaf (.bl false)) g2)) E) E
theorem xChain_mono {r1 r2 : R2T} (h1 : ∀ τ1 τ2 Q Q', (∀ τ, Q τ → Q' τ) → r1 τ1 τ2 Q → r1 τ1 τ2 Q') (h2 : ∀ τ1 τ2 Q Q', (∀ τ, Q τ → Q' τ) → r2 τ1 τ2 Q → r2 τ1 τ2 Q') (ha : DE X W a ta) (hb : DE X W b tb) (hc : DE X W c tc) :
    ∀ g Q Q' E E', (∀ τ g', Q τ g' → Q' τ g') → (∀ c fs g', E c fs g' → E' c fs g') → xChain r1 r2 ta tb tc g Q E → xChain r1 r2 ta tb tc g Q' E' := fun g Q Q' E E' hq he q =>
  ha.mono _ _ _ _ _ (fun τ1 g1 q1 => hb.mono _ _ _ _ _ (fun τ2 g2 q2 => h1 _ _ _ _ (fun τ q3 => isBl_mono (fun k q4 => ifB_mono (fun q5 => hc.mono _ _ _ _ _ (fun τ3 g3 q6 => h2 _ _ _ _ (fun τ' z => hq _ _ z) q6) he q5) (fun z => hq _ _ z) q4) q3) q2) he q1) he q
theorem chain_reads {op op' : CmpOp} {rr rr' : R2} {r1 r2 : R2T} (hr1 : Op2 X.K rr r1) (hr2 : Op2 X.K rr' r2) (ha : DE X W a ta) (hb : DE X W b tb) (hc : DE X W c tc) {B : Bs} {σ : St} {H : Hp} {Q : VK} (h : liftE X.K B W (xChain r1 r2 ta tb tc) σ H Q) :
    tChain rr rr' (liftE X.K B W ta) (liftE X.K B W tb) (liftE X.K B W tc) σ H Q := by
  obtain ⟨Φ, lim, g, E, r, hx, q⟩ := h
  refine ⟨Φ, lim, g, E, r, hx, ha.mono _ _ _ _ _ (fun τ1 g1 q1 v1 H1 k1 => ?_) (fun _ _ _ z => z) q⟩
  refine ⟨(v1, τ1) :: Φ, lim, g1, E, k1, hx, hb.mono _ _ _ _ _ (fun τ2 g2 q2 v2 H2 k2 => ?_) (fun _ _ _ z => z) q1⟩
  have k3 := k2.freezeT.dup (frz_frz τ2)
  have k4 : RepG X.K B lim σ H2 g2 ((v2, frz τ2) :: (v1, τ1) :: (v2, frz τ2) :: Φ) := k3.perm (List.Perm.cons _ (List.Perm.swap _ _ _))
  refine hr1.1 B lim σ H2 g2 ((v2, frz τ2) :: Φ) v1 v2 τ1 (frz τ2) _ k4 (hr1.2 _ _ _ _ (fun τ q3 v3 H3 k5 => ?_) q2)
  obtain ⟨k, rfl, q4⟩ := isBl_of q3
  obtain rfl := k5.leaf
  refine ⟨k, rfl, ?_⟩
  cases k with
  | false => exact q4 _ _ k5.dropT.dropT.addLeaf
  | true =>
    refine ⟨(v2, frz τ2) :: Φ, lim, g2, E, k5.dropT, hx, hc.mono _ _ _ _ _ (fun τ3 g3 q5 v4 H4 k6 => ?_) (fun _ _ _ z => z) q4⟩
    exact hr2.1 B lim σ H4 g3 Φ v2 v4 (frz τ2) τ3 _ k6 (hr2.2 _ _ _ _ (fun τ' z v5 H5 k7 => z v5 H5 k7) q5)
theorem d_chain {op op' : CmpOp} {rr rr' : R2} {r1 r2 : R2T} (ho : OpR X (compareOp op) rr) (hr1 : Op2 X.K rr r1) (ho' : OpR X (compareOp op') rr') (hr2 : Op2 X.K rr' r2) (ha : DE X W a ta) (hb : DE X W b tb) (hc : DE X W c tc)
    (hm : lastMarks [op, op'] [b, c] = false := by with_unfolding_all rfl) : DE X W (.Compare a [op, op'] [b, c] pos) (xChain r1 r2 ta tb tc) :=
  ⟨fun B => PE.imp (pe_chain ho ho' (ha.run B) (hb.run B) (hc.run B) hm) fun σ H Q h => chain_reads (op := op) (op' := op') hr1 hr2 ha hb hc h, xChain_mono hr1.2 hr2.2 ha hb hc⟩
theorem dt_chain {op op' : CmpOp} {rr rr' : R2} {r1 r2 : R2T} (ho : OpR X (compareOp op) rr) (hr1 : Op2 X.K rr r1) (ho' : OpR X (compareOp op') rr') (hr2 : Op2 X.K rr' r2) (ha : DE X W a ta) (hb : DE X W b tb) (hc : DE X W c tc)
    (hm : lastMarks [op, op'] [b, c] = false := by with_unfolding_all rfl) : DT X W (.Compare a [op, op'] [b, c] pos) (xB (xChain r1 r2 ta tb tc)) := by
  refine ⟨fun B => PT.imp (pt_chain ho ho' (ha.run B) (hb.run B) (hc.run B) hm) fun σ H Q ⟨Φ, lim, g, E, r, hx, q⟩ => ?_, fun g Q Q' E E' hq hE q => ?_⟩
  · refine chain_reads (op := op) (op' := op') hr1 hr2 ha hb hc ⟨Φ, lim, g, E, r, hx, xChain_mono hr1.2 hr2.2 ha hb hc _ _ _ _ _ (fun τ g1 q1 v H1 k1 => ?_) (fun _ _ _ z => z) q⟩
    split at q1
    · obtain rfl := k1.leaf
      exact ⟨_, rfl, q1 _ k1.dropT⟩
    · exact q1.elim
  · exact xChain_mono hr1.2 hr2.2 ha hb hc _ _ _ _ _ (fun τ g1 q1 => m_bl hq q1) hE q
def rtIs (neg : Bool) : R2T := fun τ1 τ2 Q => match τ1, τ2 with
  | .leaf (.bl a), .leaf (.bl b) => Q (.leaf (.bl (if neg then !decide (a = b) else decide (a = b))))
  | .leaf v, .leaf .non => Q (.leaf (.bl (if neg then !decide (v = .non) else decide (v = .non))))
  | .node _ _ _, .leaf .non => Q (.leaf (.bl neg))
  | _, _ => False
theorem rtIs_mono {neg : Bool} : ∀ τ1 τ2 Q Q', (∀ τ, Q τ → Q' τ) → rtIs neg τ1 τ2 Q → rtIs neg τ1 τ2 Q' := by
  intro τ1 τ2 Q Q' hq q
  unfold rtIs at q ⊢
  split at q
  · exact hq _ q
  · exact hq _ q
  · exact hq _ q
  · exact q.elim
def rIsNo : R2 := fun x y H Q => y = .non ∧ Q (.bl (decide (x = .non))) H
def rNotNo : R2 := fun x y H Q => y = .non ∧ Q (.bl (!decide (x = .non))) H
def rIsA : R2 := fun x y H Q => rIsB x y H Q ∨ rIsNo x y H Q
def rIsBn : R2 := fun x y H Q => ∃ a b, x = .bl a ∧ y = .bl b ∧ Q (.bl (!decide (a = b))) H
def rIsnA : R2 := fun x y H Q => rIsBn x y H Q ∨ rNotNo x y H Q
theorem op_isA : OpR X (compareOp .Is) rIsA := fun pins s σ H x y v u Q I rx ry h => h.elim (op_isBl pins s σ H x y v u Q I rx ry) (op_isN pins s σ H x y v u Q I rx ry)
theorem op_isnA : OpR X (compareOp .IsNot) rIsnA := fun pins s σ H x y v u Q I rx ry h => h.elim (op_isnot_bl pins s σ H x y v u Q I rx ry) (op_notN pins s σ H x y v u Q I rx ry)
theorem op2_is {K : PySem.W.Frag} : Op2 K rIsA (rtIs false) := by
  refine ⟨fun B lim σ H g Φ v1 v2 τ1 τ2 Q r q => ?_, rtIs_mono⟩
  unfold rtIs at q
  split at q
  · obtain rfl := r.leaf
    obtain rfl := r.dropT.leaf
    exact .inl ⟨_, _, rfl, rfl, q _ _ r.dropT.dropT.addLeaf⟩
  · obtain rfl := r.leaf
    obtain rfl := r.dropT.leaf
    exact .inr ⟨rfl, q _ _ r.dropT.dropT.addLeaf⟩
  · obtain rfl := r.leaf
    obtain ⟨a, vs, rfl, _⟩ := r.dropT.node
    exact .inr ⟨rfl, q _ _ r.dropT.dropT.addLeaf⟩
  · exact q.elim
theorem op2_isn {K : PySem.W.Frag} : Op2 K rIsnA (rtIs true) := by
  refine ⟨fun B lim σ H g Φ v1 v2 τ1 τ2 Q r q => ?_, rtIs_mono⟩
  unfold rtIs at q
  split at q
  · obtain rfl := r.leaf
    obtain rfl := r.dropT.leaf
    exact .inl ⟨_, _, rfl, rfl, q _ _ r.dropT.dropT.addLeaf⟩
  · obtain rfl := r.leaf
    obtain rfl := r.dropT.leaf
    exact .inr ⟨rfl, q _ _ r.dropT.dropT.addLeaf⟩
  · obtain rfl := r.leaf
    obtain ⟨a, vs, rfl, _⟩ := r.dropT.node
    exact .inr ⟨rfl, q _ _ r.dropT.dropT.addLeaf⟩
  · exact q.elim
theorem d_is (ha : DE X W a ta) (hb : DE X W b tb) : DE X W (.Compare a [.Is] [b] pos) (xOp (rtIs false) ta tb) := d_cmp op_isA op2_is ha hb (nomark _)
theorem d_isnot (ha : DE X W a ta) (hb : DE X W b tb) : DE X W (.Compare a [.IsNot] [b] pos) (xOp (rtIs true) ta tb) := d_cmp op_isnA op2_isn ha hb (nomark _)
theorem dt_is (ha : DE X W a ta) (hb : DE X W b tb) : DT X W (.Compare a [.Is] [b] pos) (xB (xOp (rtIs false) ta tb)) := dt_cmp op_isA op2_is ha hb (nomark _)
theorem dt_isnot (ha : DE X W a ta) (hb : DE X W b tb) : DT X W (.Compare a [.IsNot] [b] pos) (xB (xOp (rtIs true) ta tb)) := dt_cmp op_isnA op2_isn ha hb (nomark _)
end
end DL
set_option Elab.async false
set_option linter.all false
set_option maxRecDepth 100000
set_option maxHeartbeats 4000000
namespace DL
open PySem L2
inductive Ty where
  | non | int | bl | str | lst | tup | dct | exc
deriving DecidableEq
def Ty.name : Ty → String
  | .non => "NoneType"
  | .int => "int"
  | .bl => "bool"
  | .str => "str"
  | .lst => "list"
  | .tup => "tuple"
  | .dct => "dict"
  | .exc => "BaseException"
def tyT : T → Option Ty
  | .leaf .non => some .non
  | .leaf (.bl _) => some .bl
  | .leaf (.int _) => some .int
  | .leaf (.str _) => some .str
  | .node _ .lst _ => some .lst
  | .node _ .tup _ => some .tup
  | .node _ (.dK _) _ => some .dct
  | .node _ (.dT _) _ => some .dct
  | .pin .lst _ => some .lst
  | .pin .tup _ => some .tup
  | .pin (.exc _) _ => some .exc
  | _ => none
def Ty.isa : Ty → Ty → Bool
  | .bl, .int => true
  | a, b => decide (a = b)
theorem isa_ok (a b : Ty) (h : b ≠ .non ∧ b ≠ .exc) (ha : a ≠ .exc) : kitB a.name b.name = some (a.isa b) := by
  cases a <;> cases b <;> first | exact absurd rfl h.1 | exact absurd rfl h.2 | exact absurd rfl ha | decide +kernel
theorem RepG.tyx {K : PySem.W.Frag} {B : Bs} {lim : List Addr} {σ : St} {H : Hp} {g : Ev} {Φ : Its} {v : V} {τ : T} {ty : Ty} (r : RepG K B lim σ H g ((v, τ) :: Φ)) (e : tyT τ = some ty) (hne : ty ≠ .exc) : TyX K H v (.type ty.name) := by
  unfold tyT at e
  split at e
  · cases e
    obtain rfl := r.leaf
    exact .base .non
  · cases e
    obtain rfl := r.leaf
    exact .base (.bl _)
  · cases e
    obtain rfl := r.leaf
    exact .base (.int _)
  · cases e
    obtain rfl := r.leaf
    exact .base (.str _)
  · cases e
    obtain ⟨a, vs, rfl, _, ha⟩ := r.nodeH (by nofun)
    exact .base (.lst ha)
  · cases e
    obtain ⟨a, vs, rfl, _, hr⟩ := r.node
    rcases hr with (ha | ⟨o, ha⟩) | ⟨o, its, n, h1, h2, h3, h4, h5⟩
    · exact .base (.tup ha)
    · exact .fTuple ha
    · exact .kTuple h1 h2
  · cases e
    obtain ⟨a, vs, rfl, _, ha⟩ := r.nodeH (by nofun)
    exact .base (.dK ha)
  · cases e
    obtain ⟨a, vs, rfl, _, ha⟩ := r.nodeH (by nofun)
    exact .base (.dT ha)
  · cases e
    obtain ⟨a, rfl, hr⟩ := r.pinAt
    rcases hr with (ha | ⟨o, ha⟩) | ⟨o, its, n, h1, h2, h3, h4, h5⟩
    · exact .base (.lst ha)
    · exact .base (.frz ha)
    · exact .kList h1 h2
  · cases e
    obtain ⟨a, rfl, hr⟩ := r.pinAt
    rcases hr with (ha | ⟨o, ha⟩) | ⟨o, its, n, h1, h2, h3, h4, h5⟩
    · exact .base (.tup ha)
    · exact .fTuple ha
    · exact .kTuple h1 h2
  · cases e
    exact absurd rfl hne
  · cases e
theorem excKit {K : PySem.W.Frag} {D : Addr} (hv : ExcV K D) (c : Ty) (hc : c ≠ .non ∧ c ≠ .exc) : PySem.W.kitOne K (.ref D) (.type c.name) = some (Ty.exc.isa c) := by
  have := hv.kit c.name (by cases c <;> first | exact absurd rfl hc.1 | exact absurd rfl hc.2 | decide)
  rw [this]
  cases c <;> first | rfl | exact absurd rfl hc.2
theorem excKitAny {K : PySem.W.Frag} {D : Addr} (hv : ExcV K D) : ∀ cs : List Ty, (∀ c ∈ cs, c ≠ .non ∧ c ≠ .exc) → PySem.W.kitAny K (.ref D) (cs.map fun c => .type c.name) = some (cs.any Ty.exc.isa)
  | [], _ => kitAny_nil
  | c :: cs, h => by
    have ih := excKitAny hv cs fun d hd => h d (List.mem_cons_of_mem _ hd)
    refine kitAny_cons (excKit hv c (h c List.mem_cons_self)) (fun e => ?_) (fun e => ?_)
    · rw [ih, List.any_cons, e, Bool.false_or]
    · rw [List.any_cons, e, Bool.true_or]
theorem exc_inst {X : Cx} {pins : List (Addr × Obj)} {σ : St} {H : Hp} {s : Shared} {a : Addr} (I : Inv X pins σ H s) (ha : ExcIn X.K H a) : ∃ (D : Addr) (oe : Obj), ExcV X.K D ∧ PySem.W.InstAt s.heap a oe D none := by
  rcases ha with ⟨D, ha, hv⟩ | ha | ⟨o, ha⟩
  · obtain ⟨⟨oe, vs, e, z, d, _⟩, _, _⟩ := I.hok a _ ha
    refine ⟨D, oe, hv, ?_⟩
    obtain ⟨oc, od, oda, osl⟩ := oe
    obtain ⟨h1, h2⟩ := z
    dsimp only at h1 h2 d
    subst h1 h2 d
    exact ⟨e, rfl, rfl, trivial⟩
  · obtain ⟨z, _⟩ := I.hok a _ ha
    exact z.elim
  · have z := I.hok a _ ha
    exact z.2.1.elim
def rIsiV (K : PySem.W.Frag) : List V → Hp → VK → Prop := fun xs H Q => ∃ (a : Addr) (c : Ty), (c ≠ .non ∧ c ≠ .exc) ∧ xs = [.ref a, .ty c.name] ∧ ExcIn K H a ∧ Q (.bl (Ty.exc.isa c)) H
def rIsiTV (K : PySem.W.Frag) : List V → Hp → VK → Prop := fun xs H Q => ∃ (a tp : Addr) (cs : List Ty), (∀ c ∈ cs, c ≠ .non ∧ c ≠ .exc) ∧ xs = [.ref a, .ref tp] ∧ H tp = some (.tup (cs.map fun c => V.ty c.name)) ∧ ExcIn K H a ∧ Q (.bl (cs.any Ty.exc.isa)) H
theorem paired_ty : ∀ cs : List Ty, Paired ClsV (cs.map fun c => V.ty c.name) (cs.map fun c => Value.type c.name)
  | [] => .nil
  | c :: cs => .cons (.ty _) (paired_ty cs)
theorem call_isV {X : Cx} : CallR X (.builtin "isinstance") (fun xs H Q => rIsi X.K xs H Q ∨ rIsiV X.K xs H Q) := by
  intro pins s σ H xs us Q I r h
  rcases h with h | ⟨a, c, hc, rfl, ha, q⟩
  · exact call_isi pins s σ H xs us Q I r h
  · obtain ⟨u1, u2, rfl, r1, r2⟩ := vals2 r
    cases (show u1 = Value.ref a from r1)
    cases (show u2 = Value.type c.name from r2)
    obtain ⟨D, oe, hv, J⟩ := exc_inst I ha
    exact PySem.W.kia_one (PySem.W.handS_kitx_exc hv.ex.hg hv.ex.hk hv.ex.hs hv.ex.hd hv.ex.ha hv.ex.hn hv.ex.ht hv.ex.hm) I.kIn J (excKit hv c hc) (fun z => nomatch z) fun tk => ⟨.bl _, H, I.kept (t' := tk) fun _ _ z => z, rfl, q⟩
theorem call_isTV {X : Cx} : CallR X (.builtin "isinstance") (fun xs H Q => rIsiT X.K xs H Q ∨ rIsiTV X.K xs H Q) := by
  intro pins s σ H xs us Q I r h
  rcases h with h | ⟨a, tp, cs, hc, rfl, hT, ha, q⟩
  · exact call_isiT pins s σ H xs us Q I r h
  · obtain ⟨u1, u2, rfl, r1, r2⟩ := vals2 r
    cases (show u1 = Value.ref a from r1)
    cases (show u2 = Value.ref tp from r2)
    obtain ⟨D, oe, hv, J⟩ := exc_inst I ha
    obtain ⟨_, its, rv, o, h1, h2, n, h3⟩ := (show ObjOk X.prog X.w H s.heap tp (.tup (cs.map fun c => V.ty c.name)) from I.hok tp _ hT)
    have e3 := ClsV.all (paired_ty cs) rv
    subst e3
    obtain ⟨oc, od, dt, sl⟩ := o
    simp only at h2 h3
    subst h2 h3
    exact PySem.W.kia_tup (PySem.W.handS_kitx_exc hv.ex.hg hv.ex.hk hv.ex.hs hv.ex.hd hv.ex.ha hv.ex.hn hv.ex.ht hv.ex.hm) I.kIn J h1 (excKitAny hv cs hc) (fun z => nomatch z) fun tk => ⟨.bl _, H, I.tok tk, rfl, q⟩
theorem exc_of {τ : T} (e : tyT τ = some .exc) : ∃ n vs, τ = .pin (.exc n) vs := by
  unfold tyT at e
  split at e <;> first | cases e; done | exact ⟨_, _, rfl⟩ | (cases e)
def tyQ (τ : T) (P : Ty → Prop) : Prop := match tyT τ with
  | some ty => P ty
  | none => False
theorem tyQ_of {τ : T} {P : Ty → Prop} (q : tyQ τ P) : ∃ ty, tyT τ = some ty ∧ P ty := by
  unfold tyQ at q
  split at q
  · rename_i ty h
    exact ⟨ty, h, q⟩
  · exact q.elim
theorem tyQ_mono {τ : T} {P P' : Ty → Prop} (h : ∀ t, P t → P' t) (q : tyQ τ P) : tyQ τ P' := by
  unfold tyQ at q ⊢
  split at q
  · rename_i ty e
    exact h _ q
  · exact q.elim
section
variable {X : Cx} {W : WX} {m : Nat → Bool} {tg e a b c : Expr} {es : List Expr} {te ta tb tc : DTE} {t : DTA} {bs : List (Option Nat)} {pos p tpos : Pos} {x : Str}
theorem d_ty {n : String} (hg : Gl X x) (hm : X.mg x = none) (hv : bootBuiltins x = some (.type n)) (hn : x ≠ "__name__" := by decide) (hd : (x == ("__debug__" : Str)) = false := by decide) : DE X W (.Name x pos) (xC (.ty n)) := d_c (pe_bltn hg hm hv rfl hn hd)
def rnIsi (c : Ty) : RNT := fun τs Q => match τs with
  | [τ, .leaf (.ty n)] => n = c.name ∧ tyQ τ fun ty => Q (.leaf (.bl (ty.isa c)))
  | _ => False
theorem n_isi (c : Ty) (hc : c ≠ .non ∧ c ≠ .exc := by decide) : CallN X (.builtin "isinstance") (fun xs H Q => rIsi X.K xs H Q ∨ rIsiV X.K xs H Q) (rnIsi c) := by
  refine ⟨call_isV, fun B lim σ H g Φ vs τs Q hl r q => ?_, fun τs Q Q' h q => ?_⟩
  · unfold rnIsi at q
    split at q
    · rename_i τ n
      obtain ⟨rfl, q⟩ := q
      obtain ⟨ty, ht, q⟩ := tyQ_of q
      match vs, hl with
      | [v, w], _ =>
        have r2 : RepG X.K B lim σ H g ((v, τ) :: (w, .leaf (.ty c.name)) :: Φ) := r
        obtain rfl := r2.dropT.leaf
        by_cases hx : ty = .exc
        · subst hx
          obtain ⟨k, us, rfl⟩ := exc_of ht
          obtain ⟨a, rfl, ha⟩ := r2.excAt
          exact .inr ⟨a, c, hc, rfl, ha, q _ _ r2.dropT.dropT.addLeaf⟩
        · exact .inl ⟨v, _, _, _, _, rfl, .ty _, r2.tyx ht hx, kit_ty (isa_ok ty c hc hx), q _ _ r2.dropT.dropT.addLeaf⟩
    · exact q.elim
  · unfold rnIsi at q
    split at q
    · exact ⟨q.1, tyQ_mono (fun _ z => h _ z) q.2⟩
    · exact q.elim
def rnIsiT (cs : List Ty) : RNT := fun τs Q => match τs with
  | [τ, .node true .tup ts] => ts = cs.map (fun c => .leaf (.ty c.name)) ∧ tyQ τ fun ty => Q (.leaf (.bl (cs.any ty.isa)))
  | _ => False
theorem kitAny_ok {K : PySem.W.Frag} (ty : Ty) (hx : ty ≠ .exc) : ∀ cs : List Ty, (∀ c ∈ cs, c ≠ .non ∧ c ≠ .exc) → PySem.W.kitAny K (.type ty.name) (cs.map fun c => .type c.name) = some (cs.any ty.isa)
  | [], _ => kitAny_nil
  | c :: cs, h => by
    have ih := kitAny_ok (K := K) ty hx cs fun d hd => h d (List.mem_cons_of_mem _ hd)
    refine kitAny_cons (kit_ty (isa_ok ty c (h c List.mem_cons_self) hx)) (fun e => ?_) (fun e => ?_)
    · rw [ih, List.any_cons, e, Bool.false_or]
    · rw [List.any_cons, e, Bool.true_or]
theorem n_isiT (cs : List Ty) (hc : ∀ c ∈ cs, c ≠ .non ∧ c ≠ .exc := by decide) : CallN X (.builtin "isinstance") (fun xs H Q => rIsiT X.K xs H Q ∨ rIsiTV X.K xs H Q) (rnIsiT cs) := by
  refine ⟨call_isTV, fun B lim σ H g Φ vs τs Q hl r q => ?_, fun τs Q Q' h q => ?_⟩
  · unfold rnIsiT at q
    split at q
    · rename_i τ ts
      obtain ⟨rfl, q⟩ := q
      obtain ⟨ty, ht, q⟩ := tyQ_of q
      match vs, hl with
      | [v, w], _ =>
        have r2 : RepG X.K B lim σ H g ((v, τ) :: (w, .node true .tup (cs.map fun c => .leaf (.ty c.name))) :: Φ) := r
        have r3 : RepG X.K B lim σ H g ((w, .node true .tup ((cs.map fun c => V.ty c.name).map T.leaf)) :: Φ) := by
          rw [List.map_map]
          exact r2.dropT
        obtain ⟨ad, us, rfl, hl', ha, r4⟩ := r3.open_
        have e : us = cs.map fun c => V.ty c.name := RepG.leaves hl' r4
        subst e
        by_cases hx : ty = .exc
        · subst hx
          obtain ⟨k, us, rfl⟩ := exc_of ht
          obtain ⟨a, rfl, hb⟩ := r2.excAt
          exact .inr ⟨a, ad, cs, hc, rfl, ha, hb, q _ _ r2.dropT.dropT.addLeaf⟩
        · exact .inl ⟨v, ad, _, _, _, _, rfl, ha, paired_ty cs, r2.tyx ht hx, kitAny_ok ty hx cs hc, q _ _ r2.dropT.dropT.addLeaf⟩
    · exact q.elim
  · unfold rnIsiT at q
    split at q
    · exact ⟨q.1, tyQ_mono (fun _ z => h _ z) q.2⟩
    · exact q.elim
def rnDivmod : RNT := fun τs Q => match τs with
  | [.leaf (.int i), .leaf (.int j)] => CDivP i j ∧ Q (.node true .tup [.leaf (.int (i / j)), .leaf (.int (i % j))])
  | _ => False
theorem n_divmod : CallN X (.builtin "divmod") (fun xs H Q => ∃ i j, xs = [.int i, .int j] ∧ CDivP i j ∧ ∀ p, H p = none → Q (.ref p) (upd H p (.tup [.int (i / j), .int (i % j)]))) rnDivmod := by
  refine ⟨call_divmodW, fun B lim σ H g Φ vs τs Q hl r q => ?_, fun τs Q Q' h q => ?_⟩
  · unfold rnDivmod at q
    split at q
    · obtain ⟨rfl, r'⟩ := two_leaf hl r
      exact ⟨_, _, rfl, q.1, fun p hp => q.2 _ _ (make_pair r'.addLeaf.addLeaf hp)⟩
    · exact q.elim
  · unfold rnDivmod at q
    split at q
    · exact ⟨q.1, h _ q.2⟩
    · exact q.elim
def rnTuple : RNT := fun τs Q => match τs with
  | [.node _ .lst ts] => Q (.node true .tup (frzL ts))
  | [.node _ .tup ts] => Q (.node false .tup (frzL ts))
  | _ => False
theorem parts_only {K : PySem.W.Frag} {B : Bs} {lim : List Addr} {σ : St} {H : Hp} {g : Ev} {Φ : Its} {v : V} {o : Bool} {s : Sh} {ts : List T} (r : RepG K B lim σ H g ((v, .node o s ts) :: Φ)) :
    ∃ a vs, v = .ref a ∧ vs.length = (frzL ts).length ∧ (Rd H a (s.mk a vs) ∨ Konst K a vs s) ∧ RepG K B lim σ H g (vs.zip (frzL ts) ++ Φ) := by
  obtain ⟨a, vs, e, hl, hr, r2⟩ := r.parts
  refine ⟨a, vs, e, by rw [hl, frzL_length], hr, ?_⟩
  exact ((r2.perm (List.perm_append_comm (l₁ := vs.zip (frzL ts)) (l₂ := (v, T.node false s (frzL ts)) :: Φ))).dropT.perm List.perm_append_comm)
theorem n_tuple : CallN X (.type "tuple") (fun xs H Q => ∃ p ys, xs = [.ref p] ∧ ((SqL X.K H p ys ∧ ∀ l, H l = none → Q (.ref l) (upd H l (.tup ys))) ∨ (SqT X.K H p ys ∧ Q (.ref p) H))) rnTuple := by
  refine ⟨call_tuple_of, fun B lim σ H g Φ vs τs Q hl r q => ?_, fun τs Q Q' h q => ?_⟩
  · unfold rnTuple at q
    split at q
    · rename_i o ts
      match vs, hl with
      | [v], _ =>
        have r2 : RepG X.K B lim σ H g ((v, .node o .lst ts) :: Φ) := r
        obtain ⟨a, us, rfl, hl', hr, r3⟩ := parts_only r2
        exact ⟨a, us, rfl, .inl ⟨seqL hr, fun l hn => q _ _ (make_of .tup hl' r3 hn)⟩⟩
    · rename_i o ts
      match vs, hl with
      | [v], _ =>
        have r2 : RepG X.K B lim σ H g ((v, .node o .tup ts) :: Φ) := r
        obtain ⟨a, us, rfl, hl', hr, r3⟩ := r2.parts
        have r4 := r2.freezeT
        rw [frz_node] at r4
        exact ⟨a, us, rfl, .inr ⟨seqT hr, q _ _ r4⟩⟩
    · exact q.elim
  · unfold rnTuple at q
    split at q
    · exact h _ q
    · exact h _ q
    · exact q.elim
def rnList : RNT := fun τs Q => match τs with
  | [.node _ .lst ts] => Q (.node true .lst (frzL ts))
  | [.node _ .tup ts] => Q (.node true .lst (frzL ts))
  | _ => False
theorem n_list : CallN X (.type "list") (fun xs H Q => ∃ p ys, xs = [.ref p] ∧ (SqL X.K H p ys ∨ SqT X.K H p ys) ∧ ∀ l, H l = none → Q (.ref l) (upd H l (.lst ys))) rnList := by
  refine ⟨call_list_of, fun B lim σ H g Φ vs τs Q hl r q => ?_, fun τs Q Q' h q => ?_⟩
  · unfold rnList at q
    split at q
    · rename_i o ts
      match vs, hl with
      | [v], _ =>
        have r2 : RepG X.K B lim σ H g ((v, .node o .lst ts) :: Φ) := r
        obtain ⟨a, us, rfl, hl', hr, r3⟩ := parts_only r2
        exact ⟨a, us, rfl, .inl (seqL hr), fun l hn => q _ _ (make_of .lst hl' r3 hn)⟩
    · rename_i o ts
      match vs, hl with
      | [v], _ =>
        have r2 : RepG X.K B lim σ H g ((v, .node o .tup ts) :: Φ) := r
        obtain ⟨a, us, rfl, hl', hr, r3⟩ := parts_only r2
        exact ⟨a, us, rfl, .inr (seqT hr), fun l hn => q _ _ (make_of .lst hl' r3 hn)⟩
    · exact q.elim
  · unfold rnList at q
    split at q
    · exact h _ q
    · exact h _ q
    · exact q.elim
theorem one_flats {K : PySem.W.Frag} {B : Bs} {lim : List Addr} {σ : St} {H : Hp} {g : Ev} {Φ : Its} {vs : List V} {o : Bool} {ws : List V} (hl : vs.length = [T.node o .lst (ws.map T.leaf)].length) (r : RepG K B lim σ H g (vs.zip [T.node o .lst (ws.map T.leaf)] ++ Φ)) :
    ∃ a, vs = [.ref a] ∧ SqL K H a ws ∧ RepG K B lim σ H g Φ := by
  match vs, hl with
  | [v], _ =>
    have r2 : RepG K B lim σ H g ((v, .node o .lst (ws.map T.leaf)) :: Φ) := r
    obtain ⟨a, rfl, hr⟩ := r2.flats
    exact ⟨a, rfl, seqL hr, r2.dropT⟩
def rnMaxL : RNT := fun τs Q => match τs with
  | [.node _ .lst ts] => ∃ ns : List Int, ts = intsT ns ∧ 0 < ns.length ∧ ∀ k, k ∈ ns → (∀ y, y ∈ ns → y ≤ k) → Q (.leaf (.int k))
  | _ => False
def rnMinL : RNT := fun τs Q => match τs with
  | [.node _ .lst ts] => ∃ ns : List Int, ts = intsT ns ∧ 0 < ns.length ∧ ∀ k, k ∈ ns → (∀ y, y ∈ ns → k ≤ y) → Q (.leaf (.int k))
  | _ => False
theorem n_maxL (hc : X.calm = true) : CallN X (.builtin "max") (rMax X.K) rnMaxL := by
  refine ⟨cr_max hc, fun B lim σ H g Φ vs τs Q hl r q => ?_, fun τs Q Q' h q => ?_⟩
  · unfold rnMaxL at q
    split at q
    · obtain ⟨ns, rfl, h0, q⟩ := q
      rename_i o _
      simp only [intsT_eq] at hl r
      obtain ⟨a, rfl, hs, r'⟩ := one_flats hl r
      exact ⟨a, ns, rfl, hs, h0, fun k h1 h2 => q k h1 h2 _ _ r'.addLeaf⟩
    · exact q.elim
  · unfold rnMaxL at q
    split at q
    · obtain ⟨ns, e, h0, q⟩ := q
      exact ⟨ns, e, h0, fun k h1 h2 => h _ (q k h1 h2)⟩
    · exact q.elim
theorem n_minL (hc : X.calm = true) : CallN X (.builtin "min") (rMin X.K) rnMinL := by
  refine ⟨cr_min hc, fun B lim σ H g Φ vs τs Q hl r q => ?_, fun τs Q Q' h q => ?_⟩
  · unfold rnMinL at q
    split at q
    · obtain ⟨ns, rfl, h0, q⟩ := q
      simp only [intsT_eq] at hl r
      obtain ⟨a, rfl, hs, r'⟩ := one_flats hl r
      exact ⟨a, ns, rfl, hs, h0, fun k h1 h2 => q k h1 h2 _ _ r'.addLeaf⟩
    · exact q.elim
  · unfold rnMinL at q
    split at q
    · obtain ⟨ns, e, h0, q⟩ := q
      exact ⟨ns, e, h0, fun k h1 h2 => h _ (q k h1 h2)⟩
    · exact q.elim
abbrev boolsT (ns : List Bool) : List T := ns.map fun i => .leaf (.bl i)
theorem boolsT_eq (ns : List Bool) : boolsT ns = (ns.map V.bl).map T.leaf := by rw [List.map_map]; rfl
def rnAll : RNT := fun τs Q => match τs with
  | [.node _ .lst ts] => ∃ ns : List Bool, ts = boolsT ns ∧ Q (.leaf (.bl (ns.all id)))
  | _ => False
def rnAny : RNT := fun τs Q => match τs with
  | [.node _ .lst ts] => ∃ ns : List Bool, ts = boolsT ns ∧ Q (.leaf (.bl (ns.any id)))
  | _ => False
theorem n_all (hc : X.calm = true) : CallN X (.builtin "all") (rAll X.K) rnAll := by
  refine ⟨cr_all hc, fun B lim σ H g Φ vs τs Q hl r q => ?_, fun τs Q Q' h q => ?_⟩
  · unfold rnAll at q
    split at q
    · obtain ⟨ns, rfl, q⟩ := q
      simp only [boolsT_eq] at hl r
      obtain ⟨a, rfl, hs, r'⟩ := one_flats hl r
      exact ⟨a, ns, rfl, hs, q _ _ r'.addLeaf⟩
    · exact q.elim
  · unfold rnAll at q
    split at q
    · obtain ⟨ns, e, q⟩ := q
      exact ⟨ns, e, h _ q⟩
    · exact q.elim
theorem n_any (hc : X.calm = true) : CallN X (.builtin "any") (rAny X.K) rnAny := by
  refine ⟨cr_any hc, fun B lim σ H g Φ vs τs Q hl r q => ?_, fun τs Q Q' h q => ?_⟩
  · unfold rnAny at q
    split at q
    · obtain ⟨ns, rfl, q⟩ := q
      simp only [boolsT_eq] at hl r
      obtain ⟨a, rfl, hs, r'⟩ := one_flats hl r
      exact ⟨a, ns, rfl, hs, q _ _ r'.addLeaf⟩
    · exact q.elim
  · unfold rnAny at q
    split at q
    · obtain ⟨ns, e, q⟩ := q
      exact ⟨ns, e, h _ q⟩
    · exact q.elim
def rnInt2 : RNT := fun τs Q => match τs with
  | [.leaf (.int i)] => Q (.leaf (.int i))
  | [.leaf (.bl k)] => Q (.leaf (.int (if k then 1 else 0)))
  | [.leaf (.str a)] => ∃ n, PySem.intText? a = some n ∧ a.length ≤ 640 ∧ Q (.leaf (.int n))
  | _ => False
theorem n_int2 : CallN X (.type "int") (fun xs H Q => ((∃ i, xs = [.int i] ∧ Q (.int i) H) ∨ ∃ k, xs = [.bl k] ∧ Q (.int (if k then 1 else 0)) H) ∨ ∃ a n, xs = [.str a] ∧ PySem.intText? a = some n ∧ a.length ≤ 640 ∧ Q (.int n) H) rnInt2 := by
  refine ⟨call_int1.or call_int_str, fun B lim σ H g Φ vs τs Q hl r q => ?_, fun τs Q Q' h q => ?_⟩
  · unfold rnInt2 at q
    split at q
    · obtain ⟨rfl, r'⟩ := one_leaf hl r
      exact .inl (.inl ⟨_, rfl, q _ _ r'.addLeaf⟩)
    · obtain ⟨rfl, r'⟩ := one_leaf hl r
      exact .inl (.inr ⟨_, rfl, q _ _ r'.addLeaf⟩)
    · obtain ⟨rfl, r'⟩ := one_leaf hl r
      obtain ⟨n, h1, h2, q⟩ := q
      exact .inr ⟨_, n, rfl, h1, h2, q _ _ r'.addLeaf⟩
    · exact q.elim
  · unfold rnInt2 at q
    split at q
    · exact h _ q
    · exact h _ q
    · obtain ⟨n, h1, h2, q⟩ := q
      exact ⟨n, h1, h2, h _ q⟩
    · exact q.elim
def truT : T → (Bool → Prop) → Prop
  | .leaf .non, P => P false
  | .leaf (.bl b), P => P b
  | .leaf (.int i), P => P (i != 0)
  | .leaf (.str y), P => y.length ≤ sizeLine ∧ P ((y.length : Int) != 0)
  | .node _ .lst ts, P => P (!ts.isEmpty)
  | .node _ .tup ts, P => P (!ts.isEmpty)
  | _, _ => False
theorem truT_mono {τ : T} {P P' : Bool → Prop} (h : ∀ b, P b → P' b) (q : truT τ P) : truT τ P' := by
  unfold truT at q
  split at q
  · exact h _ q
  · exact h _ q
  · exact h _ q
  · exact ⟨q.1, h _ q.2⟩
  · exact h _ q
  · exact h _ q
  · exact q.elim
theorem isEmpty_len {α β : Type} {xs : List α} {ys : List β} (h : xs.length = ys.length) : xs.isEmpty = ys.isEmpty := by
  cases xs <;> cases ys <;> first | rfl | simp at h
def xTru (te : DTE) : DTT := fun g Q E => te g (fun τ g1 => truT τ fun b => Q b g1) E
theorem dt_truth (ha : DE X W a ta) (he : ∀ whole, isTrue a X.env whole = (do let v ← whole; standAt a.pos; holding [v] (truthy v)) := by intro _; rfl) : DT X W a (xTru ta) := by
  refine ⟨fun B => PT.imp (pt_truth (ha.run B) he) fun σ H Q ⟨Φ, lim, g, E, r, hx, q⟩ => ?_, fun g Q Q' E E' hq hE q => ha.mono _ _ _ _ _ (fun τ g1 q1 => truT_mono (fun b z => hq _ _ z) q1) hE q⟩
  refine ⟨Φ, lim, g, E, r, hx, ha.mono _ _ _ _ _ (fun τ g1 q1 v H1 r1 => ?_) (fun _ _ _ z => z) q⟩
  unfold truT at q1
  split at q1
  · obtain rfl := r1.leaf
    exact ⟨false, rfl, q1 _ r1.dropT⟩
  · obtain rfl := r1.leaf
    exact ⟨_, rfl, q1 _ r1.dropT⟩
  · obtain rfl := r1.leaf
    exact ⟨_, rfl, q1 _ r1.dropT⟩
  · obtain rfl := r1.leaf
    exact ⟨_, ⟨q1.1, rfl⟩, q1.2 _ r1.dropT⟩
  · rename_i o ts
    obtain ⟨ad, us, rfl, hl, hr⟩ := r1.node
    exact ⟨_, .inl ⟨us, seqL hr, rfl⟩, by rw [isEmpty_len hl]; exact q1 _ r1.dropT⟩
  · rename_i o ts
    obtain ⟨ad, us, rfl, hl, hr⟩ := r1.node
    exact ⟨_, .inr (.inl ⟨us, seqT hr, rfl⟩), by rw [isEmpty_len hl]; exact q1 _ r1.dropT⟩
  · exact q1.elim
def rtAdd : R2T := fun τ1 τ2 Q => match τ1, τ2 with
  | .node _ .lst ts, .node _ .lst us => ts.length + us.length ≤ sizeLine ∧ Q (.node true .lst (frzL ts ++ frzL us))
  | .leaf (.int i), .leaf (.int j) => Q (.leaf (.int (i + j)))
  | .leaf (.str i), .leaf (.str j) => i.length + j.length ≤ sizeLine ∧ Q (.leaf (.str (i ++ j)))
  | .node _ .tup ts, .node _ .tup us => ts.length + us.length ≤ sizeLine ∧ Q (.node false .tup (frzL ts ++ frzL us))
  | _, _ => False
theorem rtAdd_mono : ∀ τ1 τ2 Q Q', (∀ τ, Q τ → Q' τ) → rtAdd τ1 τ2 Q → rtAdd τ1 τ2 Q' := by
  intro τ1 τ2 Q Q' hq q
  unfold rtAdd at q
  split at q
  · exact ⟨q.1, hq _ q.2⟩
  · exact hq _ q
  · exact ⟨q.1, hq _ q.2⟩
  · exact ⟨q.1, hq _ q.2⟩
  · exact q.elim
def rCatSs : R2 := fun x y H Q => ∃ i j, x = .str i ∧ y = .str j ∧ i.length + j.length ≤ sizeLine ∧ Q (.str (i ++ j)) H
def rAdd4 (K : PySem.W.Frag) : R2 := fun x y H Q => (rCat x y H Q ∨ rI0 (fun i j => .int (i + j)) x y H Q) ∨ (rCatSs x y H Q ∨ rCatA K x y H Q)
theorem op_add4 : OpR X (binaryOp .Add) (rAdd4 X.K) := fun pins s σ H x y v u Q I rx ry h => by
  rcases h with (h | h) | (h | h)
  · exact op_cat pins s σ H x y v u Q I rx ry h
  · exact op_add pins s σ H x y v u Q I rx ry h
  · exact op_add_str pins s σ H x y v u Q I rx ry h
  · exact op_catA pins s σ H x y v u Q I rx ry h
theorem op2_add4 {K : PySem.W.Frag} : Op2 K (rAdd4 K) rtAdd := by
  refine ⟨fun B lim σ H g Φ v1 v2 τ1 τ2 Q r q => ?_, rtAdd_mono⟩
  unfold rtAdd at q
  split at q
  · rename_i o ts o' us
    exact .inl (op2_cat.1 B lim σ H g Φ v1 v2 (.node o .lst ts) (.node o' .lst us) Q r q)
  · obtain rfl := r.leaf
    obtain rfl := r.dropT.leaf
    exact .inl (.inr ⟨_, _, rfl, rfl, q _ _ r.dropT.dropT.addLeaf⟩)
  · obtain rfl := r.leaf
    obtain rfl := r.dropT.leaf
    exact .inr (.inl ⟨_, _, rfl, rfl, q.1, q.2 _ _ r.dropT.dropT.addLeaf⟩)
  · rename_i o ts o' us
    have r0 := r.freezeT
    rw [frz_node] at r0
    have r1 := (r0.perm (List.Perm.swap _ _ _)).freezeT
    rw [frz_node] at r1
    obtain ⟨a1, vs1, rfl, hl1, hr1, r2⟩ := r1.kids
    have r3 := r2.perm (Ψ := (v2, .node false .tup (frzL us)) :: (vs1.zip (frzL ts) ++ (V.ref a1, T.node false .tup (frzL ts)) :: Φ)) (by
      have e := List.perm_middle (a := (v2, T.node false .tup (frzL us))) (l₁ := vs1.zip (frzL ts) ++ [(V.ref a1, T.node false .tup (frzL ts))]) (l₂ := Φ)
      simpa using e)
    obtain ⟨a2, vs2, rfl, hl2, hr2, r4⟩ := r3.kids
    refine .inr (.inr ⟨a1, a2, vs1, vs2, rfl, rfl, seqT hr1, seqT hr2, by rw [hl1, hl2, frzL_length, frzL_length]; exact q.1, fun e => ?_, fun e1 e2 => ?_, fun _ _ p hp => ?_⟩)
    · subst e
      have : frzL ts = [] := List.eq_nil_of_length_eq_zero (by rw [← hl1]; rfl)
      rw [this, List.nil_append] at q
      refine q.2 _ _ ?_
      exact (r1.perm (List.Perm.swap _ _ _)).perm (List.Perm.swap _ _ _) |>.dropT
    · subst e2
      have : frzL us = [] := List.eq_nil_of_length_eq_zero (by rw [← hl2]; rfl)
      rw [this, List.append_nil] at q
      refine q.2 _ _ ?_
      exact (r1.perm (List.Perm.swap _ _ _)).dropT
    · have r5 : RepG K B lim σ H g ((vs1 ++ vs2).zip (frzL ts ++ frzL us) ++ Φ) := by
        rw [zip_app hl1]
        have r6 := r4.perm (Ψ := (V.ref a2, T.node false .tup (frzL us)) :: (V.ref a1, T.node false .tup (frzL ts)) :: (vs1.zip (frzL ts) ++ vs2.zip (frzL us) ++ Φ)) (by
          refine (List.perm_middle).trans (List.Perm.cons _ ?_)
          have e1 : (vs2.zip (frzL us) ++ (vs1.zip (frzL ts) ++ (V.ref a1, T.node false .tup (frzL ts)) :: Φ)).Perm ((V.ref a1, T.node false .tup (frzL ts)) :: (vs2.zip (frzL us) ++ (vs1.zip (frzL ts) ++ Φ))) := by
            rw [← List.append_assoc, ← List.append_assoc]
            exact List.perm_middle
          refine e1.trans (List.Perm.cons _ ?_)
          rw [← List.append_assoc]
          exact List.Perm.append_right _ List.perm_append_comm)
        exact r6.dropT.dropT
      have hl : (vs1 ++ vs2).length = (frzL ts ++ frzL us).length := by rw [List.length_append, List.length_append, hl1, hl2]
      have r7 := (make_of .tup hl r5 hp).freezeT
      rw [frz_node] at r7
      have e : frzL (frzL ts ++ frzL us) = frzL ts ++ frzL us := by
        rw [frzL_map, List.map_append, ← frzL_map, ← frzL_map, frzL_frzL, frzL_frzL]
      rw [e] at r7
      exact q.2 _ _ r7
  · exact q.elim
theorem d_add4 (ha : DE X W a ta) (hb : DE X W b tb) : DE X W (.BinOp a .Add b pos) (xOp rtAdd ta tb) := d_op2 op_add4 op2_add4 ha hb
def repL (ts : List T) (n : Int) : List T := (List.replicate n.toNat ts).flatten
def rtMul : R2T := fun τ1 τ2 Q => match τ1, τ2 with
  | .leaf (.int i), .leaf (.int j) => CMulA i j ∧ Q (.leaf (.int (i * j)))
  | .leaf (.str z), .leaf (.int n) => (-(2 ^ 62) ≤ n ∧ n < 2 ^ 62 ∧ z.length * n.toNat ≤ sizeLine) ∧ Q (.leaf (.str (repS z n)))
  | .node _ .lst ts, .leaf (.int n) => (-(2 ^ 62) ≤ n ∧ n < 2 ^ 62 ∧ ts.length * n.toNat ≤ sizeLine) ∧ Q (.node true .lst (repL (frzL ts) n))
  | _, _ => False
theorem rtMul_mono : ∀ τ1 τ2 Q Q', (∀ τ, Q τ → Q' τ) → rtMul τ1 τ2 Q → rtMul τ1 τ2 Q' := by
  intro τ1 τ2 Q Q' hq q
  unfold rtMul at q
  split at q
  · exact ⟨q.1, hq _ q.2⟩
  · exact ⟨q.1, hq _ q.2⟩
  · exact ⟨q.1, hq _ q.2⟩
  · exact q.elim
def rMul3 : R2 := fun x y H Q => (rI CMulA (fun i j => .int (i * j)) x y H Q ∨ rRepS x y H Q) ∨ rRep x y H Q
theorem op_mul3 : OpR X (binaryOp .Mult) rMul3 := fun pins s σ H x y v u Q I rx ry h => by
  rcases h with (h | h) | h
  · exact op_mulA pins s σ H x y v u Q I rx ry h
  · exact op_repS pins s σ H x y v u Q I rx ry h
  · exact op_rep pins s σ H x y v u Q I rx ry h
theorem rep_times {K : PySem.W.Frag} {B : Bs} {lim : List Addr} {σ : St} {H : Hp} {g : Ev} {Φ : Its} {vs : List V} {ts : List T} (hl : vs.length = ts.length) (hf : frzL ts = ts) (r : RepG K B lim σ H g (vs.zip ts ++ Φ)) : ∀ n : Nat,
    (List.replicate n vs).flatten.length = (List.replicate n ts).flatten.length ∧ RepG K B lim σ H g ((List.replicate n vs).flatten.zip (List.replicate n ts).flatten ++ (vs.zip ts ++ Φ))
  | 0 => ⟨rfl, r⟩
  | n + 1 => by
    obtain ⟨e, r1⟩ := rep_times hl hf r n
    have dupAll : ∀ (ws : List V) (us : List T) {Ψ : Its}, (∀ u ∈ us, frz u = u) → RepG K B lim σ H g (ws.zip us ++ Ψ) → RepG K B lim σ H g (ws.zip us ++ (ws.zip us ++ Ψ)) := fun ws => by
      induction ws with
      | nil => intro us Ψ _ h; simpa using h
      | cons w ws ih =>
        intro us Ψ hu h
        cases us with
        | nil => simpa using h
        | cons u us =>
          have h1 : RepG K B lim σ H g ((w, u) :: (ws.zip us ++ Ψ)) := h
          have h2 := h1.dup (hu u List.mem_cons_self)
          have h3 : RepG K B lim σ H g (ws.zip us ++ ((w, u) :: (w, u) :: Ψ)) := h2.perm (by
            have e1 := List.perm_middle (a := (w, u)) (l₁ := ws.zip us) (l₂ := Ψ)
            have e2 := List.perm_middle (a := (w, u)) (l₁ := ws.zip us) (l₂ := (w, u) :: Ψ)
            exact (List.Perm.cons _ e1.symm).trans e2.symm)
          have h4 := ih us (fun u' hu' => hu u' (List.mem_cons_of_mem _ hu')) h3
          refine h4.perm ?_
          show (ws.zip us ++ (ws.zip us ++ ((w, u) :: (w, u) :: Ψ))).Perm ((w, u) :: (ws.zip us ++ ((w, u) :: (ws.zip us ++ Ψ))))
          have e2 : (ws.zip us ++ ((w, u) :: (w, u) :: Ψ)).Perm ((w, u) :: (w, u) :: (ws.zip us ++ Ψ)) := List.perm_middle.trans (List.Perm.cons _ List.perm_middle)
          refine (List.Perm.append_left _ e2).trans ?_
          refine List.perm_middle.trans (List.Perm.cons _ ?_)
          exact .refl _
    have fz : ∀ u ∈ ts, frz u = u := fun u hu => by
      obtain ⟨i, hi, rfl⟩ := List.mem_iff_getElem.mp hu
      have := congrArg (·[i]?) hf
      simp only [frzL_map, List.getElem?_map, List.getElem?_eq_getElem hi] at this
      exact Option.some.inj this
    have r2 : RepG K B lim σ H g (vs.zip ts ++ (vs.zip ts ++ ((List.replicate n vs).flatten.zip (List.replicate n ts).flatten ++ Φ))) := dupAll vs ts fz (r1.perm (by
      rw [← List.append_assoc, ← List.append_assoc]
      exact List.Perm.append_right _ List.perm_append_comm))
    refine ⟨by rw [List.replicate_succ, List.replicate_succ, List.flatten_cons, List.flatten_cons, List.length_append, List.length_append, hl, e], ?_⟩
    rw [List.replicate_succ, List.replicate_succ, List.flatten_cons, List.flatten_cons, zip_app hl, List.append_assoc]
    refine r2.perm (List.Perm.append_left _ ?_)
    rw [← List.append_assoc, ← List.append_assoc]
    exact List.Perm.append_right _ List.perm_append_comm
theorem op2_mul3 {K : PySem.W.Frag} : Op2 K rMul3 rtMul := by
  refine ⟨fun B lim σ H g Φ v1 v2 τ1 τ2 Q r q => ?_, rtMul_mono⟩
  unfold rtMul at q
  split at q
  · obtain rfl := r.leaf
    obtain rfl := r.dropT.leaf
    exact .inl (.inl ⟨_, _, rfl, rfl, q.1, q.2 _ _ r.dropT.dropT.addLeaf⟩)
  · obtain rfl := r.leaf
    obtain rfl := r.dropT.leaf
    exact .inl (.inr ⟨_, _, rfl, rfl, q.1.1, q.1.2.1, q.1.2.2, q.2 _ _ r.dropT.dropT.addLeaf⟩)
  · rename_i o ts n
    obtain rfl := r.leaf
    have r1 := r.dropT.freezeT
    rw [frz_node] at r1
    obtain ⟨a1, vs1, rfl, hl1, hr1, r2⟩ := r1.kidsH (by nofun)
    obtain ⟨e, r3⟩ := rep_times hl1 (frzL_frzL ts) r2 n.toNat
    refine .inr ⟨a1, n, vs1, rfl, rfl, hr1, by omega, by omega, by rw [hl1, frzL_length]; exact q.1.2.2, fun p hp => q.2 _ _ ?_⟩
    refine make_of .lst e ?_ hp
    have r4 := RepG.perm (Ψ := (vs1.zip (frzL ts) ++ [(V.ref a1, T.node false .lst (frzL ts))]) ++ ((List.replicate n.toNat vs1).flatten.zip (List.replicate n.toNat (frzL ts)).flatten ++ Φ)) r3 (by
      have e1 : ∀ (A B : Its) (c : V × T) (D : Its), (A ++ (B ++ c :: D)).Perm ((B ++ [c]) ++ (A ++ D)) := fun A B c D => by
        have h1 : A ++ (B ++ c :: D) = (A ++ (B ++ [c])) ++ D := by simp
        have h2 : (B ++ [c]) ++ (A ++ D) = ((B ++ [c]) ++ A) ++ D := by simp
        rw [h1, h2]
        exact List.Perm.append_right _ List.perm_append_comm
      exact e1 _ _ _ _)
    exact r4.dropTs
  · exact q.elim
theorem d_mul3 (ha : DE X W a ta) (hb : DE X W b tb) : DE X W (.BinOp a .Mult b pos) (xOp rtMul ta tb) := d_op2 op_mul3 op2_mul3 ha hb
def gSq (n : Nat) (u : DTGs) : DTG := fun τ g Q => match τ with
  | .node _ .tup ts => ts.length = n ∧ u (frzL ts) g Q
  | .node _ .lst ts => ts.length = n ∧ u (frzL ts) g Q
  | _ => False
theorem dg_seq {k n : Nat} {u : DTGs} (hc : X.calm = true) (h : DGs X m es u) (hn : (assignEach es X.env).length = n := by rfl) (hst : (assignEach es X.env).findIdx? (·.1) = none := by rfl) : DG X m (.Tuple es k pos) (gSq n u) := by
  refine ⟨fun B σ0 => ⟨fun pins s σ H v w Q I rv ⟨Φ, lim, g, τ, r, hk, q⟩ => ?_⟩, fun τ g Q Q' hq q => ?_⟩
  · unfold gSq at q
    split at q
    · rename_i o ts
      obtain ⟨a, vs, rfl, hl, hr, r'⟩ := r.parts
      exact (pg_tup hc (h.run B σ0) hn hst).run pins s σ H _ w Q I rv ⟨a, vs, rfl, seqT hr, by rw [hl]; exact q.1, _, lim, g, frzL ts, by rw [hl, frzL_length], r', hk, h.mono _ _ _ _ (fun g' q' σ' H' r2 hk' => q' σ' H' r2.dropT hk') q.2⟩
    · rename_i o ts
      obtain ⟨a, vs, rfl, hl, hr, r'⟩ := r.parts
      exact (pg_lst hc (h.run B σ0) hn hst).run pins s σ H _ w Q I rv ⟨a, vs, rfl, seqL hr, by rw [hl]; exact q.1, _, lim, g, frzL ts, by rw [hl, frzL_length], r', hk, h.mono _ _ _ _ (fun g' q' σ' H' r2 hk' => q' σ' H' r2.dropT hk') q.2⟩
    · exact q.elim
  · unfold gSq at q
    split at q
    · exact ⟨q.1, h.mono _ _ _ _ hq q.2⟩
    · exact ⟨q.1, h.mono _ _ _ _ hq q.2⟩
    · exact q.elim
end
end DL
set_option Elab.async false
set_option linter.all false
set_option maxRecDepth 100000
set_option maxHeartbeats 4000000
namespace DL
open PySem PySem.Spec PyProof.Rows L2
section
variable {P : Program} {w : World} {A : Around} {E : Value → Shared → Prop} {s : Shared}
set_option maxRecDepth 100000 in
set_option maxHeartbeats 3200000 in
theorem call_set_lstI {l : Addr} {items : Array Value} (ns : List Int) {Q : Value → Shared → Prop} (hh : A.handled = none) (hl : s.heap.IsList l items) (hit : IntsAre items.toList ns) (hb : ns.length + 1 < scanBound)
    (h : ∀ (h' : Heap) (tk c : Nat), SetR w h' s.heap.objs.size (fun j => decide (j ∈ ns)) c → c ≤ ns.length → (∀ b o, s.heap.get? b = some o → h'.get? b = some o) → Q (.ref s.heap.objs.size) { s with heap := h', toks := tk }) :
    wpAny (model P w) A (call (.type "set") [.ref l]) Q E s := by
  have hisz : items.size = ns.length := by
    have q := IntsAre.length hit
    rw [Array.length_toList] at q
    exact q
  obtain ⟨c, tl, hmro⟩ := F.called_set.mro
  have hmade := F.called_set.made
  have hsub := F.called_set.sub
  refine wpAny_call (codeAny_of_tree ?_)
  show wpAny _ _ (callAny (.type "set") _) _ _ _
  refine wpAny_pure ⟨Code.quiet_builtin _ (by decide +kernel), codeAny_builtin F.entry_type_call ?_⟩
  rw [Around.under_plain (weight_type_call_type "set" [.ref l] []) rfl]
  have h1 := F.called_set.notType
  have h2 := F.called_set.canCreate
  have hct := F.typeCall_set_1 (.ref l)
  repeat (any_goals (first | assumption | wp_step))
  refine codeAny_mono (code_set_led1 (.ref l) (E := E) (Q₁ := fun obj s₁ => obj = .ref s.heap.objs.size ∧ s₁ = { s with heap := s.heap.push { cls := .type "set", dict := none, data := .set #[] 0 (.fresh 0 0 (!w.params.followText "set-order")) } }) ⟨rfl, rfl⟩) fun r s₁ hr => ?_
  cases r with
  | error e => exact hr
  | ok fl =>
    cases fl with
    | ret obj =>
      obtain ⟨rfl, rfl⟩ := hr
      have hS : (s.heap.push { cls := .type "set", dict := none, data := .set #[] 0 (.fresh 0 0 (!w.params.followText "set-order")) }).get? s.heap.objs.size = some { cls := .type "set", dict := none, data := .set #[] 0 (.fresh 0 0 (!w.params.followText "set-order")) } := Heap.get?_push_size _ rfl
      have hT : Shared.TypeIs { s with heap := s.heap.push { cls := .type "set", dict := none, data := .set #[] 0 (.fresh 0 0 (!w.params.followText "set-order")) } } (.ref s.heap.objs.size) "set" := ⟨_, hS, rfl⟩
      have hli := F.called_set.init.lookup
      have hbi := F.called_set.init.bind (.ref s.heap.objs.size)
      repeat (any_goals (first | assumption | wp_step))
      refine codeAny_mono (codeAny_call_builtin (R := wants (fun r s₂ => r = .none ∧ ∃ h' tk c, s₂ = { s with heap := h', toks := tk } ∧ SetR w h' s.heap.objs.size (fun j => decide (j ∈ ns)) c ∧ c ≤ ns.length ∧
          (∀ b o, s.heap.get? b = some o → h'.get? b = some o)) E) F.called_set.init.plain F.entry_set_init (check_set_init_1 hT ?_)) fun r₂ s₂ hr₂ => ?_
      · obtain ⟨ol, hol, hcl, nl, hdl⟩ := hl
        obtain ⟨ocls, odict, odata, oslots⟩ := ol
        simp only at hcl hdl
        subst hcl; subst hdl
        have hol' : (s.heap.push { cls := .type "set", dict := none, data := .set #[] 0 (.fresh 0 0 (!w.params.followText "set-order")) }).get? l = some { cls := .type "list", dict := odict, data := .seq items nl, slots := oslots } := Heap.get?_push_of_some _ hol
        have hsls := F.sub_list_set
        have hslf := F.sub_list_frozenset
        have hne : (Value.type "list" == Value.type "dict") = false := by decide
        have hl1 : (s.heap.push { cls := .type "set", dict := none, data := .set #[] 0 (.fresh 0 0 (!w.params.followText "set-order")) }).IsList l items := ⟨_, hol', rfl, nl, rfl⟩
        unfold Builtin.«set.__init__» noKeywords Builtin.Frozenset.updateFrom
        generalize hPI : pyIter = PI
        wp_walk
        subst hPI
        refine wpAny_pyIter_list hl1 ?_
        refine wpAny_bind (wpAny_runValue ?_)
        have hlS : l < s.heap.objs.size := Heap.lt_size hol
        have hh3 : A.in1.in1.in1.handled = none := by simp [hh]
        have hz1 : (s.heap.push { cls := .type "set", dict := none, data := .set #[] 0 (.fresh 0 0 (!w.params.followText "set-order")) }).objs.size = s.heap.objs.size + 1 := Heap.size_push ..
        have hneI : l ≠ (s.heap.push { cls := .type "set", dict := none, data := .set #[] 0 (.fresh 0 0 (!w.params.followText "set-order")) }).objs.size := by
          rw [Heap.size_push]; exact Nat.ne_of_lt (Nat.lt_succ_of_lt hlS)
        have hSf : s.heap.objs.size ∉ [(s.heap.push { cls := .type "set", dict := none, data := .set #[] 0 (.fresh 0 0 (!w.params.followText "set-order")) }).objs.size, l] := by
          rw [Heap.size_push]; simp only [List.mem_cons, List.mem_singleton, List.not_mem_nil, or_false, not_or]
          exact ⟨Nat.ne_of_lt (Nat.lt_succ_self _), Nat.ne_of_gt hlS⟩
        have hval : ∀ (i : Nat) (v : Value), items[i]? = some v → ∃ k t, ns[i]? = some k ∧ v = .int k t := fun i v hv => by
          have hi : i < ns.length := by rw [← hisz]; exact (Array.getElem?_eq_some_iff.mp hv).1
          obtain ⟨t, e⟩ := PyProof.Rows.IntsAre.int_at hit i v (by rw [Array.getElem?_toList]; exact hv)
          refine ⟨ns[i], t, List.getElem?_eq_getElem hi, ?_⟩
          rw [e, List.getD_eq_getElem?_getD, List.getElem?_eq_getElem hi] <;> rfl
        refine set_update_ints ((Walks.list hh3 _ l hneI items).toS) s.heap.objs.size
          hSf ns hisz hb hval (items.size - 0) 0 _ (by omega) (Nat.zero_le _)
          ⟨⟨_, Heap.get?_push_size _ rfl, rfl, rfl⟩, (hl1.push _)⟩ ?hS0 ?hR
        case hS0 =>
          have hget : ((s.heap.push { cls := .type "set", dict := none, data := .set #[] 0 (.fresh 0 0 (!w.params.followText "set-order")) }).push { cls := .type "list_iterator", data := .fields #[.ref l, .int 0 0] }).get? s.heap.objs.size
              = some { cls := .type "set", dict := none, data := .set #[] 0 (.fresh 0 0 (!w.params.followText "set-order")) } := Heap.get?_push_of_some _ hS
          exact ⟨0, Nat.le_refl 0, setR_new_at hget⟩
        case hR =>
          intro s' c' hm hc' hS'
          obtain ⟨h', g2, d', tk', os'⟩ := s'
          have eg : g2 = s.gens := hm.gens
          have ed : d' = s.drawn := hm.drawn
          have eo : os' = s.os := hm.os
          subst eg; subst ed; subst eo
          show wpAny _ _ _ _ _ _
          refine wpAny_pure ?_
          show wpAny _ _ (ret Value.none) _ _ _
          rw [hisz] at hc'
          refine wpAny_pure ⟨rfl, h', tk', c', rfl, hS', hc', fun b o e => ?_⟩
          have hb0 : b < s.heap.objs.size := Heap.lt_size e
          have hb1 : b ≠ s.heap.objs.size := Nat.ne_of_lt hb0
          have hb2 : b ≠ (s.heap.push { cls := .type "set", dict := none, data := .set #[] 0 (.fresh 0 0 (!w.params.followText "set-order")) }).objs.size := by
            rw [Heap.size_push]; exact Nat.ne_of_lt (Nat.lt_succ_of_lt hb0)
          exact hm.heap b o (by simp only [List.mem_cons, List.mem_singleton, List.not_mem_nil, or_false, not_or]; exact ⟨hb1, hb2⟩) (Heap.get?_push_of_some _ (Heap.get?_push_of_some _ e))
      · cases r₂ with
        | error e => exact hr₂
        | ok fl₂ =>
          cases fl₂ with
          | ret r =>
            obtain ⟨rfl, h', tk, c', rfl, hS', hc', hk'⟩ := hr₂
            repeat (any_goals (first | assumption | wp_step))
            exact h _ _ _ hS' hc' hk'
          | _ => exact hr₂.elim
    | _ => exact hr.elim
end
end DL
set_option Elab.async false
set_option linter.all false
set_option maxRecDepth 100000
set_option maxHeartbeats 4000000
namespace DL
open PySem PySem.Spec PyProof.Rows L2
section
variable {X : Cx} {W : WX} {m : Nat → Bool} {a e : Expr} {ta : TE} {p p2 q pos : Pos}
def tSortSet (K : PySem.W.Frag) (ta : TE) : TE := fun σ H Q => ta σ H fun x H1 => ∃ (l : Addr) (ns : List Int), x = V.ref l ∧ SqL K H1 l (ns.map V.int) ∧ ns.length < 64 ∧
  ∀ (ns' : List Int) (p : Addr), ns'.Pairwise (· < ·) → (∀ k : Int, k ∈ ns' ↔ k ∈ ns) → H1 p = none → Q (.ref p) (upd H1 p (.lst (ns'.map V.int)))
theorem pe_sortSet (hg : Gl X "sorted") (hm : X.mg "sorted" = none) (hg2 : Gl X "set") (hm2 : X.mg "set" = none) (ha : PE X a ta) (hc : X.calm = true := by rfl)
    (na : starEach [a] X.env = (false, eval a X.env) :: starEach [] X.env := by rfl) : PE X (.Call (.Name "sorted" p) [.Call (.Name "set" p2) [a] [] q] [] pos) (tSortSet X.K ta) := by
  refine ⟨fun pins s σ H Q I h => ?_⟩
  refine Call_ (ld_blt I hg hm boot_sorted ?_)
  refine PyProof.Rows.callWith_builtin1 (PyProof.Rows.args_cons ?_ rfl) rfl rfl
  refine Call_ (ld_blt I hg2 hm2 boot_set ?_)
  refine PyProof.Rows.callWith_type1 (PyProof.Rows.args_cons (thn (ha.run pins s σ H _ I h) fun v s1 ⟨x, H1, I1, r1, q1⟩ => PyProof.Rows.args_nil ?_) na) na rfl
  obtain ⟨l, ns, rfl, hq, hl, q1⟩ := q1
  cases r1
  obtain ⟨its, r, pl, hz⟩ := I1.list hq
  have hlen : its.toArray.size = ns.length := by rw [List.size_toArray, ← r.length, List.length_map]
  refine call_set_lstI ns (I1.ok.hd hc) pl.isList (by simpa using RZ.intsAre_vals r) (by unfold scanBound; omega) fun h' tk c hS hc2 hk => ?_
  refine PyProof.Rows.args_nil ?_
  have I2 : Inv X pins σ H1 { s1 with heap := h', toks := tk } := I1.kept fun b o e => hk b o e
  obtain ⟨s2, es2⟩ : ∃ s2 : Shared, s2 = { s1 with heap := h', toks := tk } := ⟨_, rfl⟩
  have hS2 : SetR X.w s2.heap s1.heap.objs.size (fun j => decide (j ∈ ns)) c := by rw [es2]; exact hS
  rw [← es2] at I2 ⊢
  refine sorted_set hS2 (I2.ok.hd hc) (by omega) fun s' p out c ns' k g o hp hg hi hs hm hl => ?_
  have hlen : (ns'.map V.int).length ≤ sizeLine := by rw [List.length_map, hl, sizeLine_eq]; omega
  have hn : H1 p = none := I2.hok.fresh hp
  have J : Inv X pins σ (upd H1 p (.lst (ns'.map V.int))) { s2 with heap := s'.heap, gens := s'.gens, drawn := s'.drawn, toks := s'.toks } :=
    I2.call (ch := []) (Un.laid k hp hn) (I2.hok.laid k hp ⟨hlen, out.toList, c, vals_of_ints hi, hg⟩) (by rw [g]; exact I2.bare) (fun _ z => nomatch z)
  have e : s' = { s2 with heap := s'.heap, gens := s'.gens, drawn := s'.drawn, toks := s'.toks } := by
    cases s'
    cases s2
    cases o
    rfl
  rw [e]
  exact ⟨.ref p, _, J, rfl, q1 ns' p hs (fun k => by rw [hm]; simp) hn⟩
end
section
variable {X : Cx} {W : WX} {m : Nat → Bool} {a e : Expr} {ta : DTE} {p p2 q pos : Pos}
def xSortSet (ta : DTE) : DTE := fun g Q E => ta g (fun τ g1 => match τ with
  | .node _ .lst ts => ∃ ns : List Int, ts = intsT ns ∧ ns.length < 64 ∧ ∀ ns' : List Int, ns'.Pairwise (· < ·) → (∀ k : Int, k ∈ ns' ↔ k ∈ ns) → Q (.node true .lst (intsT ns')) g1
  | _ => False) E
theorem d_sortSet (hg : Gl X "sorted") (hm : X.mg "sorted" = none) (hg2 : Gl X "set") (hm2 : X.mg "set" = none) (ha : DE X W a ta) (hc : X.calm = true := by rfl)
    (na : starEach [a] X.env = (false, eval a X.env) :: starEach [] X.env := by rfl) : DE X W (.Call (.Name "sorted" p) [.Call (.Name "set" p2) [a] [] q] [] pos) (xSortSet ta) := by
  refine ⟨fun B => PE.imp (pe_sortSet hg hm hg2 hm2 (ha.run B) hc na) fun σ H Q ⟨Φ, lim, g, E, r, hx, q⟩ => ?_, fun g Q Q' E E' hq hE q => ha.mono _ _ _ _ _ (fun τ g1 q1 => ?_) hE q⟩
  · refine ⟨Φ, lim, g, E, r, hx, ha.mono _ _ _ _ _ (fun τ g1 q1 v H1 r1 => ?_) (fun _ _ _ z => z) q⟩
    split at q1
    · rename_i o ts
      obtain ⟨ns, rfl, hl, q1⟩ := q1
      have r2 : RepG X.K B lim σ H1 g1 ((v, .node o .lst ((ns.map V.int).map T.leaf)) :: Φ) := by
        rw [← intsT_eq]
        exact r1
      obtain ⟨ad, rfl, hr⟩ := r2.flats
      refine ⟨ad, ns, rfl, seqL hr, hl, fun ns' p h1 h2 hp => q1 ns' h1 h2 _ _ ?_⟩
      rw [intsT_eq]
      exact make_of .lst (by simp) (leavesR r2.dropT (ns'.map V.int)) hp
    · exact q1.elim
  · split at q1
    · obtain ⟨ns, e, hl, q1⟩ := q1
      exact ⟨ns, e, hl, fun ns' h1 h2 => hq _ _ (q1 ns' h1 h2)⟩
    · exact q1.elim
end
end DL
set_option Elab.async false
set_option linter.all false
set_option maxRecDepth 100000
set_option maxHeartbeats 4000000
namespace DL
open PySem L2 PyProof PyProof.Rows
section
variable {X : Cx} {W : WX} {m : Nat → Bool} {a b c e : Expr} {es : List Expr} {ta tb tc te : DTE} {pos p : Pos} {x : Str}
def sNever : DTS := fun _ _ => False
theorem ds_never {st : Stmt} : DS X W m st sNever := ⟨fun B σ0 => ⟨fun _ _ _ _ _ _ ⟨_, _, _, _, _, _, _, q⟩ => q.elim⟩, fun _ _ _ _ q => q.elim⟩
structure GK (K : PySem.W.Frag) (mg : Str → Option Value) (x : Str) (t : T) : Prop where
  out : ∃ (u : Value) (v : V), mg x = some u ∧ RelV v u ∧ ∀ (F : Addr → Prop) (H : Hp), OwnP K F H v t []
theorem GK.leaf {K : PySem.W.Frag} {mg : Str → Option Value} {u : Value} (v : V) (g : mg x = some u) (r : RelV v u) : GK K mg x (.leaf v) := ⟨⟨u, v, g, r, fun _ _ => .leaf _⟩⟩
theorem GK.tup {K : PySem.W.Frag} {mg : Str → Option Value} {c : Addr} {vs : List V} {ts : List T} (g : mg x = some (.ref c)) (k : Konst K c vs .tup) (hz : KzOk vs) (h : ∀ (F : Addr → Prop) (H : Hp), OwnL K F H vs ts []) : GK K mg x (.node false .tup ts) := ⟨⟨.ref c, .ref c, g, rfl, fun F H => .kz k hz (h F H)⟩⟩
theorem konst_tup {K : PySem.W.Frag} {c : Addr} {vs : List V} {od : Option Addr} {its : Array Value} {n : Nat} {sl : Array (Option Value)} (h : K.lookup c = some ⟨.type "tuple", od, .seq its n, sl⟩) (hs : its.size ≤ sizeLine) (hv : Vals vs its.toList) : Konst K c vs .tup := ⟨_, its, n, h, rfl, rfl, hs, hv⟩
def xG (t : T) : DTE := fun g Q _ => Q t g
theorem d_glob {t : T} (hg : Gl X x) (k : GK X.K X.mg x t) (hd : (x == ("__debug__" : Str)) = false := by decide) : DE X W (.Name x pos) (xG t) := by
  obtain ⟨u, v, hm, hr, ho⟩ := k.out
  refine ⟨fun B => PE.imp (pe_glob hg hm hr hd) fun σ H Q ⟨Φ, lim, g, E, r, hx, q⟩ => ?_, fun g Q Q' E E' hq he q => hq _ _ q⟩
  refine q v H ?_
  obtain ⟨F, zs, fp, en, o, f, hl⟩ := r
  have o' : OwnZ X.K F H ((v, t) :: (zs ++ Φ)) ([] ++ fp) := OwnZ.cons (ho F H) o
  exact rep_items (ds := []) en o' f hl List.perm_middle.symm
def CDivS (_ j : Int) : Prop := j ≠ 0 ∧ j.natAbs.log2 < 9000
theorem op_fdivS : OpR X (binaryOp .FloorDiv) (rI CDivS fun i j => .int (i.fdiv j)) := opI fun i j _ _ _ _ _ hc q => floordiv_int hc.1 q (.inl (PyProof.noPylong_of_log2 hc.2))
abbrev oDivS : R2T := rtI CDivS fun i j => .int (i.fdiv j)
theorem d_divS (ha : DE X W a ta) (hb : DE X W b tb) : DE X W (.BinOp a .FloorDiv b pos) (xOp oDivS ta tb) := d_op2 op_fdivS (op2_I fun _ _ z => z) ha hb
end
end DL
set_option Elab.async false
set_option linter.all false
set_option maxRecDepth 100000
set_option maxHeartbeats 4000000
namespace DL
open PySem L2 PySem.NumText
abbrev pairT (i j : Int) : List T := [.leaf (.int i), .leaf (.int j)]
theorem eq_pair {neg : Bool} {o p : Bool} {i j k l : Int} {Q : T → Prop} (q : Q (.leaf (.bl (if neg then !decide (i = k ∧ j = l) else decide (i = k ∧ j = l))))) : rtEq neg (.node o .tup (pairT i j)) (.node p .tup (pairT k l)) Q := by
  refine ⟨.tuple [.int i, .int j], .tuple [.int k, .int l], rfl, rfl, rfl, rfl, ?_⟩
  have e : PyData.eqv (.tuple [.int i, .int j]) (.tuple [.int k, .int l]) = decide (i = k ∧ j = l) := by
    simp only [PyData.eqv, PyData.eqvAll, Bool.and_true, Bool.decide_and]
    congr 1
  rw [e]
  exact q
theorem ten_digits : ∀ k : Nat, AllDigits (List.replicate k 48)
  | 0 => fun c h => nomatch h
  | k + 1 => fun c h => by
    rw [List.replicate_succ] at h
    rcases List.mem_cons.mp h with rfl | h
    · omega
    · exact ten_digits k c h
theorem ten_fold : ∀ (k a : Nat), (List.replicate k 48).foldl (fun acc c => acc * 10 + (c - 48)) a = a * 10 ^ k
  | 0, a => by simp
  | k + 1, a => by
    rw [List.replicate_succ, List.foldl_cons, ten_fold k, Nat.pow_succ]
    grind
theorem ten_text {k : Int} (h0 : 0 ≤ k) (h : k ≤ 4000) : PySem.intText? (("1" : Str) ++ repS "0" k) = some (10 ^ k.toNat : Int) ∧ (("1" : Str) ++ repS "0" k).length = k.toNat + 1 := by
  have e : (("1" : Str) ++ repS "0" k).cps.toList = 49 :: List.replicate k.toNat 48 := by
    show (#[49] ++ (List.replicate k.toNat [48]).flatten.toArray).toList = _
    have : ∀ n : Nat, (List.replicate n [48]).flatten = List.replicate n 48 := by
      intro n
      induction n with
      | zero => rfl
      | succ n ih => rw [List.replicate_succ, List.flatten_cons, ih]; rfl
    rw [this]
    simp
  have hl : (("1" : Str) ++ repS "0" k).length = k.toNat + 1 := by
    have : (("1" : Str) ++ repS "0" k).cps.toList.length = (("1" : Str) ++ repS "0" k).length := Array.length_toList
    rw [← this, e]
    simp
  refine ⟨?_, hl⟩
  rw [intText_digits (by rw [e]; intro c hc; rcases List.mem_cons.mp hc with rfl | hc; · omega
                         · exact ten_digits _ c hc) (by rw [e]; exact nofun) (by omega), e]
  congr 1
  unfold digitsVal
  rw [List.foldl_cons, ten_fold]
  simp
end DL
set_option Elab.async false
set_option linter.all false
set_option maxRecDepth 100000
set_option maxHeartbeats 4000000
namespace DL
open PySem L2
section
variable {X : Cx} {W : WX} {e : Expr} {te : DTE} {pos p1 p2 p3 : Pos} {k : Nat}
def rtRev : T → (T → Prop) → Prop := fun τ Q => match τ with
  | .node _ .lst ts => Q (.node true .lst (frzL ts).reverse)
  | _ => False
def xRev (te : DTE) : DTE := fun g Q E => te g (fun τ g1 => rtRev τ fun τ' => Q τ' g1) E
theorem rev_zip {us : List V} {ts : List T} (h : us.length = ts.length) : us.reverse.zip ts.reverse = (us.zip ts).reverse := by
  induction us generalizing ts with
  | nil =>
    cases ts with
    | nil => rfl
    | cons t ts => cases h
  | cons u us ih =>
    cases ts with
    | nil => cases h
    | cons t ts =>
      have h' : us.length = ts.length := by simpa using h
      rw [List.reverse_cons, List.reverse_cons, List.zip_cons_cons, List.reverse_cons, ← ih h', List.zip_append (by simpa using h')]
      rfl
theorem d_rev (he : DE X W e te) : DE X W (.Subscript e (.Slice none none (some (.UnaryOp .USub (.Constant (.int 1) k p1) p2)) p3) pos) (xRev te) := by
  refine ⟨fun B => PE.imp (pe_revL (he.run B)) fun σ H Q ⟨Φ, lim, g, E, r, hx, q⟩ => ?_, fun g Q Q' E E' hq hE q => he.mono _ _ _ _ _ (fun τ g1 q1 => ?_) hE q⟩
  · refine ⟨Φ, lim, g, E, r, hx, he.mono _ _ _ _ _ (fun τ g1 q1 v H1 r1 => ?_) (fun _ _ _ z => z) q⟩
    unfold rtRev at q1
    split at q1
    · rename_i o ts
      obtain ⟨ad, us, rfl, hlen, hr, r4⟩ := r1.parts
      refine ⟨ad, us, rfl, seqL hr, fun p hp => q1 _ _ ?_⟩
      have r5 := ((r4.perm (List.perm_append_comm (l₁ := us.zip (frzL ts)) (l₂ := (V.ref ad, T.node false .lst (frzL ts)) :: Φ))).dropT.perm List.perm_append_comm)
      have hl : us.length = (frzL ts).length := by rw [hlen, frzL_length]
      refine make_of .lst (by simpa using hl) ?_ hp
      rw [rev_zip hl]
      exact r5.perm (List.Perm.append_right _ (List.reverse_perm _).symm)
    · exact q1.elim
  · unfold rtRev at q1 ⊢
    split at q1
    · exact hq _ _ q1
    · exact q1.elim
end
end DL
set_option Elab.async false
set_option linter.all false
set_option maxRecDepth 100000
set_option maxHeartbeats 4000000
namespace DL
open PySem L2
theorem frame_in {K : PySem.W.Frag} {B : Bs} {lim : List Addr} {σ : St} {H : Hp} {g : Ev} {Φ : Its} (r : RepG K B lim σ H g Φ) :
    ∃ B', RepG K B' [] σ H g [] ∧ ∀ σ' H' g' Ψ, RepG K B' [] σ' H' g' Ψ → RepG K B lim σ' H' g' (Ψ ++ Φ) := by
  obtain ⟨F, zs, fp, en, o, f, hl⟩ := r
  obtain ⟨f1, f2, rfl, o1, o2⟩ := o.split
  refine ⟨⟨H, F, f1⟩, ⟨F, zs, f1, en, by rw [List.append_nil]; exact o1, ?_, fun _ z => nomatch z⟩, fun σ' H' g' Ψ r' => ?_⟩
  · have nd := (List.nodup_append.mp (List.nodup_append.mp f.nd).2.1).1
    exact ⟨nd, fun a z => f.off a (List.mem_append_right _ (List.mem_append_left _ z)), f.trk, fun _ z => z, fun _ _ z _ => z, fun _ z => .inl z, fun _ z => .inl z, fun _ _ e => e⟩
  · obtain ⟨F', zs', fp', en', o', fn, _⟩ := r'
    have r2 := call_frame (B := B) (lim := lim) (σ := []) (g := []) (zs := []) (Φ := Φ) .nil (show OwnZ K F H ([] ++ Φ) f2 from o2) f hl o' fn
    obtain ⟨F2, zs2, fp2, en2, oz2, f2', hl2⟩ := r2
    cases en2
    refine rep_items (ds := []) en' oz2 f2' hl2 ?_
    rw [List.nil_append, List.nil_append, List.append_assoc]
def subN (n m : Nat) : Bool := m == 0 || n == m
theorem Le.rf (D : DEnds) : DEnds.Le D D := ⟨fun _ z => z, fun _ _ z => z, fun _ _ _ z => z, fun _ z => z, fun _ z => z⟩
theorem Le.tr {D D' D2 : DEnds} (h : D.Le D') (h' : D'.Le D2) : D.Le D2 := ⟨fun _ z => h'.nx _ (h.nx _ z), fun _ _ z => h'.rt _ _ (h.rt _ _ z), fun _ _ _ z => h'.ex _ _ _ (h.ex _ _ _ z), fun _ z => h'.bk _ (h.bk _ z), fun _ z => h'.ct _ (h.ct _ z)⟩
def upc (t : DTS) : DTS := fun D g => ∃ D0, DEnds.Le D0 D ∧ t D0 g
theorem upc_mono {t : DTS} {D D' : DEnds} {g : Ev} (h : D.Le D') : upc t D g → upc t D' g := fun ⟨D0, h0, q⟩ => ⟨D0, Le.tr h0 h, q⟩
abbrev goneE (i : Nat) (D : DEnds) : DEnds := { nx := fun g2 => D.nx (g2.set i none), rt := D.rt, ex := noX, bk := fun g2 => D.bk (g2.set i none), ct := fun g2 => D.ct (g2.set i none) }
def sTryAs (i m : Nat) (tb : DTS) (ts : Nat → Addr → DTS) : DTS := fun D g =>
  upc tb { D with ex := fun x fs g' => ∃ n, x = cxN n ∧ ifB (subN n m) (fs = [] ∧ ∀ a, upc (ts n a) (goneE i D) (g'.set i (some (.leaf (.ref a))))) (D.ex x fs g') } g
def sTry (m : Nat) (tb : DTS) (ts : DTS) : DTS := fun D g =>
  upc tb { D with ex := fun x fs g' => ∃ n, x = cxN n ∧ ifB (subN n m) (upc ts { D with ex := noX } g') (D.ex x fs g') } g
def symOf (mg : Str → Option Value) (W : WX) : WX := fun x d σ H => ∀ c, sym mg x c → W c d σ H
theorem up_sym {mg : Str → Option Value} {W : WX} : ∀ c d σ H, upW mg (symOf mg W) c d σ H → W c d σ H := fun c d σ H ⟨x, hs, w⟩ => w c hs
section
variable {X : Cx} {W : WX} {m : Nat → Bool} {x n : Str} {c : Value} {i k k' : Nat} {body suite : List Stmt} {b₀ : Stmt} {np pos pos' p p2 p3 : Pos} {tb : DTS}
theorem tryK {K : PySem.W.Frag} {B B' : Bs} {m : Nat → Bool} {σ0 : St} {lim : List Addr} {Φ : Its} {D : Ends} {E E' : XP}
    (back : ∀ σ' H' g' Ψ, RepG K B' [] σ' H' g' Ψ → RepG K B lim σ' H' g' (Ψ ++ Φ)) : DEnds.Le { low K B m σ0 lim Φ D E with ex := E' } (low K B' m σ0 [] [] D E') :=
  ⟨fun g q σ' H' r hk => q σ' H' (by have := back _ _ _ _ r; exact this) hk, fun τ g q v σ' H' r hk => q v σ' H' (back _ _ _ _ r).ret hk, fun _ _ _ z => z,
   fun g q σ' H' r hk => q σ' H' (by have := back _ _ _ _ r; exact this) hk, fun g q σ' H' r hk => q σ' H' (by have := back _ _ _ _ r; exact this) hk⟩
theorem ds_tryAs {ts : Nat → Addr → DTS} (hs : X.stack = X.env :: X.outer) (hf : X.env.frame = some X.env.locals) (hN : X.N.Nodup) (hi : X.N[i]? = some n) (hln : X.env.kindOf n = some .local) (hc : Names X x c) (tk : Takes X (upW X.mg W)) (hm : m i = false)
    (hex : ∀ n cv, X.mg (ckN n) = some cv → PySem.W.exmOne X.K cv c = some (subN n k))
    (hb : ∀ (W' : WX) (pn : List (Addr × Obj)) (xe : Value → Shared → Prop), Takes (X.tr pn xe) (upW X.mg W') → PassesOwn (model X.prog X.w) X.A X.env xe → DSs (X.tr pn xe) W' m body tb)
    (hsu : ∀ (n : Nat) (a : Addr) (oe : Obj) (cls : Value) (pn : List (Addr × Obj)), X.mg (ckN n) = some cls → Zc cls none oe → (∃ vs, oe.data = .fields vs) → DSs (X.suite a ((a, oe) :: pn)) W0 m (b₀ :: suite) (ts n a)) :
    DS X W m (.Try body [.ExceptHandler (some (.Name x np)) (some n) (b₀ :: suite) pos'] [] [] pos) (sTryAs i k tb ts) := by
  refine .mk' (fun B σ0 => ps_try_as (i := i) (tb := fun Wr => fun D σ H => ∃ (B' : Bs) (σ1 : St), liftS X.K B' (symOf X.mg Wr) m σ1 (upc tb) D σ H) (ts := fun a cls d => fun D σ H => ∃ (B' : Bs) (σ1 : St) (n : Nat), X.mg (ckN n) = some cls ∧ d = none ∧ liftS X.K B' W0 m σ1 (upc (ts n a)) D σ H)
    (Wout := upW X.mg W) hs hf hN hi hln hc tk (fun Wr pn xe tk' po => ?_) (fun a oe cls d pn hz hd => ?_)) (fun B σ0 D σ H Φ lim g E r hk hX q => ?_) fun D D' g h q => ?_
  · refine ⟨fun pins s σ H D I ⟨B', σ1, Φ, lim, g, E, r, hk, hX, D0, hle, h⟩ => ?_⟩
    have hd := hb (symOf X.mg Wr) pn xe (tk'.imp up_sym) po
    exact (hd.run B' σ1).run pins s σ H D I ⟨Φ, lim, g, E, r, hk, hX, hd.mono _ _ _ hle h⟩
  · refine ⟨fun pins s σ H D I ⟨B', σ1, n, hn, hd0, Φ, lim, g, E, r, hk, hX, D0, hle, h⟩ => ?_⟩
    subst hd0
    have hdd := hsu n a oe cls pn hn hz hd
    exact (hdd.run B' σ1).run pins s σ H D I ⟨Φ, lim, g, E, r, hk, hX, hdd.mono _ _ _ hle h⟩
  · obtain ⟨B', r', back⟩ := frame_in r
    refine ⟨B', σ0, [], [], g, _, r', hk, ?_, upc_mono (tryK back) q⟩
    intro σ' hk' cx fs g' d H' r2 xd q2 cv hcv
    obtain ⟨n, rfl, q2⟩ := q2
    obtain ⟨n', e, hmg⟩ := hcv
    have e' : n = n' := by
      injection e with e1 e2
      exact Int.ofNat.inj e1
    subst e'
    refine ⟨_, hex n cv hmg, fun hb1 a na => ?_, fun hb0 => ?_⟩
    · rw [hb1] at q2
      obtain ⟨hfs, q3⟩ := q2
      subst hfs
      have hd : d = none := xd
      refine ⟨B, σ0, n, hmg, hd, Φ, lim, _, noX, RepG.put' (t := .leaf (.ref a)) (RepG.addLeaf (back _ _ _ [] r2)), hk'.set hm, fun _ _ => liftX0, upc_mono ?_ (q3 a)⟩
      exact ⟨fun g2 q σ6 H6 r6 hk6 => q _ _ (r6.clear i none) (hk6.set hm), fun τ g2 q v σ6 H6 r6 hk6 => q v σ6 H6 r6 hk6, fun _ _ _ z => z, fun g2 q σ6 H6 r6 hk6 => q _ _ (r6.clear i none) (hk6.set hm), fun g2 q σ6 H6 r6 hk6 => q _ _ (r6.clear i none) (hk6.set hm)⟩
    · rw [hb0] at q2
      exact ⟨cxN n, ⟨n, rfl, hmg⟩, hX σ' hk' _ _ _ _ _ (back _ _ _ [] r2).only xd q2⟩
  · unfold sTryAs at q ⊢
    refine upc_mono ?_ q
    refine ⟨h.nx, h.rt, fun x fs g' hq => ?_, h.bk, h.ct⟩
    obtain ⟨n, e, q⟩ := hq
    refine ⟨n, e, ifB_mono (fun ⟨hfs, q3⟩ => ⟨hfs, fun a => upc_mono ?_ (q3 a)⟩) (h.ex _ _ _) q⟩
    exact ⟨fun g q => h.nx _ q, h.rt, fun _ _ _ z => z, fun g q => h.bk _ q, fun g q => h.ct _ q⟩
theorem ds_try {ts : DTS} (hs : X.stack = X.env :: X.outer) (hf : X.env.frame = some X.env.locals) (hc : Names X x c) (tk : Takes X (upW X.mg W))
    (hex : ∀ n cv, X.mg (ckN n) = some cv → PySem.W.exmOne X.K cv c = some (subN n k))
    (hb : ∀ (W' : WX) (pn : List (Addr × Obj)) (xe : Value → Shared → Prop), Takes (X.tr pn xe) (upW X.mg W') → PassesOwn (model X.prog X.w) X.A X.env xe → DSs (X.tr pn xe) W' m body tb)
    (hsu : ∀ (a : Addr) (oe : Obj) (pn : List (Addr × Obj)), (∃ vs, oe.data = .fields vs) → DSs (X.suite a ((a, oe) :: pn)) W0 m (b₀ :: suite) ts) :
    DS X W m (.Try body [.ExceptHandler (some (.Name x np)) none (b₀ :: suite) pos'] [] [] pos) (sTry k tb ts) := by
  refine .mk' (fun B σ0 => ps_try_only (tb := fun Wr => fun D σ H => ∃ (B' : Bs) (σ1 : St), liftS X.K B' (symOf X.mg Wr) m σ1 (upc tb) D σ H) (ts := fun a cls d => fun D σ H => ∃ (B' : Bs) (σ1 : St), liftS X.K B' W0 m σ1 (upc ts) D σ H)
    (Wout := upW X.mg W) hs hf hc tk (fun Wr pn xe tk' po => ?_) (fun a oe cls d pn hz hd => ?_)) (fun B σ0 D σ H Φ lim g E r hk hX q => ?_) fun D D' g h q => ?_
  · refine ⟨fun pins s σ H D I ⟨B', σ1, Φ, lim, g, E, r, hk, hX, D0, hle, h⟩ => ?_⟩
    have hd := hb (symOf X.mg Wr) pn xe (tk'.imp up_sym) po
    exact (hd.run B' σ1).run pins s σ H D I ⟨Φ, lim, g, E, r, hk, hX, hd.mono _ _ _ hle h⟩
  · refine ⟨fun pins s σ H D I ⟨B', σ1, Φ, lim, g, E, r, hk, hX, D0, hle, h⟩ => ?_⟩
    have hdd := hsu a oe pn hd
    exact (hdd.run B' σ1).run pins s σ H D I ⟨Φ, lim, g, E, r, hk, hX, hdd.mono _ _ _ hle h⟩
  · obtain ⟨B', r', back⟩ := frame_in r
    refine ⟨B', σ0, [], [], g, _, r', hk, ?_, upc_mono (tryK back) q⟩
    intro σ' hk' cx fs g' d H' r2 xd q2 cv hcv
    obtain ⟨n, rfl, q2⟩ := q2
    obtain ⟨n', e, hmg⟩ := hcv
    have e' : n = n' := by
      injection e with e1 e2
      exact Int.ofNat.inj e1
    subst e'
    refine ⟨_, hex n cv hmg, fun hb1 a na => ?_, fun hb0 => ?_⟩
    · rw [hb1] at q2
      refine ⟨B, σ0, Φ, lim, _, noX, back _ _ _ [] r2, hk', fun _ _ => liftX0, upc_mono ?_ q2⟩
      exact ⟨fun _ z => z, fun _ _ z => z, fun _ _ _ z => z, fun _ z => z, fun _ z => z⟩
    · rw [hb0] at q2
      exact ⟨cxN n, ⟨n, rfl, hmg⟩, hX σ' hk' _ _ _ _ _ (back _ _ _ [] r2).only xd q2⟩
  · unfold sTry at q ⊢
    refine upc_mono ?_ q
    refine ⟨h.nx, h.rt, fun x fs g' hq => ?_, h.bk, h.ct⟩
    obtain ⟨n, e, q⟩ := hq
    refine ⟨n, e, ifB_mono (fun q3 => ?_) (h.ex _ _ _) q⟩
    refine upc_mono ?_ q3
    exact ⟨h.nx, h.rt, fun _ _ _ z => z, h.bk, h.ct⟩
def xIsE (i n k : Nat) (a : Addr) : DTE := fun g Q _ => g[i]? = some (some (.leaf (.ref a))) ∧ Q (.leaf (.bl (subN n k))) g
theorem d_isE {a Ck : Addr} {cls : Value} {oe : Obj} {pn : List (Addr × Obj)} {y z : Str} (hv : PE (X.suite a ((a, oe) :: pn)) (.Name z np) (tVar i)) (hz : Zc cls none oe) (hd : ∃ vs, oe.data = .fields vs) (hcl : ∃ D, cls = .ref D ∧ ExcC X.K D) (hkit : PySem.W.kitOne X.K cls (.ref Ck) = some (subN k' k))
    (hgi : Gl (X.suite a ((a, oe) :: pn)) "isinstance") (hmi : X.mg "isinstance" = none) (hvi : bootBuiltins "isinstance" = some (.builtin "isinstance")) (hgy : Gl (X.suite a ((a, oe) :: pn)) y) (hmy : X.mg y = some (.ref Ck))
    (hdb : (y == ("__debug__" : Str)) = false := by decide) :
    DE (X.suite a ((a, oe) :: pn)) W (.Call (.Name "isinstance" p) [.Name z np, .Name y p2] [] p3) (xIsE i k' k a) := by
  obtain ⟨D, rfl, hC⟩ := hcl
  refine ⟨fun B => PE.imp (pe_callB (call_isE hC hz hd) hgi hmi hvi (pa_cons hv (pa_cons (pe_glob hgy hmy (v := .ref Ck) rfl hdb) pa_nil))) fun σ H Q ⟨Φ, lim, g, E, r, hx, hg, q⟩ => ?_, fun g Q Q' E E' hq _ q => ⟨q.1, hq _ _ q.2⟩⟩
  obtain ⟨v, hv', r'⟩ := r.look hg rfl
  have hv2 := r'.leaf
  subst hv2
  exact ⟨_, hv', .ref Ck, .ref Ck, _, rfl, fun u hu => hu, hkit, q _ _ (r'.dropT.addLeaf)⟩
theorem RepG.newExc {K : PySem.W.Frag} {B : Bs} {lim : List Addr} {σ : St} {H : Hp} {g : Ev} {Φ : Its} {a D : Addr} {n : Nat} (h : RepG K B lim σ H g Φ) (ha : H a = none) (hv : ExcV K D) :
    RepG K B lim σ (upd H a (ExO (.ref D) a)) g ((.ref a, .pin (.exc n) []) :: Φ) := by
  obtain ⟨F, zs, fp, en, oz, f, hl⟩ := h.alloc (o := ExO (.ref D) a) ha
  have nd : (a :: (lim ++ fp)).Nodup := f.nd
  refine ⟨fun b => F b ∨ b = a, zs, fp, en, ?_, ⟨(List.nodup_cons.mp nd).2, fun b hb z => ?_, fun b z => ?_, fun b z => .inl (f.inc b z), f.keep, fun b z => ?_, fun b hb => f.newO b (List.mem_cons_of_mem _ hb), f.keepT⟩, fun b hb => hl b (List.mem_cons_of_mem _ hb)⟩
  · have o2 : OwnZ K (fun b => F b ∨ b = a) (upd H a (ExO (.ref D) a)) (zs ++ Φ) fp := oz.mono (fun _ z => .inl z) (fun _ _ _ e => e) fun _ _ e => e
    obtain ⟨f1, f2, rfl, q1, q2⟩ := o2.split
    have q3 : OwnZ K (fun b => F b ∨ b = a) (upd H a (ExO (.ref D) a)) ((.ref a, .pin (.exc n) []) :: Φ) ([] ++ f2) := OwnZ.cons (.fx (.inr rfl) upd_same hv) q2
    exact q1.append q3
  · rcases z with z | z
    · exact f.off b (List.mem_cons_of_mem _ hb) z
    · subst z
      exact (List.nodup_cons.mp nd).1 hb
  · rcases z with z | z
    · exact f.trk b z
    · subst z
      rw [upd_same]
      exact nofun
  · rcases z with z | z
    · exact f.newF b z
    · subst z
      exact .inr (f.newO b List.mem_cons_self)
def xExc (n : Nat) (te : DTE) : DTE := fun g Q E => te g (fun _ g1 => Q (.pin (.exc n) []) g1) E
def xExc0 (n : Nat) : DTE := fun g Q _ => Q (.pin (.exc n) []) g
theorem d_exc1 {C : Addr} {bmB : List Value} {Bn newId initId : String} {e : Expr} {te : DTE} (n : Nat) (F : ExcBaseFacts Bn newId initId bmB) (q : PySem.W.excIn X.K C bmB newId = true) (gC : X.mg x = some (.ref C)) (kC : PySem.W.keepIn X.K (.ref C) = true) (hv : ExcV X.K C) (hg : Gl X x)
    (he : DE X W e te) (hs : starEach [e] X.env = (false, eval e X.env) :: starEach [] X.env := by rfl) (hdb : (x == ("__debug__" : Str)) = false := by decide) : DE X W (.Call (.Name x p) [e] [] pos) (xExc n te) := by
  refine ⟨fun B => PE.imp (pe_exc1 F q gC kC hg (he.run B) hs hdb) fun σ H Q ⟨Φ, lim, g, E, r, hx, q⟩ => ?_, fun g Q Q' E E' hq hE q => he.mono _ _ _ _ _ (fun _ g1 z => hq _ _ z) hE q⟩
  exact ⟨Φ, lim, g, E, r, hx, he.mono _ _ _ _ _ (fun τ g1 q1 v H1 r1 a ha => q1 _ _ (r1.dropT.newExc ha hv)) (fun _ _ _ z => z) q⟩
theorem pe_exc0 {C : Addr} {bmB : List Value} {Bn newId initId : String} (F : ExcBaseFacts Bn newId initId bmB) (q : PySem.W.excIn X.K C bmB newId = true) (gC : X.mg x = some (.ref C)) (kC : PySem.W.keepIn X.K (.ref C) = true) (hg : Gl X x)
    (hdb : (x == ("__debug__" : Str)) = false := by decide) :
    PE X (.Call (.Name x p) [] [] pos) (fun σ H Q => ∀ a, H a = none → Q (.ref a) (upd H a (ExO (.ref C) a))) := by
  refine ⟨fun pins s σ H Q I h => ?_⟩
  refine wpAny_Call_Name_kw (ld_glob I hg gC ?_ hdb)
  refine PySem.W.callWith_K0 I.kIn kC ?_
  obtain ⟨bm, N, nm, qn, bs, hdct, sn, sub, ab, col, dd, k0, k1, k2, k3, k5, mN, hC, hN, hni, T⟩ := exc_obj I.kIn q
  refine PySem.wpAny_call_exc_subT F T hC hN hni (fun h' a hm => ?_) (by show 0 ≤ sizeLine; exact Nat.zero_le _)
  have hn : H a = none := I.hok.gone hm.new
  obtain ⟨t, ht, _, _⟩ := hm.there
  exact ⟨.ref a, upd H a (ExO (.ref C) a), I.laidN hm.keeps hm.new hn (exO_ok ht ⟨rfl, rfl⟩ rfl rfl rfl (show 4 < 6 by decide)), rfl, h a hn⟩
theorem d_exc0 {C : Addr} {bmB : List Value} {Bn newId initId : String} (n : Nat) (F : ExcBaseFacts Bn newId initId bmB) (q : PySem.W.excIn X.K C bmB newId = true) (gC : X.mg x = some (.ref C)) (kC : PySem.W.keepIn X.K (.ref C) = true) (hv : ExcV X.K C) (hg : Gl X x)
    (hdb : (x == ("__debug__" : Str)) = false := by decide) : DE X W (.Call (.Name x p) [] [] pos) (xExc0 n) := by
  refine ⟨fun B => PE.imp (pe_exc0 F q gC kC hg hdb) fun σ H Q ⟨Φ, lim, g, E, r, hx, q⟩ => ?_, fun g Q Q' E E' hq hE q => hq _ _ q⟩
  exact fun a ha => q _ _ (r.newExc ha hv)
end
theorem subN_big {n m : Nat} (hn : 20 ≤ n) (hm : m < 20) : subN n m = subN 0 m := by
  unfold subN
  have h1 : (n == m) = false := by
    rw [beq_eq_false_iff_ne]
    omega
  rw [h1]
  cases m with
  | zero => rfl
  | succ m => rfl
theorem excC_of {K : PySem.W.Frag} {C : Addr} (ga : PySem.W.findIn K (.ref C) "__getattribute__" = some (some (.builtin "BaseException.__getattribute__"))) (gg : PySem.W.findIn K (.ref C) "__getattr__" = some none) (e : PySem.W.subIn K (.ref C) (.type "BaseException") = some true) (h : PySem.W.hasDictIn K C = true)
    (ca : PySem.W.findIn K (.ref C) "__class__" = some (some (.builtin "object.__class__"))) (mo : PySem.W.mroIn K C (.type "object") = some true) (sn : PySem.W.specialIn K (.builtin "object.__class__") "__get__" = some (some (.builtin "getset_descriptor.__get__"))) (tk : PySem.W.takesIn K (.builtin "object.__class__") = some true) : ExcC K C := ⟨ga, gg, e, h, ca, sn, tk, mo⟩
theorem excV_of {K : PySem.W.Frag} {C : Addr} (ex : ExcC K C) (h1 : PySem.W.subIn K (.ref C) (.type "int") = some false) (h2 : PySem.W.subIn K (.ref C) (.type "bool") = some false) (h3 : PySem.W.subIn K (.ref C) (.type "str") = some false) (h4 : PySem.W.subIn K (.ref C) (.type "list") = some false)
    (h5 : PySem.W.subIn K (.ref C) (.type "tuple") = some false) (h6 : PySem.W.subIn K (.ref C) (.type "dict") = some false) : ExcV K C := by
  have key : ∀ c : String, PySem.W.kitMeta c = true → PySem.W.subIn K (.ref C) (.type c) = some false → PySem.W.kitOne K (.ref C) (.type c) = some false := fun c hm hs => by
    have e0 : (Value.ref C == Value.type c) = false := by
      rw [beq_eq_false_iff_ne]
      intro z
      cases z
    unfold PySem.W.kitOne PySem.W.kitCls
    rw [if_neg (by rw [e0]; exact Bool.false_ne_true)]
    show (if PySem.W.kitMeta c = true then _ else _) = _
    rw [if_pos hm]
    exact hs
  refine ⟨ex, fun c hc => ?_⟩
  simp only [List.mem_cons, List.not_mem_nil, or_false] at hc
  rcases hc with rfl | rfl | rfl | rfl | rfl | rfl
  · exact key _ (by decide +kernel) h1
  · exact key _ (by decide +kernel) h2
  · exact key _ (by decide +kernel) h3
  · exact key _ (by decide +kernel) h4
  · exact key _ (by decide +kernel) h5
  · exact key _ (by decide +kernel) h6
theorem kit_cls {K : PySem.W.Frag} {D C : Addr} {b : Bool} (hd : PySem.W.hasDictIn K C = true) (ht : PySem.W.typeIn K (.ref C) = some (.type "type")) (hs : PySem.W.subIn K (.ref D) (.ref C) = some b) (self : PySem.W.subIn K (.ref C) (.ref C) = some true) : PySem.W.kitOne K (.ref D) (.ref C) = some b := by
  unfold PySem.W.kitOne
  by_cases e : D = C
  · subst e
    rw [self] at hs
    rw [if_pos (beq_self_eq_true _)]
    exact hs
  · have e0 : (Value.ref D == Value.ref C) = false := by
      rw [beq_eq_false_iff_ne]
      intro z
      cases z
      exact e rfl
    rw [if_neg (by rw [e0]; exact Bool.false_ne_true)]
    obtain ⟨cd, hc, _⟩ := PySem.W.any_some hd
    have e2 : ((PySem.W.clsIn K C).isSome && PySem.W.typeIn K (.ref C) == some (.type "type")) = true := by rw [hc, ht] <;> rfl
    show (if ((PySem.W.clsIn K C).isSome && PySem.W.typeIn K (.ref C) == some (.type "type")) = true then PySem.W.subIn K (.ref D) (.ref C) else none) = some b
    rw [if_pos e2]
    exact hs
end DL
set_option Elab.async false
set_option linter.all false
set_option maxRecDepth 100000
set_option maxHeartbeats 4000000
namespace DL
open PySem L2 PyProof.Rows
section
variable {X : Cx} {W : WX} {x : Str} {pos p1 p2 : Pos} {K : PySem.W.Frag}
def xDict0 : DTE := fun g Q _ => Q (.node true (.dK []) []) g
theorem d_dict0 : DE X W (.Dict [] [] pos) xDict0 := by
  refine ⟨fun B => PE.imp pe_dnewK fun σ H Q ⟨Φ, lim, g, E, r, hx, q⟩ => ?_, fun g Q Q' E E' hq hE q => hq _ _ q⟩
  exact fun d hd => q _ _ (make_of (.dK []) (vs := []) (τs := []) rfl r hd)
theorem upd_two {H : Hp} {p : Addr} {o o' : HO} : upd (upd H p o) p o' = upd H p o' := by
  funext b
  by_cases e : b = p
  · rw [e, upd_same, upd_same]
  · rw [upd_ne e, upd_ne e, upd_ne e]
def xDict1 (k : Key) (v : V) : DTE := fun g Q _ => Q (.node true (.dK [k]) [.leaf v]) g
theorem d_dict1 {a b : Expr} (k : Key) (v : V) (ha : PE X a (tC (kV k))) (hb : PE X b (tC v)) : DE X W (.Dict [some a] [b] pos) (xDict1 k v) := by
  refine ⟨fun B => PE.imp (pe_disp (pps_cons ha hb pps_nil) rfl rfl (fun z => nomatch z) (Nat.le_of_ble_eq_true rfl)) fun σ H Q ⟨Φ, lim, g, E, r, hx, q⟩ => ?_, fun g Q Q' E E' hq hE q => hq _ _ q⟩
  refine fun p hp => ⟨upd_same, [(k, v)], rfl, Nat.le_of_ble_eq_true rfl, ?_⟩
  rw [upd_two]
  exact q _ _ (make_of (.dK [k]) (vs := [v]) (τs := [.leaf v]) rfl r.addLeaf hp)
def keyD : Key → PyData
  | .inl i => .int i
  | .inr x => .str x
def flatD : V → Option PyData
  | .non => some .none
  | .bl b => some (.bool b)
  | .int i => some (.int i)
  | .str x => some (.str x)
  | _ => none
def flatDs : List (Key × V) → Option (List (PyData × PyData))
  | [] => some []
  | (k, v) :: r => match flatD v with
    | some d => (flatDs r).map ((keyD k, d) :: ·)
    | none => none
theorem flatD_reads {h : Heap} {v : V} {u : Value} {d : PyData} (e : flatD v = some d) (r : RelV v u) : Reads h u d [] := by
  cases v <;> simp only [flatD, Option.some.injEq, reduceCtorEq] at e
  · subst e
    cases (show u = Value.none from r)
    exact .none
  · subst e
    cases (show u = Value.bool _ from r)
    exact .bool _
  · subst e
    obtain ⟨t, rfl⟩ := (show ∃ t, u = Value.int _ t from r)
    exact .int _ _
  · subst e
    obtain ⟨t, rfl⟩ := (show ∃ t, u = Value.str _ t from r)
    exact .str _ _
theorem flatDs_reads {P : Program} {w : World} {h : Heap} : ∀ {kvs : List (Key × V)} {ds : List (PyData × PyData)} {vs : List (Key × Value)} {es : List DictEntry}, flatDs kvs = some ds → KV kvs vs → Pairs (mixKind P w) es vs →
    ReadsAll h (es.map (·.key)) (ds.map (·.1)) [] ∧ ReadsAll h (es.map (·.val)) (ds.map (·.2)) []
  | [], ds, vs, es, e, kv, p => by
    cases kv
    cases p
    simp only [flatDs, Option.some.injEq] at e
    subst e
    exact ⟨.nil, .nil⟩
  | (k, v) :: r, ds, vs, es, e, kv, p => by
    cases kv with
    | cons hk hr =>
      cases p with
      | cons pk pv pr =>
        simp only [flatDs] at e
        cases q : flatD v with
        | none => rw [q] at e; cases e
        | some d =>
          rw [q] at e
          cases q2 : flatDs r with
          | none => rw [q2] at e; cases e
          | some ds' =>
            rw [q2] at e
            cases e
            obtain ⟨i1, i2⟩ := flatDs_reads (h := h) q2 hr pr
            obtain ⟨h1, h2⟩ := hk
            refine ⟨.cons (as := []) (bs := []) ?_ i1, .cons (as := []) (bs := []) (flatD_reads q (by dsimp only; rw [pv]; exact h2)) i2⟩
            dsimp only
            rw [mixKind_is] at pk
            rcases keyIs_shape pk with ⟨i, t, e1, e2⟩ | ⟨y, t, e1, e2⟩
            · have : k = .inl i := by rw [← e1]; exact h1
              rw [e2, this]
              exact .int _ _
            · have : k = .inr y := by rw [← e1]; exact h1
              rw [e2, this]
              exact .str _ _
def rReprK : List V → Hp → VK → Prop := fun xs H Q => ∃ (a : Addr) (kvs : List (Key × V)) (ds : List (PyData × PyData)), xs = [.ref a] ∧ H a = some (.dK kvs) ∧ flatDs kvs = some ds ∧ (PyData.dict ds).showable = true ∧ (PyData.dict ds).depth ≤ 60 ∧ (PyData.dict ds).shown.length ≤ sizeLine ∧ Q (.str (PyData.dict ds).shown) H
theorem call_reprK (hgd : X.A.guards = some []) (hu : X.A.units + 64 < cLine) : CallR X (.builtin "repr") (fun xs H Q => rRepr X.K xs H Q ∨ rReprK xs H Q) := by
  intro pins s σ H xs us Q I r h
  rcases h with h | ⟨a, kvs, ds, rfl, ha, hf, hs, hdep, hsz, q⟩
  · exact call_reprD hgd hu pins s σ H xs us Q I r h
  · obtain ⟨u, rfl, ru⟩ := Vals.one r
    cases (show u = Value.ref a from ru)
    obtain ⟨hl, hsm, vs, kv, o, es, ep, ho, hx, hd, hko, hp, hnd⟩ := I.hok a _ ha
    obtain ⟨r1, r2⟩ := flatDs_reads (h := s.heap) hf kv hp
    have rd : Reads s.heap (.ref a) (.dict ds) (a :: [] ++ []) := .dict ho hx.1 hd r1 r2
    refine repr_of_reads' rd hs (fun _ hm => ?_) hgd (by omega) (fun _ _ z => z) (fun h' u tk k => ⟨.str _, H, I.kept k, ⟨u, rfl⟩, q⟩) hsz
    have : sysModules = a := by simpa using hm
    rw [← this, beq_self_eq_true] at hsm
    cases hsm
def flatT : List T → Option (List V)
  | [] => some []
  | .leaf v :: r => (flatT r).map (v :: ·)
  | _ :: _ => none
theorem flatT_eq : ∀ {ts : List T} {vs : List V}, flatT ts = some vs → ts = vs.map .leaf
  | [], vs, e => by
    simp only [flatT, Option.some.injEq] at e
    subst e
    rfl
  | t :: r, vs, e => by
    cases t with
    | leaf v =>
      simp only [flatT] at e
      cases q : flatT r with
      | none => rw [q] at e; cases e
      | some ws =>
        rw [q] at e
        cases e
        rw [flatT_eq q]
        rfl
    | node _ _ _ => simp [flatT] at e
    | pin _ _ => simp [flatT] at e
def ReprS (τ : T) (s : Str) : Prop := (∃ d, toP τ = some d ∧ d.showable = true ∧ d.hasDict = false ∧ d.depth ≤ 60 ∧ d.shown.length ≤ sizeLine ∧ s = d.shown) ∨
  ∃ o ks ts vs ds, τ = .node o (.dK ks) ts ∧ flatT ts = some vs ∧ flatDs (ks.zip vs) = some ds ∧ (PyData.dict ds).showable = true ∧ (PyData.dict ds).depth ≤ 60 ∧ (PyData.dict ds).shown.length ≤ sizeLine ∧ s = (PyData.dict ds).shown
theorem ReprS.of {τ : T} {d : PyData} (h : toP τ = some d) (g : GoodD d) : ReprS τ d.shown := .inl ⟨d, h, g.show, g.nodict, g.dp, g.len, rfl⟩
def rnRepr2 : RNT := fun τs Q => match τs with
  | [τ] => ∃ s, ReprS τ s ∧ Q (.leaf (.str s))
  | _ => False
theorem n_repr2 (hgd : X.A.guards = some []) (hu : X.A.units + 64 < cLine) : CallN X (.builtin "repr") (fun xs H Q => rRepr X.K xs H Q ∨ rReprK xs H Q) rnRepr2 := by
  refine ⟨call_reprK hgd hu, fun B lim σ H g Φ vs τs Q hl r q => ?_, fun τs Q Q' h q => ?_⟩
  · unfold rnRepr2 at q
    split at q
    · rename_i τ
      obtain ⟨s, hs, q⟩ := q
      rcases hs with ⟨d, h1, h2, h3, h4, h5, rfl⟩ | ⟨o, ks, ts, ws, ds, rfl, h1, h2, h3, h4, h5, rfl⟩
      · exact .inl ((n_repr hgd hu).2.1 B lim σ H g Φ vs [τ] Q hl r ⟨d, h1, h2, h3, h4, h5, q⟩)
      match vs, hl with
      | [v], _ =>
        have r2 : RepG X.K B lim σ H g ((v, .node o (.dK ks) ts) :: Φ) := r
        have e := flatT_eq h1
        subst e
        obtain ⟨a, us, rfl, hl2, ha, hu⟩ : ∃ a us, v = .ref a ∧ us.length = (ws.map T.leaf).length ∧ H a = some (.dK (ks.zip us)) ∧ us = ws := by
          obtain ⟨F, zs, fp, en, oz, f, hl⟩ := r2
          obtain ⟨fp', pf, o'⟩ := oz.perm (List.perm_middle (a := (v, T.node o (.dK ks) (ws.map .leaf))))
          obtain ⟨f1, f2, rfl, p1, o2⟩ := OwnZ.uncons (zs := zs ++ Φ) o'
          have flat : ∀ {F : Addr → Prop} {us : List V} {ws : List V} {fp : List Addr}, OwnL X.K F H us (ws.map .leaf) fp → us = ws := by
            intro F us ws
            induction ws generalizing us with
            | nil => intro fp h; cases h; rfl
            | cons w ws ih =>
              intro fp h
              cases h with
              | cons h1 h2 =>
                cases h1
                rw [ih h2]
          cases p1 with
          | fz hf hr hk => exact ⟨_, _, rfl, hk.length, hr, flat hk⟩
          | own hr hk => exact ⟨_, _, rfl, hk.length, hr, flat hk⟩
        subst hu
        exact .inr ⟨a, _, ds, rfl, ha, h2, h3, h4, h5, q _ _ r2.dropT.addLeaf⟩
    · exact q.elim
  · unfold rnRepr2 at q ⊢
    split at q
    · obtain ⟨s, hs, q⟩ := q
      exact ⟨s, hs, h _ q⟩
    · exact q.elim
end
theorem nr_none {g : Ev} {bs : List (Option Nat)} {us : List T} : restore g (none :: bs) us = restore g bs us := rfl
theorem nr_some {g : Ev} {j : Nat} {bs : List (Option Nat)} {u : T} {us : List T} : restore g (some j :: bs) (u :: us) = restore (g.set j (some u)) bs us := rfl
theorem nr_nil {g : Ev} {us : List T} : restore g [] us = g := rfl
theorem nf_leaf {v : V} : frz (.leaf v) = .leaf v := rfl
theorem nf_pin {s : Sh} {vs : List V} : frz (.pin s vs) = .pin s vs := rfl
theorem nf_node {o : Bool} {s : Sh} {ts : List T} : frz (.node o s ts) = .node false s (frzL ts) := rfl
theorem nf_nil : frzL [] = [] := rfl
theorem nf_cons {t : T} {ts : List T} : frzL (t :: ts) = frz t :: frzL ts := rfl
theorem ni_f {α : Type} {a b : α} : (if false = true then a else b) = b := rfl
theorem ni_t {α : Type} {a b : α} : (if true = true then a else b) = a := rfl
theorem nw_nil {g : Ev} : wipeE g [] = g := rfl
theorem nw_cons {g : Ev} {i : Nat} {is : List Nat} : wipeE g (i :: is) = (wipeE g is).set i none := rfl
theorem ns_0 {a b : Option T} {g : Ev} : List.set (a :: g) 0 b = b :: g := rfl
theorem ns_s {a b : Option T} {g : Ev} {n : Nat} : List.set (a :: g) (n + 1) b = a :: List.set g n b := rfl
theorem frz_nf (s : Sh) (ts : List T) : frz (.node false s (frzL ts)) = .node false s (frzL ts) := by
  rw [nf_node, frzL_frzL]
theorem ne_c {n : Nat} {t : T} {ts : List T} : startE (n + 1) (t :: ts) = some t :: startE n ts := by simp [startE]
theorem ne_n {n : Nat} : startE (n + 1) [] = none :: startE n [] := by simp [startE, List.replicate_succ]
theorem ne_0 : startE 0 [] = [] := rfl
theorem np_t {bs : List Bool} {t : T} {ts : List T} : frzP (true :: bs) (t :: ts) = t :: frzP bs ts := rfl
theorem np_f {bs : List Bool} {t : T} {ts : List T} : frzP (false :: bs) (t :: ts) = frz t :: frzP bs ts := rfl
theorem np_n {ts : List T} : frzP [] ts = ts := rfl
end DL
set_option Elab.async false
set_option linter.all false
set_option maxRecDepth 100000
set_option maxHeartbeats 4000000
namespace DL
open PySem L2
section
variable {X : Cx} {W : WX} {m : Nat → Bool} {e : Expr} {te t1 t2 : DTE} {pos : Pos}
theorem RepG.frzIf {K : PySem.W.Frag} {B : Bs} {lim : List Addr} {σ : St} {H : Hp} {g : Ev} {Φ : Its} {v : V} {t : T} (o : Bool) (h : RepG K B lim σ H g ((v, t) :: Φ)) : RepG K B lim σ H g ((v, if o = true then t else frz t) :: Φ) := by
  cases o with
  | true => exact h
  | false => exact h.freezeT
def sParO (oi oj : Bool) (i j : Nat) (t : DTA) : DTS := fun D g => t g (fun τs g1 => match τs with
  | [x, y] => D.nx ((g1.set i (some (if oi = true then x else frz x))).set j (some (if oj = true then y else frz y)))
  | _ => False) D.ex
theorem ds_parO (oi oj : Bool) {i j : Nat} {x y : Str} {a b : Expr} {t : DTA} {bs : List (Option Nat)} {px py pt : Pos} {kt k2 pt2} (hc : X.calm = true) (hN : X.N.Nodup) (hi : X.N[i]? = some x) (hj : X.N[j]? = some y) (hij : i ≠ j) (hmi : m i = false) (hmj : m j = false)
    (hx : X.env.scope.names.lookup x = some .local) (hy : X.env.scope.names.lookup y = some .local) (ha : DA X W [a, b] bs t)
    (hw : swappedStores [.Tuple [.Name x px, .Name y py] kt pt] (.Tuple [a, b] k2 pt2) X.env = pure (some [x, y]))
    (hs : swapsWithSole [.Tuple [.Name x px, .Name y py] kt pt] (.Tuple [a, b] k2 pt2) pos.line X.env = pure false := by rfl) :
    DS X W m (.Assign [.Tuple [.Name x px, .Name y py] kt pt] (.Tuple [a, b] k2 pt2) pos) (sParO oi oj i j t) := by
  refine .mk' (fun B σ0 => ps_par hc hN hi hj hij hx hy (ha.run B) hw hs) (fun B σ0 D σ H Φ lim g E r hk hX q => ?_) fun D D' g h q => ha.mono _ _ _ _ _ (fun τs g1 q1 => ?_) h.ex q
  · refine ⟨Φ, lim, g, E, r, hX σ hk, ha.mono _ _ _ _ _ (fun τs g1 q1 vs H1 hl _ r1 => ?_) (fun _ _ _ z => z) q⟩
    split at q1
    · rename_i x' y'
      obtain ⟨v, w, rfl⟩ : ∃ v w, vs = [v, w] := by
        match vs, hl with
        | [v, w], _ => exact ⟨v, w, rfl⟩
      refine ⟨v, w, rfl, q1 _ _ ?_ ((hk.set hmi).set hmj)⟩
      have r2 : RepG X.K B lim σ H1 g1 ((v, x') :: (w, y') :: Φ) := r1
      have r3 := ((r2.frzIf oi).perm (List.Perm.swap _ _ _)).frzIf oj
      exact (r3.perm (List.Perm.swap _ _ _)).put'.put'
    · exact q1.elim
  · split at q1
    · exact h.nx _ q1
    · exact q1.elim
def xIns (i : Nat) (t1 t2 : DTE) : DTE := fun g Q E => atSlot i g fun t0 => ownL t0 fun _ => t1 g (fun τ1 g1 => t2 g1 (fun τ2 g2 => isI τ1 fun k => atSlot i g2 fun t3 => ownL t3 fun ts => (ts.length < sizeLine ∧ 0 ≤ k ∧ k < 2 ^ 63) ∧ Q (.leaf .non) (g2.set i (some (.node true .lst (ts.take k.toNat ++ [τ2] ++ ts.drop k.toNat))))) E) E
theorem d_ins {o e1 e2 : Expr} {apos cpos : Pos} (i : Nat) (ho : PE X o (tVar i)) (h1 : DE X W e1 t1) (h2 : DE X W e2 t2) (hbase : attributeBase o "insert" X.env (eval o X.env) = eval o X.env := by rfl)
    (hfew : ((backTo cpos (starEach [e1, e2] X.env)).all (fun x => !x.1) && (backToKw cpos (keywordEach [] X.env)).all (fun x => x.1.isSome) && decide ([e1, e2].length + ([] : List Keyword).length + (if ([] : List Keyword).isEmpty then 0 else 1) < 30)) = true := by rfl)
    (hline : (apos.endLine == cpos.line) = true := by rfl) (hs : starEach [e1, e2] X.env = (false, eval e1 X.env) :: starEach [e2] X.env := by rfl) (hs2 : starEach [e2] X.env = (false, eval e2 X.env) :: starEach [] X.env := by rfl) (hplain : (backTo cpos (starEach [e2] X.env)).any (·.1) = false := by rfl) :
    DE X W (.Call (.Attribute o "insert" apos) [e1, e2] [] cpos) (xIns i t1 t2) := by
  refine ⟨fun B => PE.imp (pe_bm PySem.F.plainAttrs_list PySem.F.slot_list_insert PySem.F.type_list_insert mt_insert ho (pa_cons (h1.run B) (pa_cons (h2.run B) pa_nil hs2) hs) hbase hfew hline hs hplain) fun σ H Q ⟨Φ, lim, g, E, r, hx, q⟩ => ?_, fun g Q Q' E E' hq hE q => ?_⟩
  · obtain ⟨t0, h0, q⟩ := atSlot_of q
    obtain ⟨ts0, rfl, q⟩ := ownL_of q
    obtain ⟨ad, us, hv, hl, hH, _⟩ := r.renew (s' := .lst) h0
    refine ⟨.ref ad, hv, .inl ⟨rfl, us, SqL.of hH⟩, Φ, lim, g, E, r, hx, h1.mono _ _ _ _ _ (fun τ1 g1 q1 w1 H1 r1 => ?_) (fun _ _ _ z => z) q⟩
    refine ⟨(w1, τ1) :: Φ, lim, g1, E, r1, hx, h2.mono _ _ _ _ _ (fun τ2 g2 q2 w2 H2 r2 => ?_) (fun _ _ _ z => z) q1⟩
    obtain ⟨k, rfl, q2⟩ := isI_of q2
    obtain ⟨t3, h3, q2⟩ := atSlot_of q2
    obtain ⟨ts, rfl, ⟨hlt, k0, k1⟩, q2⟩ := ownL_of q2
    have r3 : RepG X.K B lim σ H2 g2 ((w1, .leaf (.int k)) :: (w2, τ2) :: Φ) := r2.perm (List.Perm.swap _ _ _)
    have ew := r3.leaf
    subst ew
    have r4 : RepG X.K B lim σ H2 g2 ((w2, τ2) :: Φ) := r3.dropT
    obtain ⟨ad2, us2, hv2, hl2, hH2, kk⟩ := r4.renew (s' := .lst) h3
    rw [hv] at hv2
    cases hv2
    refine ⟨ad, us2, k, w2, rfl, rfl, hH2, by omega, k0, k1, ?_⟩
    have hz : (us2.zip ts).length = us2.length := by rw [List.length_zip]; omega
    have r5 := kk ((us2.zip ts).take k.toNat ++ [(w2, τ2)] ++ (us2.zip ts).drop k.toNat) Φ (by
      have p1 : ((us2.zip ts).take k.toNat ++ [(w2, τ2)] ++ (us2.zip ts).drop k.toNat).Perm ((w2, τ2) :: us2.zip ts) := by
        rw [List.append_assoc, List.singleton_append]
        refine List.perm_middle.trans ?_
        rw [List.take_append_drop]
      have p2 := List.Perm.append_right Φ p1
      refine p2.trans ?_
      rw [List.cons_append]
      exact List.perm_middle.symm)
    have e1 : (((us2.zip ts).take k.toNat ++ [(w2, τ2)] ++ (us2.zip ts).drop k.toNat).map (·.1)) = us2.take k.toNat ++ [w2] ++ us2.drop k.toNat := by
      rw [List.map_append, List.map_append, List.map_take, List.map_drop, List.map_fst_zip (by omega)]
      rfl
    have e2 : (((us2.zip ts).take k.toNat ++ [(w2, τ2)] ++ (us2.zip ts).drop k.toNat).map (·.2)) = ts.take k.toNat ++ [τ2] ++ ts.drop k.toNat := by
      rw [List.map_append, List.map_append, List.map_take, List.map_drop, List.map_snd_zip (by omega)]
      rfl
    rw [e1, e2] at r5
    exact q2 _ _ r5.addLeaf
  · exact atSlot_mono (fun t0 q => ownL_mono (fun _ q => h1.mono _ _ _ _ _ (fun τ1 g1 q1 => h2.mono _ _ _ _ _ (fun τ2 g2 q2 => isI_mono (fun k q3 => atSlot_mono (fun t1 q4 => ownL_mono (fun ts q5 => ⟨q5.1, hq _ _ q5.2⟩) q4) q3) q2) hE q1) hE q) q) q
end
end DL
set_option Elab.async false
set_option linter.all false
set_option maxRecDepth 100000
set_option maxHeartbeats 4000000
namespace DL
open PySem L2 PySem.W
section
open PyProof.Rows SeqAt
def Sortable2 (ds : List PyData) : Prop := (∀ d, d ∈ ds → ∃ xs, d = .tuple xs) ∨ ∀ d, d ∈ ds → d ≠ .none ∧ ∀ xs, d ≠ .tuple xs
variable {prog : Program} {w : World} {A : Around} {E : Value → Shared → Prop} {s : Shared} {M : Model}
theorem kdl_general (x y : Value) : keyLt' general' x y = oneLt' false x y := rfl
theorem firsts_any : ∀ {vs : List Value} {ds : List PyData} {Q : List (Option Value) → Shared → Prop}, EachIs (fun v d => ∃ as, Reads s.heap v d as) vs ds → (∀ d, d ∈ ds → ∃ xs, d = .tuple xs) →
    (∀ os : List (Option Value), EachIs (fun (o : Option Value) d => o.isSome = true ↔ ∃ x r, d = .tuple (x :: r)) os ds → Q os s) → wpAny M A (vs.mapM firstOfTuple') Q E s
  | _, _, _, .nil, _, h => by
    rw [List.mapM_nil]
    exact wpAny_pure (h [] .nil)
  | _, _, Q, .cons (a := v) (b := d) (as := vs) ⟨as, r⟩ t, ht, h => by
    obtain ⟨xs, rfl⟩ := ht _ (List.mem_cons_self ..)
    rw [List.mapM_cons]
    refine wpAny_bind ?_
    rw [kas_first_eq]
    cases r with
    | @tuple l o its n _ _ ho hc hd hr =>
      refine wpAny_bind (Looks.here (show Looks M s.heap (typeOf (.ref l)) o.cls from (Looks.ld ho).andThen .now) ?_)
      rw [hc, if_neg (by first | decide | simp)]
      refine wpAny_bind (listItems_at ho hd (wpAny_pure ?_))
      refine wpAny_bind (firsts_any (Q := fun bs s' => wpAny M A (pure (its[0]? :: bs)) Q E s') t (fun d hd => ht d (List.mem_cons_of_mem _ hd)) fun os ho => wpAny_pure (h _ (.cons ⟨fun hs => ?_, fun hs => ?_⟩ ho)))
      · cases hr' : its.toList with
        | nil =>
          rw [← Array.getElem?_toList, hr'] at hs
          cases hs
        | cons f fr =>
          rw [hr'] at hr
          cases hr with
          | cons r1 r2 => exact ⟨_, _, rfl⟩
      · obtain ⟨x, r, e⟩ := hs
        cases e
        cases hr' : its.toList with
        | nil =>
          rw [hr'] at hr
          cases hr
        | cons f fr =>
          rw [← Array.getElem?_toList, hr']
          rfl
theorem oneLt_tup {f : Bool} {xs ys : List PyData} {a b : Value} {as bs : List Addr} {Q : Bool → Shared → Prop} (ra : Reads s.heap a (.tuple xs) as) (rb : Reads s.heap b (.tuple ys) bs) (h : alike (.tuple xs) (.tuple ys) = true)
    (hu : A.units + min (PyData.tuple xs).depth (PyData.tuple ys).depth < cLine) (hq : Q (dataLt (.tuple xs) (.tuple ys)) s) : wpAny (model prog w) A (oneLt' f a b) Q E s := by
  cases f with
  | false => exact oneLt_alike (fun z => nomatch z) ra rb h (fun z => nomatch z) hu hq
  | true =>
    have hal : alikeAll xs ys = true := by simpa [alike] using h
    cases ra with
    | @tuple l o vs n _ as₁ h1 h2 h3 h4 =>
      cases rb with
      | @tuple l' o' vs' n' _ bs₁ k1 k2 k3 k4 =>
        have n1 : vs.size = xs.length := by simpa using ReadsAll.length _ _ _ h4
        have n2 : vs'.size = ys.length := by simpa using ReadsAll.length _ _ _ k4
        rw [dataLt_tuple, ← firstLt_toks xs ys hal, ← n1, ← n2] at hq
        rw [oneLt'_eq]
        simp only [if_true]
        refine wpAny_bind (wpAny_cRoomFor (room_here hu) ?_)
        obtain ⟨⟨cls, dd, data, sl⟩, ho⟩ : ∃ o' : Obj, o' = o := ⟨o, rfl⟩
        subst ho
        obtain ⟨⟨cls2, dd2, data2, sl2⟩, ho2⟩ : ∃ o'' : Obj, o'' = o' := ⟨o', rfl⟩
        subst ho2
        simp only at h2 h3 k2 k3
        subst h2 h3 k2 k3
        refine wpAny_bind (wpAny_callSpecialIfBound?_slot (T := "tuple") ⟨_, h1, rfl⟩ F.slot_tuple_lt (call_meets F.slot_tuple_lt ⟨_, h1, rfl⟩ F.entry_tuple_lt (F.args_tuple_lt_2 _ _)
          (SeqAt.tuple_ltAt l l' vs vs' n n' dd dd2 sl sl2 (pairEq xs ys) (fun j => dataLt (xs.getD j .none) (ys.getD j .none))) ⟨h1, k1, fun j j1 j2 => ?_, fun j j1 j2 hj => ?_, ?_⟩))
        · have := eqAt_alikeAll xs ys A.in1 s vs.toList vs'.toList _ _ h4 k4 hal (room_in hu) j (by simpa using j1) (by simpa using j2)
          simpa using this
        · have := rcLt_alikeAll xs ys A.in1 s vs.toList vs'.toList _ _ h4 k4 hal (room_in hu) j (by simpa using j1) (by simpa using j2) hj
          simpa using this
        · exact wpAny_truthy_bool hq
theorem sortsAt2 {vs : List Value} {ds : List PyData} (e : EachIs (fun v d => ∃ as, Reads s.heap v d as) vs ds) (hal : AllAlike ds) (hk : Sortable2 ds) (hu : ∀ d, d ∈ ds → A.units + d.depth < cLine) : SortsAt prog w A s (dataKind s.heap ds) vs := by
  rcases hk with ht | hn
  · by_cases hne : ∀ d, d ∈ ds → ∃ x r, d = .tuple (x :: r)
    · exact SortsAt.data e hal (.inl hne) hu
    · have room : ∀ {d d' : PyData}, d ∈ ds → A.units + min d.depth d'.depth < cLine := fun {d d'} hd => Nat.lt_of_le_of_lt (Nat.add_le_add_left (Nat.min_le_left _ _) _) (hu d hd)
      have lt : ∀ f : Bool, ∀ (E : Value → Shared → Prop) (x y : Value) (a b : (dataKind s.heap ds).α) {Q : Bool → Shared → Prop},
          (dataKind s.heap ds).keyOf x = some a → (dataKind s.heap ds).keyOf y = some b → Q ((dataKind s.heap ds).blt a b) s → wpAny (model prog w) A (oneLt' f x y) Q E s := by
        intro f E x y a b Q ha hb hq
        obtain ⟨d, as, hd, ra, rfl⟩ := dataKind_inv ha
        obtain ⟨d', as', hd', rb, rfl⟩ := dataKind_inv hb
        have hdd := hal d hd d' hd'
        have hroom := room (d' := d') hd
        obtain ⟨x1, rfl⟩ := ht d hd
        obtain ⟨x2, rfl⟩ := ht d' hd'
        exact oneLt_tup ra rb hdd hroom hq
      have hkeys : ∀ v, v ∈ vs → ∃ a, (dataKind s.heap ds).keyOf v = some a := fun v hv => by
        obtain ⟨d, hd, as, r⟩ := e.left v hv
        exact ⟨_, dataKind_some hal hd r⟩
      have hT : ∀ (M : Model), ∀ v ∈ vs, Looks M s.heap (typeOf v) (.type "tuple") := fun M v hv => by
        obtain ⟨d, hd, as, r⟩ := e.left v hv
        obtain ⟨xs, rfl⟩ := ht d hd
        exact looks_reads r
      refine ⟨hkeys, ?_⟩
      match vs, ds, e with
      | [], [], _ => exact absurd (fun d hd => nomatch hd) hne
      | v0 :: vs, d0 :: ds, e =>
        have two : ∀ (M : Model) (A : Around) (κ : SortKind) (E : Value → Shared → Prop) {Q : SortKind → Shared → Prop}, ((∃ x r, d0 = .tuple (x :: r)) → κ = general') → ((¬ ∃ x r, d0 = .tuple (x :: r)) → κ = oneType') → Q κ s → wpAny M A (keyKind' (v0 :: vs).toArray) Q E s := by
          intro M A κ E Q k1 k2 hq
          rw [kat_kind_eq, List.mapM_toArray, map_eq_pure_bind]
          refine wpAny_bind (wpAny_bind (firsts_any e ht fun os ho => wpAny_pure ?_))
          have hall : ¬ ((os.toArray.all fun x => x.isSome) = true) := fun z => hne fun d hd => by
            obtain ⟨i, hi⟩ := List.getElem?_of_mem hd
            have hl := ho.length
            have hio : i < os.length := by
              rw [hl]
              exact (List.getElem?_eq_some_iff.mp hi).1
            have hz : (os[i], d) ∈ os.zip (d0 :: ds) := by
              refine List.mem_of_getElem? (i := i) ?_
              rw [List.getElem?_zip_eq_some]
              exact ⟨List.getElem?_eq_getElem hio, hi⟩
            refine (ho.zip _ hz).mp ?_
            simp only [List.all_toArray, List.all_eq_true] at z
            exact z _ (List.getElem_mem hio)
          rw [if_neg hall]
          cases ho with
          | @cons o d os' ds' h1 h2 =>
            by_cases hd0 : ∃ x r, d0 = .tuple (x :: r)
            · have hs : o.isSome = true := h1.mpr hd0
              have h0 : ((List.toArray (o :: os'))[0]?.bind id).isSome = true := by simpa using hs
              rw [if_pos h0]
              rw [k1 hd0] at hq
              exact wpAny_pure hq
            · have hs : ¬ o.isSome = true := fun z => hd0 (h1.mp z)
              have h0 : ¬ ((List.toArray (o :: os'))[0]?.bind id).isSome = true := by simpa using hs
              rw [if_neg h0]
              rw [oneTypeOnly'_eq, List.mapM_toArray, map_eq_pure_bind]
              refine wpAny_bind (wpAny_bind (wpAny_bind (kas_mapM (r := Value.type "tuple") _ (fun v hv Q' hq => (hT M v hv).here hq) (wpAny_pure ?_))))
              have hall2 : ((List.map (fun _ => Value.type "tuple") (v0 :: vs)).toArray.all fun x => x == Value.type "tuple") = true := by
                simp only [List.all_toArray, List.all_map, List.all_eq_true]
                intro _ _
                rfl
              have h02 : (List.map (fun _ => Value.type "tuple") (v0 :: vs)).toArray[0]? = some (Value.type "tuple") := by simp
              rw [h02]
              simp only [hall2, if_true]
              rw [k2 hd0] at hq
              exact wpAny_pure (wpAny_pure hq)
        by_cases hd0 : ∃ x r, d0 = .tuple (x :: r)
        · refine ⟨general', fun E x y a b Q ha hb hq => ?_, fun h2 E Q hq => two _ _ general' E (fun _ => rfl) (fun z => absurd hd0 z) hq⟩
          rw [kdl_general]
          exact lt false E x y a b ha hb hq
        · refine ⟨oneType', fun E x y a b Q ha hb hq => ?_, fun h2 E Q hq => two _ _ oneType' E (fun z => absurd z hd0) (fun _ => rfl) hq⟩
          rw [keyLt'_oneType]
          exact lt true E x y a b ha hb hq
  · exact SortsAt.data e hal (.inr hn) hu
theorem bound_map2 {β : Type} {enc : β → PyData} {bs : List β} {n : Nat} (hu : ∀ b, b ∈ bs → n + (enc b).depth < cLine) : ∀ d, d ∈ bs.map enc → n + d.depth < cLine := by
  intro d hd
  obtain ⟨b, hb, rfl⟩ := List.mem_map.mp hd
  exact hu b hb
theorem sorted_data2 {β : Type} {R : Value → β → Prop} {enc : β → PyData} {bs : List β} {vs : List Value} {l : Addr} {Q : Value → Shared → Prop} (hl : s.heap.IsList l vs.toArray) (e : EachIs R vs bs) (er : EachIs (fun v b => ∃ as, Reads s.heap v (enc b) as) vs bs) (hal : AllAlike (bs.map enc)) (hk : Sortable2 (bs.map enc)) (hL : bs.length ≤ sizeLine)
    (hu : ∀ b, b ∈ bs → A.units + 2 + (enc b).depth < cLine) (h : ∀ out, out.length = bs.length → EachIs R out (bs.mergeSort (dataLe false enc)) → Q (.ref (s.heap.objs.size + 1)) { s with heap := sortedAll s.heap vs (List.toArray out) }) :
    wpAny (model prog w) A (call (.builtin "sorted") [.ref l]) Q E s := by
  have er' : EachIs (fun v b => ∃ as, Reads (sortingHeap (copyHeap s.heap vs) (s.heap.objs.size + 1) vs) v (enc b) as) vs bs := er.mono fun _ _ ⟨as, r⟩ => ⟨as, PyProof.Rows.Reads.keeps (fun _ _ => sorting_copy_old) r⟩
  exact sorted_vals hl (sortsAt2 (s := { s with heap := sortingHeap (copyHeap s.heap vs) (s.heap.objs.size + 1) vs }) (each_map (R := fun v d => ∃ as, Reads (sortingHeap (copyHeap s.heap vs) (s.heap.objs.size + 1) vs) v d as) enc er') hal hk (bound_map2 hu)) (by rw [e.length]; exact hL)
    (h _ (by rw [sortVals_length false rfl]; exact e.length) (sortVals_data false e er' hal))
theorem list_sort_data2 {β : Type} {R : Value → β → Prop} {enc : β → PyData} {bs : List β} {vs : List Value} {a : Addr} {n : Nat} {Q : Value → Shared → Prop} (ho : s.heap.get? a = some (seqObj "list" vs.toArray n)) (e : EachIs R vs bs) (er : EachIs (fun v b => ∃ as, Reads s.heap v (enc b) as ∧ a ∉ as) vs bs) (hal : AllAlike (bs.map enc)) (hk : Sortable2 (bs.map enc)) (hL : bs.length ≤ sizeLine)
    (hu : ∀ b, b ∈ bs → A.units + 1 + (enc b).depth < cLine) (h : ∀ out, out.length = bs.length → EachIs R out (bs.mergeSort (dataLe false enc)) → Q .none { s with heap := sortedHeap s.heap a vs (List.toArray out) }) :
    wpAny (model prog w) A (call (.builtin "list.sort") [.ref a]) Q E s := by
  have er' : EachIs (fun v b => ∃ as, Reads (sortingHeap s.heap a vs) v (enc b) as) vs bs := each_keepBut (h' := sortingHeap s.heap a vs) (fun _ _ hb q => sortingHeap_old hb q) (fun o q => by rw [ho] at q; rw [← Option.some.inj q]) hal er
  refine wpAny_call_entry slot_list_sort ⟨_, ho, rfl⟩ entry_list_sort (list_sort_vals (κ := dataKind (sortingHeap s.heap a vs) (bs.map enc)) ho (sortsAt2 (s := { s with heap := sortingHeap s.heap a vs }) (each_map (R := fun v d => ∃ as, Reads (sortingHeap s.heap a vs) v d as) enc er') hal hk (bound_map2 hu)) (by rw [e.length]; exact hL) ⟨.none, rfl, ?_⟩) (args_list_sort _)
  exact h _ (by rw [sortVals_length false rfl]; exact e.length) (sortVals_data false e er' hal)
end
section
variable {X : Cx}
def rSortedDt (K : PySem.W.Frag) : List V → Hp → VK → Prop := fun xs H Q => ∃ (a : Addr) (us : List V) (ds : List PyData), xs = [.ref a] ∧ SqL K H a us ∧ DpAll K H us ds ∧ AllAlike ds ∧ Sortable2 ds ∧ (∀ d ∈ ds, d.depth ≤ 40) ∧
  ∀ p, H p = none → Q (.ref p) (upd H p (.lst (((us.zip ds).mergeSort (dataLe false fun z : V × PyData => z.2)).map fun z : V × PyData => z.1)))
theorem dpAll_len {K : PySem.W.Frag} {H : Hp} : ∀ {vs : List V} {ds : List PyData}, DpAll K H vs ds → vs.length = ds.length
  | _, _, .nil => rfl
  | _, _, .cons _ h => by simp [dpAll_len h]
theorem each_of {pins : List (Addr × Obj)} {σ : St} {H : Hp} {s : Shared} (I : Inv X pins σ H s) : ∀ {us : List V} {ds : List PyData} {its : List Value}, DpAll X.K H us ds → Vals us its →
    EachIs (fun v (z : V × PyData) => RelV z.1 v) its (us.zip ds) ∧ EachIs (fun v (z : V × PyData) => ∃ as, Reads s.heap v z.2 as) its (us.zip ds)
  | _, _, _, .nil, r => by
    cases r
    exact ⟨.nil, .nil⟩
  | _, _, _, .cons h1 h2, r => by
    cases r with
    | cons r1 r2 =>
      obtain ⟨a, b⟩ := each_of I h2 r2
      exact ⟨.cons r1 a, .cons (Dp.reads I _ _ _ h1 r1) b⟩
theorem vals_each : ∀ {out : List Value} {zs : List (V × PyData)}, EachIs (fun v (z : V × PyData) => RelV z.1 v) out zs → Vals (zs.map (·.1)) out
  | _, _, .nil => .nil
  | _, _, .cons h1 h2 => .cons h1 (vals_each h2)
theorem cr_sortedDt (hu : X.A.units + 64 < cLine) : CallR X (.builtin "sorted") (rSortedDt X.K) := by
  intro pins s σ H vs us Q I r h
  obtain ⟨a, ws, ds, rfl, hs, hd, hal, hsr, hdp, q⟩ := h
  obtain ⟨its, rv, hl, hz⟩ := I.list hs
  rw [Vals.ref1 r]
  obtain ⟨e1, e2⟩ := each_of I hd rv
  have el := dpAll_len hd
  have em : (ws.zip ds).map (·.2) = ds := List.map_snd_zip (by omega)
  have ez : (ws.zip ds).length = ws.length := by rw [List.length_zip]; omega
  refine sorted_data2 (enc := fun z : V × PyData => z.2) hl.isList e1 e2 (by rw [em]; exact hal) (by rw [em]; exact hsr) (by rw [ez]; exact hz) (fun b hb => ?_) fun out ho he => ?_
  · have hm : b.2 ∈ ds := by
      rw [← em]
      exact List.mem_map_of_mem hb
    have := hdp _ hm
    omega
  · obtain ⟨ep, he'⟩ := PyProof.Rows.sortedAll_at s.heap its out.toArray
    have hlen : (((ws.zip ds).mergeSort (dataLe false fun z => z.2)).map (·.1)).length ≤ sizeLine := by
      rw [List.length_map, List.length_mergeSort, ez]
      exact hz
    exact ⟨.ref _, upd H (s.heap.objs.size + 1) (.lst (((ws.zip ds).mergeSort (dataLe false fun z : V × PyData => z.2)).map fun z : V × PyData => z.1)), I.laid (t' := s.toks) (fun _ _ => PyProof.Rows.sortedAll_old) (Nat.le_succ _) ⟨hlen, out, ep, vals_each he, he'⟩, rfl, q _ (I.hok.fresh (Nat.le_succ _))⟩
end
section
variable {X : Cx} {K : PySem.W.Frag} {B : Bs} {lim : List Addr} {σ : St} {H : Hp} {g : Ev} {Φ : Its}
theorem toPL_cons {t : T} {ts : List T} {ds : List PyData} (h : toPL (t :: ts) = some ds) : ∃ d es, toP t = some d ∧ toPL ts = some es ∧ ds = d :: es := by
  simp only [toPL] at h
  cases h1 : toP t with
  | none => rw [h1] at h; cases h
  | some d =>
    cases h2 : toPL ts with
    | none => rw [h1, h2] at h; cases h
    | some es =>
      rw [h1, h2] at h
      cases h
      exact ⟨d, es, rfl, rfl, rfl⟩
theorem toPL_nil {ds : List PyData} (h : toPL [] = some ds) : ds = [] := by
  simp only [toPL, Option.some.injEq] at h
  exact h.symm
theorem toPL_mem : ∀ {ts : List T} {ds : List PyData} {i : Nat} {t : T}, toPL ts = some ds → ts[i]? = some t → ∃ d, toP t = some d ∧ ds[i]? = some d
  | [], _, _, _, _, e => by simp at e
  | t :: ts, ds, i, u, h, e => by
    obtain ⟨d, es, h1, h2, rfl⟩ := toPL_cons h
    cases i with
    | zero =>
      simp at e
      subst e
      exact ⟨d, h1, rfl⟩
    | succ i => exact toPL_mem (i := i) h2 (by simpa using e)
theorem RepG.dpAll : ∀ {vs : List V} {ts : List T} {ds : List PyData}, vs.length = ts.length → RepG K B lim σ H g (vs.zip ts ++ Φ) → toPL ts = some ds → DpAll K H vs ds
  | [], [], ds, _, _, e => by
    obtain rfl := toPL_nil e
    exact .nil
  | v :: vs, t :: ts, ds, hl, r, e => by
    have r' : RepG K B lim σ H g ((v, t) :: (vs.zip ts ++ Φ)) := r
    obtain ⟨d, es, h1, h2, rfl⟩ := toPL_cons e
    exact .cons (r'.dp h1) (RepG.dpAll (by simpa using hl) r'.dropT h2)
  | [], _ :: _, _, hl, _, _ => by simp at hl
  | _ :: _, [], _, hl, _, _ => by simp at hl
theorem toPL_len : ∀ {ts : List T} {ds : List PyData}, toPL ts = some ds → ts.length = ds.length
  | [], ds, e => by
    obtain rfl := toPL_nil e
    rfl
  | t :: ts, ds, e => by
    obtain ⟨d, es, h1, h2, rfl⟩ := toPL_cons e
    simp [toPL_len h2]
def SortOk {β : Type} (ts : List T) (bs : List β) (enc : β → T) (dat : β → PyData) (le : β → β → Bool) : Prop :=
  frzL ts = bs.map enc ∧ (∀ b ∈ bs, toP (enc b) = some (dat b)) ∧ AllAlike (bs.map dat) ∧ Sortable2 (bs.map dat) ∧ (∀ b ∈ bs, (dat b).depth ≤ 40) ∧ ∀ a ∈ bs, ∀ b ∈ bs, dataLe false dat a b = le a b
def rnSortedB : RNT := fun τs Q => match τs with
  | [.node _ .lst ts] => ∃ (β : Type) (bs : List β) (enc : β → T) (dat : β → PyData) (le : β → β → Bool), SortOk ts bs enc dat le ∧ Q (.node true .lst ((bs.mergeSort le).map enc))
  | _ => False
theorem toPL_enc {β : Type} {enc : β → T} {dat : β → PyData} : ∀ {bs : List β}, (∀ b ∈ bs, toP (enc b) = some (dat b)) → toPL (bs.map enc) = some (bs.map dat)
  | [], _ => by simp [toPL]
  | b :: bs, h => by
    simp only [List.map_cons, toPL]
    rw [h b List.mem_cons_self, toPL_enc fun c hc => h c (List.mem_cons_of_mem _ hc)]
    rfl
theorem zip_maps {α β γ : Type} (f : β → α) (h : β → γ) : ∀ (bs : List β), (bs.map f).zip (bs.map h) = bs.map fun b => (f b, h b)
  | [] => rfl
  | b :: bs => by simp [zip_maps f h bs]
theorem n_sortedB (hu : X.A.units + 64 < cLine) : CallN X (.builtin "sorted") (rSortedDt X.K) rnSortedB := by
  refine ⟨cr_sortedDt hu, fun B lim σ H g Φ vs τs Q hl r q => ?_, fun τs Q Q' h q => ?_⟩
  · unfold rnSortedB at q
    split at q
    · rename_i o ts
      obtain ⟨β, bs, enc, dat, le, ⟨e1, e2, e3, e4, e5, e6⟩, q⟩ := q
      match vs, hl with
      | [v], _ =>
        have r1 : RepG X.K B lim σ H g ((v, frz (.node o .lst ts)) :: Φ) := RepG.freezeT r
        have r2 : RepG X.K B lim σ H g ((v, .node false .lst (bs.map enc)) :: Φ) := by
          rw [frz_node, e1] at r1
          exact r1
        obtain ⟨a, us, rfl, hl2, hr, r3⟩ := r2.kids
        have ed := toPL_enc e2
        have hda := RepG.dpAll hl2 r3 ed
        have hlb : us.length = bs.length := by rw [hl2, List.length_map]
        refine ⟨a, us, bs.map dat, rfl, seqL hr, hda, e3, e4, fun d hd => ?_, fun p hp => q _ _ ?_⟩
        · obtain ⟨b, hb, rfl⟩ := List.mem_map.mp hd
          exact e5 b hb
        · have hz1 : (us.zip bs).map (·.1) = us := List.map_fst_zip (by omega)
          have hz2 : (us.zip bs).map (·.2) = bs := List.map_snd_zip (by omega)
          obtain ⟨zs, hzs⟩ : ∃ zs : List (V × β), zs = us.zip bs := ⟨_, rfl⟩
          rw [← hzs] at hz1 hz2
          have hm : ∀ z ∈ zs, z.2 ∈ bs := fun z h => by
            rw [← hz2]
            exact List.mem_map_of_mem h
          have ed2 : us.zip (bs.map dat) = zs.map fun z => (z.1, dat z.2) := by
            rw [← hz1, ← hz2, List.map_map, zip_maps]
            rfl
          have et2 : us.zip (bs.map enc) = zs.map fun z => (z.1, enc z.2) := by
            rw [← hz1, ← hz2, List.map_map, zip_maps]
            rfl
          have s1 : (zs.mergeSort fun x y => le x.2 y.2).map (fun z => (z.1, dat z.2)) = (us.zip (bs.map dat)).mergeSort (dataLe false fun z => z.2) := by
            rw [ed2]
            exact sort_maps _ fun x hx y hy => (e6 _ (hm x hx) _ (hm y hy)).symm
          have s2 : (zs.mergeSort fun x y => le x.2 y.2).map (·.2) = bs.mergeSort le := by
            rw [← hz2]
            exact sort_maps _ fun x hx y hy => rfl
          rw [← s1, ← s2, List.map_map, List.map_map]
          have e7 : ((fun z : V × PyData => z.1) ∘ fun z : V × β => (z.1, dat z.2)) = fun z : V × β => z.1 := rfl
          rw [e7]
          refine make_of .lst (by simp) ?_ hp
          have e8 : ((zs.mergeSort fun x y => le x.2 y.2).map (fun z : V × β => z.1)).zip ((zs.mergeSort fun x y => le x.2 y.2).map (enc ∘ fun z : V × β => z.2)) = (zs.mergeSort fun x y => le x.2 y.2).map fun z => (z.1, enc z.2) := by
            rw [zip_maps]
            rfl
          rw [e8]
          have r4 : RepG X.K B lim σ H g (us.zip (bs.map enc) ++ Φ) := (r3.perm List.perm_middle).dropT
          rw [et2] at r4
          exact r4.perm (List.Perm.append_right _ ((List.mergeSort_perm _ _).map _).symm)
    · exact q.elim
  · unfold rnSortedB at q ⊢
    split at q
    · obtain ⟨β, bs, enc, dat, le, e, q⟩ := q
      exact ⟨β, bs, enc, dat, le, e, h _ q⟩
    · exact q.elim
end
end DL
set_option Elab.async false
set_option linter.all false
set_option maxRecDepth 100000
set_option maxHeartbeats 4000000
namespace DL
open PySem L2
def flatI : List T → Option (List Int)
  | [] => some []
  | .leaf (.int i) :: r => (flatI r).map (i :: ·)
  | _ => none
theorem flatI_eq : ∀ {us : List T} {ns : List Int}, flatI us = some ns → us = intsT ns
  | [], _, e => by
    simp only [flatI, Option.some.injEq] at e
    subst e
    rfl
  | .leaf (.int i) :: r, ns, e => by
    simp only [flatI] at e
    cases h : flatI r with
    | none => rw [h] at e; cases e
    | some ms =>
      rw [h] at e
      cases e
      rw [flatI_eq h]
      rfl
  | .leaf .non :: _, _, e => by simp [flatI] at e
  | .leaf (.bl _) :: _, _, e => by simp [flatI] at e
  | .leaf (.str _) :: _, _, e => by simp [flatI] at e
  | .leaf (.ref _) :: _, _, e => by simp [flatI] at e
  | .leaf (.ty _) :: _, _, e => by simp [flatI] at e
  | .node _ _ _ :: _, _, e => by simp [flatI] at e
  | .pin _ _ :: _, _, e => by simp [flatI] at e
theorem flatI_ints : ∀ ns : List Int, flatI (intsT ns) = some ns
  | [] => rfl
  | n :: ns => by
    show (flatI (intsT ns)).map (n :: ·) = _
    rw [flatI_ints ns]
    rfl
abbrev ik (ns : List Int) : List Key := ns.map Sum.inl
theorem ik_kV (ns : List Int) : (ik ns).map kV = ns.map V.int := by
  rw [List.map_map]
  rfl
theorem ik_inj {a b : List Int} (h : ik a = ik b) : a = b := by
  have := congrArg (List.map fun k : Key => match k with | .inl i => i | .inr _ => 0) h
  simpa [ik, List.map_map, Function.comp_def] using this
section
variable {κ : Type} [DecidableEq κ]
def ixK : List κ → κ → Option Nat
  | [], _ => none
  | x :: ks, k => if x = k then some 0 else (ixK ks k).map (· + 1)
theorem ixK_lt : ∀ {ks : List κ} {k : κ} {j : Nat}, ixK ks k = some j → j < ks.length ∧ ks[j]? = some k
  | x :: ks, k, j, e => by
    unfold ixK at e
    split at e
    · cases e
      rename_i h
      exact ⟨Nat.succ_pos _, by simp [h]⟩
    · cases h : ixK ks k with
      | none => rw [h] at e; cases e
      | some i =>
        rw [h] at e
        cases e
        have := ixK_lt h
        exact ⟨Nat.succ_lt_succ this.1, by simpa using this.2⟩
theorem ixK_none : ∀ {ks : List κ} {k : κ}, ixK ks k = none ↔ k ∉ ks
  | [], k => by simp [ixK]
  | x :: ks, k => by
    unfold ixK
    by_cases h : x = k
    · rw [if_pos h]
      simp [h]
    · rw [if_neg h, Option.map_eq_none_iff, ixK_none, List.mem_cons]
      constructor
      · rintro a (b | b)
        · exact h b.symm
        · exact a b
      · exact fun a b => a (.inr b)
theorem val_ix : ∀ {ks : List κ} {vs : List V} {k : κ}, vs.length = ks.length → valV (ks.zip vs) k = (ixK ks k).bind (vs[·]?)
  | [], vs, k, _ => rfl
  | x :: ks, [], k, h => by simp at h
  | x :: ks, v :: vs, k, h => by
    rw [List.zip_cons_cons]
    unfold ixK
    by_cases e : x = k
    · rw [valV_pos (p := (x, v)) e, if_pos e]
      rfl
    · rw [valV_neg (p := (x, v)) e, if_neg e, val_ix (by simpa using h)]
      cases ixK ks k <;> rfl
theorem map_zip_set : ∀ {ks : List κ} {vs : List V} {k : κ} {v : V} {j : Nat}, vs.length = ks.length → ks.Nodup → ixK ks k = some j →
    (ks.zip vs).map (fun kv => if kv.1 = k then (kv.1, v) else kv) = ks.zip (vs.set j v)
  | x :: ks, [], _, _, _, h, _, _ => by simp at h
  | x :: ks, u :: vs, k, v, j, h, hn, e => by
    rw [List.nodup_cons] at hn
    unfold ixK at e
    by_cases c : x = k
    · rw [if_pos c] at e
      cases e
      rw [List.zip_cons_cons, List.map_cons, if_pos c, List.set_cons_zero, List.zip_cons_cons]
      congr 1
      have : ∀ p ∈ ks.zip vs, (if p.1 = k then (p.1, v) else p) = p := fun p hp => if_neg fun z => hn.1 (by
        rw [c, ← z]
        exact (List.of_mem_zip hp).1)
      rw [List.map_congr_left this, List.map_id']
    · rw [if_neg c] at e
      cases h2 : ixK ks k with
      | none => rw [h2] at e; cases e
      | some i =>
        rw [h2] at e
        cases e
        rw [List.zip_cons_cons, List.map_cons, if_neg c, List.set_cons_succ, List.zip_cons_cons, map_zip_set (by simpa using h) hn.2 h2]
theorem put_ix {ks : List κ} {vs : List V} {k : κ} {v : V} (h : vs.length = ks.length) (hn : ks.Nodup) :
    putK (ks.zip vs) k v = match ixK ks k with | some j => ks.zip (vs.set j v) | none => (ks ++ [k]).zip (vs ++ [v]) := by
  have hv := val_ix (k := k) h
  cases e : ixK ks k with
  | none =>
    rw [e] at hv
    rw [putK_new v hv]
    show _ = (ks ++ [k]).zip (vs ++ [v])
    rw [List.zip_append h.symm]
    rfl
  | some j =>
    rw [e] at hv
    have hj := (ixK_lt e).1
    have hs : valV (ks.zip vs) k = some (vs[j]'(by omega)) := by
      rw [hv]
      simp [show j < vs.length by omega]
    unfold putK
    rw [valV_any, hs, if_pos (show (some _).isSome = true from rfl)]
    exact map_zip_set h hn e
end
section
variable {K : PySem.W.Frag} {B : Bs} {lim : List Addr} {σ : St} {H : Hp} {g : Ev} {Φ : Its}
theorem ownL_flat {F : Addr → Prop} : ∀ {ws us : List V} {fp : List Addr}, OwnL K F H us (ws.map .leaf) fp → us = ws
  | [], _, _, h => by cases h; rfl
  | w :: ws, _, _, h => by
    cases h with
    | cons h1 h2 =>
      cases h1
      rw [ownL_flat h2]
theorem leaf_inj {a b : List V} (h : a.map T.leaf = b.map T.leaf) : a = b := by
  have := congrArg (List.map fun t : T => match t with | .leaf v => v | _ => .non) h
  simpa [List.map_map, Function.comp_def] using this
theorem RepG.keyH {v : V} {o : Bool} {us : List T} {ns : List Int} (h : RepG K B lim σ H g ((v, .node o .tup us) :: Φ)) (e : flatI us = some ns) (hz : ns ≠ [0, 1]) : ∃ b, v = .ref b ∧ H b = some (.tup ((ik ns).map kV)) := by
  obtain rfl := flatI_eq e
  rw [intsT_eq] at h
  rw [ik_kV]
  obtain ⟨F, zs, fp, en, oz, f, hl⟩ := h
  obtain ⟨fp', pf, o'⟩ := oz.perm (List.perm_middle (a := (v, T.node o .tup ((ns.map V.int).map .leaf))))
  obtain ⟨f1, f2, rfl, p1, o2⟩ := OwnZ.uncons (zs := zs ++ Φ) o'
  cases p1 with
  | fz hf hr hk =>
    obtain rfl := ownL_flat hk
    exact ⟨_, rfl, hr⟩
  | own hr hk =>
    obtain rfl := ownL_flat hk
    exact ⟨_, rfl, hr⟩
  | tk hr hk =>
    obtain rfl := ownL_flat hk
    exact ⟨_, rfl, hr⟩
  | kz hc hok hk =>
    obtain rfl := ownL_flat hk
    rcases hok with z | ⟨x, r, z⟩
    · refine absurd ?_ hz
      have h2 : ns.map V.int = ([0, 1] : List Int).map V.int := z
      exact List.map_inj_right (fun a b h => V.int.inj h) |>.mp h2
    · cases ns with
      | nil => cases z
      | cons n ns => cases z
theorem RepG.tupI {b : Addr} {ns : List Int} (h : RepG K B lim σ H g Φ) (e : H b = some (.tup ((ik ns).map kV))) : RepG K B lim σ H g ((.ref b, .node false .tup (intsT ns)) :: Φ) := by
  obtain ⟨F, zs, fp, en, oz, f, hl⟩ := h
  refine rep_items (ds := []) en (OwnZ.cons (fp := []) (.tk e (by rw [ik_kV, intsT_eq]; exact ownL_leaves _)) oz) f hl List.perm_middle.symm
def rtDGet (τd τk : T) (Q : Option T → Prop) : Prop := match τd, τk with
  | .node _ (.dT ks) ts, .node _ .tup us => ∃ ns, flatI us = some ns ∧ ns ≠ [0, 1] ∧ ts.length = ks.length ∧ Q ((ixK ks (ik ns)).bind (ts[·]?))
  | .node _ (.dK ks) ts, .leaf (.int i) => ts.length = ks.length ∧ Q ((ixK ks (.inl i)).bind (ts[·]?))
  | .node _ (.dK ks) ts, .leaf (.str x) => ts.length = ks.length ∧ Q ((ixK ks (.inr x)).bind (ts[·]?))
  | _, _ => False
theorem rtDGet_mono {τd τk : T} {Q Q' : Option T → Prop} (h : ∀ r, Q r → Q' r) (q : rtDGet τd τk Q) : rtDGet τd τk Q' := by
  unfold rtDGet at q ⊢
  split at q
  · obtain ⟨ns, e, z, l, q⟩ := q
    exact ⟨ns, e, z, l, h _ q⟩
  · exact ⟨q.1, h _ q.2⟩
  · exact ⟨q.1, h _ q.2⟩
  · exact q.elim
theorem dget_of {a : Addr} {y : V} {o : Bool} {s : Sh} {ts : List T} {τk : T} {Q : Option T → Prop} (rk : RepG K B lim σ H g ((y, τk) :: Φ)) (q : rtDGet (.node o s ts) τk Q) :
    ∃ r : Option Nat, (∀ us : List V, us.length = ts.length → Rd H a (s.mk a us) → DGet H a y (r.bind (us[·]?))) ∧ (∀ j, r = some j → j < ts.length) ∧ Q (r.bind (ts[·]?)) := by
  unfold rtDGet at q
  split at q
  · rename_i ks ts' us' e1
    cases e1
    obtain ⟨ns, e, hz, l, q⟩ := q
    obtain ⟨b, rfl, hb⟩ := rk.keyH e hz
    refine ⟨_, fun us hl ha => ?_, fun j e => by rw [l]; exact (ixK_lt e).1, q⟩
    rw [← val_ix (by rw [hl, l])]
    exact .inr ⟨_, _, b, ha, rfl, hb, rfl⟩
  · rename_i ks ts' i e1
    cases e1
    obtain rfl := rk.leaf
    refine ⟨_, fun us hl ha => ?_, fun j e => by rw [q.1]; exact (ixK_lt e).1, q.2⟩
    rw [← val_ix (by rw [hl, q.1])]
    exact .inl ⟨_, .inl i, ha, rfl, rfl⟩
  · rename_i ks ts' z e1
    cases e1
    obtain rfl := rk.leaf
    refine ⟨_, fun us hl ha => ?_, fun j e => by rw [q.1]; exact (ixK_lt e).1, q.2⟩
    rw [← val_ix (by rw [hl, q.1])]
    exact .inl ⟨_, .inr z, ha, rfl, rfl⟩
  · exact q.elim
def isDct : T → Prop
  | .node _ (.dT _) _ => True
  | .node _ (.dK _) _ => True
  | _ => False
theorem isDct_of {τ : T} (h : isDct τ) : ∃ o s ts, τ = .node o s ts ∧ s ≠ .tup ∧ ∀ H a us, Rd H a (s.mk a us) → IsD H a := by
  unfold isDct at h
  split at h
  · exact ⟨_, _, _, rfl, (fun z => by cases z), fun H a us h => .inr ⟨_, h⟩⟩
  · exact ⟨_, _, _, rfl, (fun z => by cases z), fun H a us h => .inl ⟨_, h⟩⟩
  · exact h.elim
end
section
variable {X : Cx} {W : WX} {m : Nat → Bool} {o e f value : Expr} {td tk tx tv : DTE} {pos pos' apos cpos : Pos}
def xDGet (td tk : DTE) : DTE := fun g Q E => td g (fun τd g1 => tk g1 (fun τk g2 => rtDGet (frz τd) τk fun r => ∃ t, r = some t ∧ Q t g2) E) E
theorem dget_val {K : PySem.W.Frag} {B : Bs} {lim : List Addr} {σ : St} {H : Hp} {g : Ev} {Φ : Its} {x y : V} {τd τk : T} {Q : Option T → Prop} (r : RepG K B lim σ H g ((y, τk) :: (x, τd) :: Φ)) (q : rtDGet (frz τd) τk Q) :
    ∃ (a : Addr) (ro : Option V) (rt : Option T), x = .ref a ∧ DGet H a y ro ∧ Q rt ∧ (∀ t, rt = some t → ∃ v, ro = some v ∧ RepG K B lim σ H g ((v, t) :: Φ)) ∧ (rt = none → ro = none) := by
  have r1 : RepG K B lim σ H g ((x, frz τd) :: (y, τk) :: Φ) := (r.perm (List.Perm.swap _ _ _)).freezeT
  obtain ⟨o, s, ts, hd, hs⟩ : ∃ o s ts, frz τd = .node o s ts ∧ s ≠ .tup := by
    unfold rtDGet at q
    split at q
    · rename_i e
      exact ⟨_, _, _, e, fun z => by cases z⟩
    · rename_i e
      exact ⟨_, _, _, e, fun z => by cases z⟩
    · rename_i e
      exact ⟨_, _, _, e, fun z => by cases z⟩
    · exact q.elim
  have ho : o = false ∧ frzL ts = ts := by
    have := frz_frz τd
    rw [hd, frz_node] at this
    injection this with h1 h2 h3
    exact ⟨h1.symm, h3⟩
  rw [hd] at r1 q
  obtain ⟨rfl, hf⟩ := ho
  obtain ⟨a, us, rfl, hl, hr, r2⟩ := r1.kidsH hs
  have rk : RepG K B lim σ H g ((y, τk) :: Φ) := r1.dropT
  obtain ⟨j, hg, hj, q⟩ := dget_of (a := a) rk q
  refine ⟨a, _, _, rfl, hg us hl (.inl hr), q, fun t ht => ?_, fun hn => ?_⟩
  · cases j with
    | none => cases ht
    | some j =>
      have htj : ts[j]? = some t := ht
      obtain ⟨v, hv, hz⟩ := zip_get hl htj
      refine ⟨v, hv, ?_⟩
      exact RepG.subs (zs := [(v, t), (V.ref a, T.node false s ts), (y, τk)]) (ys := [(v, t)]) (List.Sublist.cons_cons _ (List.nil_sublist _)) (r2.one hz)
  · cases j with
    | none => rfl
    | some j =>
      have := hj j rfl
      have hn : ts[j]? = none := hn
      rw [List.getElem?_eq_none_iff] at hn
      omega
theorem d_dget (hu : X.A.units + 1 < cLine) (ho : DE X W o td) (hi : DE X W e tk) (hs : NoSl e := by intro _ _; rfl) : DE X W (.Subscript o e pos) (xDGet td tk) := by
  refine ⟨fun B => PE.imp (pe_dget hu (ho.run B) (hi.run B) hs) fun σ H Q ⟨Φ, lim, g, E, r, hx, q⟩ => ?_, fun g Q Q' E E' hq hE q => ?_⟩
  · refine lift2 (R' := fun τd τk g2 => rtDGet (frz τd) τk fun r => ∃ t, r = some t ∧ ∀ v H', RepG X.K B lim σ H' g2 ((v, t) :: Φ) → Q v H') r hx hi.mono ho.mono q fun v1 v2 τ1 τ2 g2 H2 r2 q2 => ?_
    obtain ⟨a, ro, rt, rfl, hg, ⟨t, ht, q3⟩, h1, h2⟩ := dget_val r2 q2
    obtain ⟨v, rfl, r3⟩ := h1 t ht
    exact ⟨a, v, rfl, hg, q3 _ _ r3⟩
  · exact ho.mono _ _ _ _ _ (fun τ1 g1 q1 => hi.mono _ _ _ _ _ (fun τ2 g2 q2 => rtDGet_mono (fun r ⟨t, e, z⟩ => ⟨t, e, hq _ _ z⟩) q2) hE q1) hE q
def xDGet2 (td tk tx : DTE) : DTE := fun g Q E => td g (fun τd g1 => isDct (frz τd) ∧ tk g1 (fun τk g2 => tx g2 (fun τx g3 => rtDGet (frz τd) τk fun r => match r with | some t => Q t g3 | none => Q τx g3) E) E) E
theorem d_dget2 (hu : X.A.units + 1 < cLine) (ho : DE X W o td) (he : DE X W e tk) (hf : DE X W f tx) (m : M2 X o "get" apos e f cpos) : DE X W (.Call (.Attribute o "get" apos) [e, f] [] cpos) (xDGet2 td tk tx) := by
  refine ⟨fun B => PE.imp (pe_dget2 hu (ho.run B) (he.run B) (hf.run B) m) fun σ H Q ⟨Φ, lim, g, E, r, hx, q⟩ => ?_, fun g Q Q' E E' hq hE q => ?_⟩
  · refine ⟨Φ, lim, g, E, r, hx, ho.mono _ _ _ _ _ (fun τd g1 ⟨hd, q1⟩ x H1 r1 => ?_) (fun _ _ _ z => z) q⟩
    have r1' := r1.freezeT
    obtain ⟨o, s, ts, hn, hs, hI⟩ := isDct_of hd
    have ho : o = false := by
      have := frz_frz τd
      rw [hn, frz_node] at this
      injection this with h1 h2 h3
      exact h1.symm
    subst ho
    rw [hn] at r1'
    obtain ⟨a, us, rfl, hl, hr, _⟩ := r1'.kidsH hs
    refine ⟨a, rfl, hI _ _ _ (.inl hr), _, lim, g1, E, r1', hx, he.mono _ _ _ _ _ (fun τk g2 q2 y H2 r2 => ?_) (fun _ _ _ z => z) q1⟩
    refine ⟨_, lim, g2, E, r2, hx, hf.mono _ _ _ _ _ (fun τx g3 q3 z H3 r3 => ?_) (fun _ _ _ z => z) q2⟩
    have r4 : RepG X.K B lim σ H3 g3 ((y, τk) :: (V.ref a, frz τd) :: (z, τx) :: Φ) := by
      rw [hn]
      refine r3.perm ?_
      exact (List.perm_middle (l₁ := [(y, τk), (V.ref a, T.node false s ts)])).symm
    rw [← frz_frz τd] at q3
    obtain ⟨a', ro, rt, e, hg, q4, h1, h2⟩ := dget_val r4 q3
    cases e
    refine ⟨ro, hg, ?_⟩
    cases rt with
    | none =>
      rw [h2 rfl]
      exact q4 z H3 (RepG.dropT (RepG.dropT r4))
    | some t =>
      obtain ⟨v, rfl, r5⟩ := h1 t rfl
      refine q4 v H3 ?_
      exact RepG.subs (zs := [(v, t), (z, τx)]) (ys := [(v, t)]) (List.Sublist.cons_cons _ (List.nil_sublist _)) r5
  · exact ho.mono _ _ _ _ _ (fun τ1 g1 ⟨hd, q1⟩ => ⟨hd, he.mono _ _ _ _ _ (fun τ2 g2 q2 => hf.mono _ _ _ _ _ (fun τ3 g3 q3 => rtDGet_mono (fun r z => by cases r <;> exact hq _ _ z) q3) hE q2) hE q1⟩) hE q
def isDctO : T → Prop
  | .node true (.dT _) _ => True
  | .node true (.dK _) _ => True
  | _ => False
theorem isDctO_of {τ : T} (h : isDctO τ) : ∃ s ts, τ = .node true s ts ∧ s ≠ .tup ∧ ∀ H a us, Rd H a (s.mk a us) → IsD H a := by
  unfold isDctO at h
  split at h
  · exact ⟨_, _, rfl, (fun z => by cases z), fun H a us h => .inr ⟨_, h⟩⟩
  · exact ⟨_, _, rfl, (fun z => by cases z), fun H a us h => .inl ⟨_, h⟩⟩
  · exact h.elim
theorem dget_slot {K : PySem.W.Frag} {B : Bs} {lim : List Addr} {σ : St} {H : Hp} {g : Ev} {Φ : Its} {y : V} {t0 τk : T} {i : Nat} {Q : Option T → Prop} (r : RepG K B lim σ H g ((y, τk) :: Φ)) (h0 : g[i]? = some (some t0)) (hd : isDctO t0) (q : rtDGet t0 τk Q) :
    ∃ (a : Addr) (ro : Option V) (rt : Option T), σ[i]? = some (some (.ref a)) ∧ DGet H a y ro ∧ Q rt ∧ (∀ t, rt = some t → frz t = t → ∃ v, ro = some v ∧ RepG K B lim σ H g ((v, t) :: (y, τk) :: Φ)) ∧ (rt = none → ro = none) := by
  obtain ⟨s, ts, rfl, hs, hI⟩ := isDctO_of hd
  obtain ⟨a, us, hv, hl, ha, _⟩ := r.renew (s' := s) h0 hs
  obtain ⟨j, hg, hj, q⟩ := dget_of (a := a) r q
  cases j with
  | none => exact ⟨a, none, none, hv, hg us hl (.inl ha), q, (fun t ht => nomatch ht), fun _ => rfl⟩
  | some j =>
    have hlt := hj j rfl
    obtain ⟨a2, us2, x, hv2, hl2, ha2, hx, r2⟩ := r.partO h0 (List.getElem?_eq_getElem hlt)
    rw [hv] at hv2
    cases hv2
    refine ⟨a, _, _, hv, hg us2 hl2 (.inl ha2), q, fun t ht hf => ?_, fun hn => ?_⟩
    · have htj : ts[j]? = some t := ht
      have e0 : ts[j] = t := by
        rw [List.getElem?_eq_getElem hlt] at htj
        exact Option.some.inj htj
      refine ⟨x, hx, ?_⟩
      rw [e0, hf] at r2
      have e1 : g.set i (some (.node true s (ts.set j t))) = g := by
        rw [set_at htj, set_at h0]
      rw [e1] at r2
      exact r2
    · have hn : ts[j]? = none := hn
      rw [List.getElem?_eq_none_iff] at hn
      omega
def xDGetO (i : Nat) (tk : DTE) : DTE := fun g Q E => atSlot i g fun _ => tk g (fun τk g1 => atSlot i g1 fun t0 => isDctO t0 ∧ rtDGet t0 τk fun r => ∃ t, r = some t ∧ frz t = t ∧ Q t g1) E
theorem d_dgetO (i : Nat) (hu : X.A.units + 1 < cLine) (ho : PE X o (tVar i)) (hi : DE X W e tk) (hs : NoSl e := by intro _ _; rfl) : DE X W (.Subscript o e pos) (xDGetO i tk) := by
  refine ⟨fun B => PE.imp (pe_dget hu ho (hi.run B) hs) fun σ H Q ⟨Φ, lim, g, E, r, hx, q⟩ => ?_, fun g Q Q' E E' hq hE q => ?_⟩
  · obtain ⟨t0, h0, q⟩ := atSlot_of q
    obtain ⟨v0, hv0⟩ := r.slot h0
    refine ⟨v0, hv0, Φ, lim, g, E, r, hx, hi.mono _ _ _ _ _ (fun τk g1 q1 y H1 r1 => ?_) (fun _ _ _ z => z) q⟩
    obtain ⟨t1, h1, hd, q1⟩ := atSlot_of q1
    obtain ⟨a, ro, rt, hv, hg, ⟨t, ht, hf, q2⟩, e1, e2⟩ := dget_slot r1 h1 hd q1
    rw [hv0] at hv
    cases hv
    obtain ⟨v, rfl, r3⟩ := e1 t ht hf
    exact ⟨a, v, rfl, hg, q2 _ _ (RepG.subs (zs := [(v, t), (y, τk)]) (ys := [(v, t)]) (List.Sublist.cons_cons _ (List.nil_sublist _)) r3)⟩
  · exact atSlot_mono (fun _ q => hi.mono _ _ _ _ _ (fun τk g1 q1 => atSlot_mono (fun t0 q2 => ⟨q2.1, rtDGet_mono (fun r ⟨t, e, f, z⟩ => ⟨t, e, f, hq _ _ z⟩) q2.2⟩) q1) hE q) q
def xDGet2O (i : Nat) (tk tx : DTE) : DTE := fun g Q E => atSlot i g fun t => isDctO t ∧ tk g (fun τk g1 => tx g1 (fun τx g2 => atSlot i g2 fun t0 => isDctO t0 ∧ rtDGet t0 τk fun r => match r with | some t => frz t = t ∧ Q t g2 | none => Q τx g2) E) E
theorem d_dget2O (i : Nat) (hu : X.A.units + 1 < cLine) (ho : PE X o (tVar i)) (he : DE X W e tk) (hf : DE X W f tx) (m : M2 X o "get" apos e f cpos) : DE X W (.Call (.Attribute o "get" apos) [e, f] [] cpos) (xDGet2O i tk tx) := by
  refine ⟨fun B => PE.imp (pe_dget2 hu ho (he.run B) (hf.run B) m) fun σ H Q ⟨Φ, lim, g, E, r, hx, q⟩ => ?_, fun g Q Q' E E' hq hE q => ?_⟩
  · obtain ⟨t0, h0, hd0, q⟩ := atSlot_of q
    obtain ⟨s, ts, rfl, hs, hI⟩ := isDctO_of hd0
    obtain ⟨a, us, hv0, hl, ha, _⟩ := r.renew (s' := s) h0 hs
    refine ⟨_, hv0, a, rfl, hI _ _ _ (.inl ha), Φ, lim, g, E, r, hx, he.mono _ _ _ _ _ (fun τk g1 q1 y H1 r1 => ?_) (fun _ _ _ z => z) q⟩
    refine ⟨_, lim, g1, E, r1, hx, hf.mono _ _ _ _ _ (fun τx g2 q2 z H2 r2 => ?_) (fun _ _ _ z => z) q1⟩
    obtain ⟨t1, h1, hd, q2⟩ := atSlot_of q2
    have r3 : RepG X.K B lim σ H2 g2 ((y, τk) :: (z, τx) :: Φ) := r2.perm (List.Perm.swap _ _ _)
    obtain ⟨a', ro, rt, hv, hg, q3, e1, e2⟩ := dget_slot r3 h1 hd q2
    rw [hv0] at hv
    cases hv
    refine ⟨ro, hg, ?_⟩
    cases rt with
    | none =>
      rw [e2 rfl]
      exact q3 z H2 r3.dropT
    | some t =>
      obtain ⟨v, rfl, r4⟩ := e1 t rfl q3.1
      exact q3.2 v H2 (RepG.subs (zs := [(v, t), (y, τk), (z, τx)]) (ys := [(v, t)]) (List.Sublist.cons_cons _ (List.nil_sublist _)) r4)
  · exact atSlot_mono (fun _ q => ⟨q.1, he.mono _ _ _ _ _ (fun τk g1 q1 => hf.mono _ _ _ _ _ (fun τx g2 q2 => atSlot_mono (fun t0 q3 => ⟨q3.1, rtDGet_mono (fun r z => by
      cases r with
      | none => exact hq _ _ z
      | some t => exact ⟨z.1, hq _ _ z.2⟩) q3.2⟩) q2) hE q1) hE q.2⟩) q
def putT {κ : Type} [DecidableEq κ] (mk : List κ → Sh) (ks : List κ) (ts : List T) (k : κ) (τ : T) : T := match ixK ks k with
  | some j => .node true (mk ks) (ts.set j τ)
  | none => .node true (mk (ks ++ [k])) (ts ++ [τ])
def rtDPut (τd τk τ : T) (Q : T → Prop) : Prop := match τd, τk with
  | .node true (.dT ks) ts, .node _ .tup us => ∃ ns, flatI us = some ns ∧ ns ≠ [0, 1] ∧ ks.Nodup ∧ ts.length = ks.length ∧ ks.length < sizeLine ∧ Q (putT .dT ks ts (ik ns) τ)
  | .node true (.dK ks) ts, .leaf (.int i) => ks.Nodup ∧ ts.length = ks.length ∧ ks.length < sizeLine ∧ Q (putT .dK ks ts (.inl i) τ)
  | .node true (.dK ks) ts, .leaf (.str x) => ks.Nodup ∧ ts.length = ks.length ∧ ks.length < sizeLine ∧ Q (putT .dK ks ts (.inr x) τ)
  | _, _ => False
theorem rtDPut_mono {τd τk τ : T} {Q Q' : T → Prop} (h : ∀ r, Q r → Q' r) (q : rtDPut τd τk τ Q) : rtDPut τd τk τ Q' := by
  unfold rtDPut at q ⊢
  split at q
  · obtain ⟨ns, e, z, n, l, s, q⟩ := q
    exact ⟨ns, e, z, n, l, s, h _ q⟩
  · exact ⟨q.1, q.2.1, q.2.2.1, h _ q.2.2.2⟩
  · exact ⟨q.1, q.2.1, q.2.2.1, h _ q.2.2.2⟩
  · exact q.elim
theorem put_slot {κ : Type} [DecidableEq κ] {K : PySem.W.Frag} {B : Bs} {lim : List Addr} {σ : St} {H : Hp} {g : Ev} {Φ : Its} {mk : List κ → Sh} {hk : List (κ × V) → HO} {ks : List κ} {ts : List T} {i : Nat} {k : κ} {w : V} {τ : T} (hm : ∀ ks a vs, (mk ks).mk a vs = hk (ks.zip vs)) (hnt : ∀ ks, mk ks ≠ .tup)
    (h : RepG K B lim σ H g ((w, τ) :: Φ)) (h0 : g[i]? = some (some (.node true (mk ks) ts))) (hn : ks.Nodup) (hl : ts.length = ks.length) :
    ∃ (a : Addr) (us : List V), σ[i]? = some (some (.ref a)) ∧ us.length = ks.length ∧ H a = some (hk (ks.zip us)) ∧ RepG K B lim σ (upd H a (hk (putK (ks.zip us) k w))) (g.set i (some (putT mk ks ts k τ))) Φ := by
  cases e : ixK ks k with
  | none =>
    obtain ⟨ad, us, hv, hl2, hH, kk⟩ := h.renew (s' := mk (ks ++ [k])) h0 (hnt ks)
    have hlu : us.length = ks.length := by rw [hl2, hl]
    refine ⟨ad, us, hv, hlu, by rw [hH, hm], ?_⟩
    rw [put_ix hlu hn]
    unfold putT
    rw [e]
    have r5 := kk (us.zip ts ++ [(w, τ)]) Φ (by rw [List.append_assoc]; exact List.Perm.refl _)
    have e1 : ((us.zip ts ++ [(w, τ)]).map (·.1)) = us ++ [w] := by
      rw [List.map_append, List.map_fst_zip (by omega)]
      rfl
    have e2 : ((us.zip ts ++ [(w, τ)]).map (·.2)) = ts ++ [τ] := by
      rw [List.map_append, List.map_snd_zip (by omega)]
      rfl
    rw [e1, e2, hm] at r5
    exact r5
  | some j =>
    have hj := (ixK_lt e).1
    obtain ⟨ad, us, hv, hl2, hH, r⟩ := h.setO h0 (j := j) (by omega) (hnt ks)
    have hlu : us.length = ks.length := by rw [hl2, hl]
    refine ⟨ad, us, hv, hlu, by rw [hH, hm], ?_⟩
    rw [put_ix hlu hn]
    unfold putT
    rw [e]
    rw [hm] at r
    exact r
def sDPutO (i : Nat) (tk tv : DTE) : DTS := fun D g => tv g (fun τv g1 => atSlot i g1 fun _ => tk g1 (fun τk g2 => atSlot i g2 fun t0 => rtDPut t0 τk τv fun t1 => D.nx (g2.set i (some t1))) D.ex) D.ex
theorem ds_dput (i : Nat) (hu : X.A.units + 1 < cLine) (ho : PE X o (tVar i)) (hi : DE X W e tk) (hv : DE X W value tv) (hs : swapsWith value (some (.Subscript o e pos')) pos.line X.env = pure false := by rfl) :
    DS X W m (.Assign [.Subscript o e pos'] value pos) (sDPutO i tk tv) := by
  refine .mk' (fun B σ0 => ps_dput hu ho (hi.run B) (hv.run B) hs) (fun B σ0 D σ H Φ lim g E r hk hX q => ?_) fun D D' g h q => ?_
  · refine ⟨Φ, lim, g, E, r, hX σ hk, hv.mono _ _ _ _ _ (fun τv g1 q1 w H1 r1 => ?_) (fun _ _ _ z => z) q⟩
    obtain ⟨t0, h0, q1⟩ := atSlot_of q1
    obtain ⟨v0, hv0⟩ := r1.slot h0
    refine ⟨v0, hv0, _, lim, g1, E, r1, hX σ hk, hi.mono _ _ _ _ _ (fun τk g2 q2 y H2 r2 => ?_) (fun _ _ _ z => z) q1⟩
    obtain ⟨t1, h1, q2⟩ := atSlot_of q2
    have rv : RepG X.K B lim σ H2 g2 ((w, τv) :: Φ) := r2.dropT
    unfold rtDPut at q2
    split at q2
    · obtain ⟨ns, e, z, n, l, sz, q2⟩ := q2
      obtain ⟨b, rfl, hb⟩ := r2.keyH e z
      obtain ⟨a, us, ha, hlu, hH, r3⟩ := put_slot (hk := HO.dT) (fun _ _ _ => rfl) (fun _ z => by cases z) rv h1 (k := ik ns) n l
      rw [hv0] at ha
      cases ha
      exact ⟨a, _, rfl, .inr ⟨_, ik ns, b, hH, rfl, hb, by rw [List.length_zip]; omega, rfl⟩, q2 _ _ r3 hk⟩
    · rename_i ks ts j _
      obtain rfl := r2.leaf
      obtain ⟨a, us, ha, hlu, hH, r3⟩ := put_slot (hk := HO.dK) (fun _ _ _ => rfl) (fun _ z => by cases z) rv h1 (k := .inl j) q2.1 q2.2.1
      rw [hv0] at ha
      cases ha
      exact ⟨a, _, rfl, .inl ⟨_, .inl j, hH, rfl, by rw [List.length_zip]; omega, rfl⟩, q2.2.2.2 _ _ r3 hk⟩
    · rename_i ks ts z _
      obtain rfl := r2.leaf
      obtain ⟨a, us, ha, hlu, hH, r3⟩ := put_slot (hk := HO.dK) (fun _ _ _ => rfl) (fun _ z => by cases z) rv h1 (k := .inr z) q2.1 q2.2.1
      rw [hv0] at ha
      cases ha
      exact ⟨a, _, rfl, .inl ⟨_, .inr z, hH, rfl, by rw [List.length_zip]; omega, rfl⟩, q2.2.2.2 _ _ r3 hk⟩
    · exact q2.elim
  · exact hv.mono _ _ _ _ _ (fun τv g1 q1 => atSlot_mono (fun _ q2 => hi.mono _ _ _ _ _ (fun τk g2 q3 => atSlot_mono (fun t0 q4 => rtDPut_mono (fun t1 q5 => h.nx _ q5) q4) q3) h.ex q2) q1) h.ex q
def xDictT0 : DTE := fun g Q _ => Q (.node true (.dT []) []) g
theorem d_dictT0 : DE X W (.Dict [] [] pos) xDictT0 := by
  refine ⟨fun B => PE.imp pe_dnewT fun σ H Q ⟨Φ, lim, g, E, r, hx, q⟩ => ?_, fun g Q Q' E E' hq hE q => hq _ _ q⟩
  exact fun d hd => q _ _ (make_of (.dT []) (vs := []) (τs := []) rfl r hd)
end
end DL
set_option Elab.async false
set_option linter.all false
set_option maxRecDepth 100000
set_option maxHeartbeats 4000000
namespace DL
open PySem L2
section
open PyProof.Rows PySem.W _root_.DT
variable {prog : Program} {w : World} {A : Around} {E : Value → Shared → Prop} {s : Shared} {r d : Addr} {es : Array DictEntry} {ep : Nat}
theorem list_init_items {R : Result → Shared → Prop} (hh : A.handled = none) (hv : s.heap.IsItemsView r d) (hm : Raw s.heap d es ep) (S : Addr) (hSr : S ≠ r) (hSd : d ≠ S) (hS : s.heap.get? S = some { cls := .type "list", data := .seq #[] })
    (hR : ∀ h' tk acc c as, (∀ b o, b ≠ S → s.heap.get? b = some o → h'.get? b = some o) → h'.get? S = some { cls := .type "list", dict := none, data := .seq acc c, slots := #[] } → as.length = es.size → Made es S h' as →
      acc.toList = as.map Value.ref → R (.ok (.ret .none)) { s with heap := h', toks := tk }) (hn : es.size ≤ sizeLine) :
    wpAny (model prog w) A.in1 (Builtin.«list.__init__» ⟨[.ref S, .ref r], []⟩)
      (fun fin s' => match fin with | .done f => R (.ok f) s' | .again c' => c'.quiet = true ∧ codeAny (model prog w) A c' R s') (fun e s' => R (.error e) s') s := by
  show wpAny _ _ (do let old ← Builtin.List.listItems (.ref S); Builtin.List.listUpdate (.ref S) (fun _ => #[]); letGo old.toList.reverse; Builtin.List.listExtendWith (.ref S) (.ref r) .none) _ _ s
  refine wpAny_bind ?_
  unfold Builtin.List.listItems
  refine wpAny_bind (wpAny_seqItems hS rfl (wpAny_pure ?_))
  show wpAny _ _ (updateSeq S (fun _ => #[]) >>= fun _ => letGo (#[] : Array Value).toList.reverse >>= fun _ => Builtin.List.listExtendWith (.ref S) (.ref r) .none) _ _ s
  refine wpAny_bind (wpAny_updateSeq hS rfl ?_)
  have hS2 := Heap.get?_update_self (Obj.mapSeq (fun _ => (#[] : Array Value))) hS rfl
  have oth : ∀ b o, b ≠ S → s.heap.get? b = some o → (s.heap.update S (Obj.mapSeq (fun _ => (#[] : Array Value)))).get? b = some o :=
    fun b o hb e => (Heap.get?_update_other _ _ (Ne.symm hb)).trans e
  refine wpAny_bind (wpAny_letGo ?_)
  refine extI (es := es) (ep := ep) hh (let ⟨o, ho, x⟩ := hv; ⟨o, oth r o hSr.symm ho, x⟩) (hm.at' fun o e => oth d o hSd e) S hSr hSd .none _ hS2 (fun h' tk acc c as hk hS' hl hG hacc => ?_) hn
  exact hR h' tk acc c as (fun b o hb e => hk b o hb (oth b o hb e)) hS' hl (hG.low (Nat.le_of_lt (Heap.lt_size hS2))) hacc
theorem list_of_items {Q : Value → Shared → Prop} (hh : A.handled = none) (hv : s.heap.IsItemsView r d) (hm : Raw s.heap d es ep) (hn : es.size ≤ sizeLine)
    (hQ : ∀ h' tk acc c as, (∀ b o, s.heap.get? b = some o → h'.get? b = some o) → h'.get? s.heap.objs.size = some { cls := .type "list", dict := none, data := .seq acc c, slots := #[] } → as.length = es.size → Made es s.heap.objs.size h' as →
      acc.toList = as.map Value.ref → Q (.ref s.heap.objs.size) { s with heap := h', toks := tk }) :
    wpAny (model prog w) A (call (.type "list") [.ref r]) Q E s := by
  refine callType_codes (Q₁ := fun obj s₁ => obj = .ref s.heap.objs.size ∧ s₁ = { s with heap := s.heap.push { cls := .type "list", data := .seq #[] } }) PySem.F.called_list (PySem.F.typeCall_list_1 _) PySem.F.entry_list_init
    (code_list_new _ ⟨rfl, rfl⟩) fun obj s1 h1 => ?_
  obtain ⟨rfl, rfl⟩ := h1
  have hS : (s.heap.push { cls := .type "list", data := .seq #[] }).get? s.heap.objs.size = some { cls := .type "list", data := .seq #[] } := Heap.get?_push_size _ rfl
  have hr : r < s.heap.objs.size := let ⟨_, ho, _⟩ := hv; Heap.lt_size ho
  have hd : d < s.heap.objs.size := hm.lt
  refine ⟨⟨_, hS, rfl⟩, PySem.F.args_list_init_2 _ _, list_init_items (es := es) (ep := ep) (A := A.in1) hh (let ⟨o, ho, x⟩ := hv; ⟨o, Heap.get?_push_of_some _ ho, x⟩) (hm.push _) _ (Nat.ne_of_gt hr) (Nat.ne_of_lt hd) hS (fun h' tk acc c as hk hS' hl hG hacc => ?_) hn⟩
  exact ⟨rfl, hQ h' tk acc c as (fun b o e => hk b o (Nat.ne_of_lt (Heap.lt_size e)) (Heap.get?_push_of_some _ e)) hS' hl hG hacc⟩
end
section
variable {X : Cx} {pins : List (Addr × Obj)} {σ : L2.St} {H : Hp} {s : Shared}
theorem pairs_laid {hf : Heap} {tk : Nat} {l : Addr} {n : Nat} {ps : List (Addr × Addr × V)} (I : Inv X pins σ H s) (hk : ∀ b o, s.heap.get? b = some o → hf.get? b = some o) (hl : s.heap.objs.size ≤ l) (nd : (ps.map (·.1)).Nodup) (hz : ps.length ≤ sizeLine)
    (hp : ∀ p ∈ ps, s.heap.objs.size ≤ p.1 ∧ p.1 ≠ l ∧ ∃ u, RelV p.2.2 u ∧ hf.get? p.1 = some { cls := .type "tuple", data := .seq #[.ref p.2.1, u] })
    (ho : hf.get? l = some { cls := .type "list", data := .seq (ps.map fun p => Value.ref p.1).toArray n }) :
    ∃ H2, Inv X pins σ H2 { s with heap := hf, toks := tk } ∧ (∀ b o, H b = some o → H2 b = some o) ∧ H l = none ∧ H2 l = some (.lst (ps.map fun p => V.ref p.1)) ∧ ∀ p ∈ ps, H2 p.1 = some (.tup [.ref p.2.1, p.2.2]) := by
  have I1 : Inv X pins σ H { s with heap := hf, toks := tk } := I.kept (t' := tk) hk
  have hn0 : H l = none := I.hok.fresh hl
  have rv : Vals (ps.map fun p => V.ref p.1) (ps.map fun p => Value.ref p.1) := by
    clear nd hz hp ho
    induction ps with
    | nil => exact .nil
    | cons p ps ih => exact .cons rfl ih
  have I2 : Inv X pins σ (upd H l (.lst (ps.map fun p => V.ref p.1))) { s with heap := hf, toks := tk } :=
    I1.take (h' := hf) (t' := tk) (fun b ob _ e => e) (I.fpOk hl hn0) ⟨by rw [List.length_map]; exact hz, _, n, rv, ho⟩
  obtain ⟨H2, I3, g, qt⟩ := DX.takeT (P := fun b vs => ∃ p ∈ ps, p.1 = b ∧ vs = [.ref p.2.1, p.2.2]) I (ps.map (·.1)) _ I2 nd fun b hb => by
    obtain ⟨p, hm, rfl⟩ := List.mem_map.mp hb
    obtain ⟨h1, h2, u, ru, hg⟩ := hp p hm
    refine ⟨h1, ?_, _, ⟨p, hm, rfl, rfl⟩, fun H3 => ⟨(by show 2 ≤ 16777216; omega), [Value.ref p.2.1, u], .cons rfl (.cons ru .nil), ⟨_, hg, rfl, 0, rfl⟩⟩⟩
    rw [upd_ne h2]
    exact I.hok.fresh h1
  have gr : ∀ b o, H b = some o → H2 b = some o := fun b o e => g b o (by rw [upd_ne (ne_of_none e hn0)]; exact e)
  refine ⟨H2, I3, gr, hn0, g _ _ upd_same, fun p hm => ?_⟩
  obtain ⟨vs, ⟨p', hm', e, rfl⟩, hH⟩ := qt p.1 (List.mem_map_of_mem hm)
  have : p' = p := by
    obtain ⟨i, hi⟩ := List.getElem?_of_mem hm
    obtain ⟨j, hj⟩ := List.getElem?_of_mem hm'
    have h1 : (ps.map (·.1))[i]? = some p.1 := by rw [List.getElem?_map, hi]; rfl
    have h2 : (ps.map (·.1))[j]? = some p.1 := by rw [List.getElem?_map, hj]; exact congrArg some e
    have hij : i = j := (List.getElem?_inj (List.getElem?_eq_some_iff.mp h1).1 nd).mp (h1.trans h2.symm)
    subst hij
    rw [hi] at hj
    exact (Option.some.inj hj).symm
  rw [this] at hH
  exact hH
def PairsOut (H : Hp) (bs : List (List Int × V)) (Q : VK) : Prop := ∀ (H2 : Hp) (l : Addr) (ps : List (Addr × Addr)), (∀ b o, H b = some o → H2 b = some o) → H l = none → ps.length = bs.length → H2 l = some (.lst (ps.map fun z => V.ref z.1)) →
  (∀ (i : Nat) (z : Addr × Addr) (b : List Int × V), ps[i]? = some z → bs[i]? = some b → H2 z.1 = some (.tup [.ref z.2, b.2]) ∧ H2 z.2 = some (.tup ((ik b.1).map kV))) → Q (.ref l) H2
theorem dt_entries {a : Addr} {bs : List (List Int × V)} (I : Inv X pins σ H s) (e : Rd H a (.dT (bs.map fun b => (ik b.1, b.2)))) :
    bs.length ≤ sizeLine ∧ (a == sysModules) = false ∧ ∃ (es : Array DictEntry) (ep : Nat), _root_.DT.Raw s.heap a es ep ∧ es.size = bs.length ∧ s.TypeIs (.ref a) "dict" ∧
      ∀ (j : Nat) (b : List Int × V), bs[j]? = some b → ∃ (en : DictEntry) (q : Addr) (u : Value), es[j]? = some en ∧ en.key = .ref q ∧ en.val = u ∧ RelV b.2 u ∧ H q = some (.tup ((ik b.1).map kV)) := by
  obtain ⟨z, hd, xs', rel, o, es, ep, ho, hx, hdat, hes, his, hn⟩ := dt_rd I.hok e
  have l1 : (bs.map fun b => (ik b.1, b.2)).length = xs'.length := Paired.length rel
  rw [List.length_map] at l1 z
  have l2 : es.size = xs'.length := PySem.size_of_entries hes
  refine ⟨z, hd, es, ep, ⟨o, ho, hx, hdat⟩, by omega, ⟨o, ho, hx.1⟩, fun j b hj => ?_⟩
  obtain ⟨x, hxj⟩ : ∃ x, xs'[j]? = some x := ⟨xs'[j]'(by have := (List.getElem?_eq_some_iff.mp hj).1; omega), List.getElem?_eq_getElem _⟩
  obtain ⟨e0, he0, r1, r2, r3⟩ := DX.pget rel hxj
  rw [List.getElem?_map, hj] at he0
  have ee : (ik b.1, b.2) = e0 := Option.some.inj he0
  rw [← ee] at r2 r3
  refine ⟨entryOfKey (tupleKind (mixKind X.prog X.w)) x, x.2.1, x.2.2, ?_, rfl, rfl, r3, r2⟩
  have := PySem.entry_at hes j
  rw [hxj] at this
  exact this
theorem pairs_list {h' : Heap} {es : Array DictEntry} {lo : Addr} {as : List Addr} {bs : List (List Int × V)} (hG : _root_.DT.Made es lo h' as) (hl : as.length = bs.length)
    (en : ∀ (j : Nat) (b : List Int × V), bs[j]? = some b → ∃ (en : DictEntry) (q : Addr) (u : Value), es[j]? = some en ∧ en.key = .ref q ∧ en.val = u ∧ RelV b.2 u ∧ H q = some (.tup ((ik b.1).map kV))) :
    ∃ ps : List (Addr × Addr × V), ps.map (·.1) = as ∧ ps.length = bs.length ∧ ∀ (j : Nat) (p : Addr × Addr × V) (b : List Int × V), ps[j]? = some p → bs[j]? = some b → p.2.2 = b.2 ∧ H p.2.1 = some (.tup ((ik b.1).map kV)) ∧ lo < p.1 ∧ ∃ u, RelV b.2 u ∧ h'.get? p.1 = some { cls := .type "tuple", data := .seq #[.ref p.2.1, u] } := by
  have key : ∀ (as : List Addr) (bs : List (List Int × V)), as.length = bs.length → (∀ (j : Nat) (b : List Int × V), bs[j]? = some b → ∃ t q u, as[j]? = some t ∧ H q = some (.tup ((ik b.1).map kV)) ∧ lo < t ∧ RelV b.2 u ∧ h'.get? t = some { cls := .type "tuple", data := .seq #[.ref q, u] }) →
      ∃ ps : List (Addr × Addr × V), ps.map (·.1) = as ∧ ps.length = bs.length ∧ ∀ (j : Nat) (p : Addr × Addr × V) (b : List Int × V), ps[j]? = some p → bs[j]? = some b → p.2.2 = b.2 ∧ H p.2.1 = some (.tup ((ik b.1).map kV)) ∧ lo < p.1 ∧ ∃ u, RelV b.2 u ∧ h'.get? p.1 = some { cls := .type "tuple", data := .seq #[.ref p.2.1, u] } := by
    intro as
    induction as with
    | nil =>
      intro bs hl h
      cases bs with
      | nil => exact ⟨[], rfl, rfl, fun j p b hj => by simp at hj⟩
      | cons _ _ => simp at hl
    | cons t as ih =>
      intro bs hl h
      cases bs with
      | nil => simp at hl
      | cons b bs =>
        obtain ⟨t', q, u, e1, e2, e3, e4, e5⟩ := h 0 b rfl
        obtain rfl : t = t' := Option.some.inj e1
        obtain ⟨ps, p1, p0, p2⟩ := ih bs (by simpa using hl) fun j b hj => by simpa using h (j + 1) b (by simpa using hj)
        refine ⟨(t, q, b.2) :: ps, by rw [List.map_cons, p1], by simp [p0], fun j p' b' hp hj => ?_⟩
        cases j with
        | zero =>
          have : b = b' := Option.some.inj hj
          subst this
          have : (t, q, b.2) = p' := Option.some.inj hp
          subst this
          exact ⟨rfl, e2, e3, u, e4, e5⟩
        | succ j => exact p2 j p' b' (by simpa using hp) (by simpa using hj)
  refine key as bs hl fun j b hj => ?_
  obtain ⟨en', q', u, e1, e2, e3, e4, e5⟩ := en j b hj
  have hjl : j < as.length := by have := (List.getElem?_eq_some_iff.mp hj).1; omega
  obtain ⟨en2, f1, f2⟩ := hG.pairs j as[j] (List.getElem?_eq_getElem hjl)
  rw [e1] at f1
  cases f1
  rw [e2, e3] at f2
  exact ⟨_, q', u, List.getElem?_eq_getElem hjl, e5, hG.above _ (List.getElem_mem hjl), e4, f2⟩
theorem cr_listIt (hc : X.calm = true) : CallR X (.type "list") (fun vs H Q => ∃ (p a : Addr) (bs : List (List Int × V)), vs = [.ref p] ∧ H p = some (DX.itemsO p a) ∧ Rd H a (.dT (bs.map fun b => (ik b.1, b.2))) ∧ PairsOut H bs Q) := by
  intro pins s σ H xs us Q I r h
  obtain ⟨p, a, bs, rfl, hp, ha, q⟩ := h
  obtain rfl := Vals.ref1 r
  have view : s.heap.IsItemsView p a := (show ObjOk X.prog X.w H s.heap p (DX.itemsO p a) from I.hok p _ hp).1
  obtain ⟨z, hd, es, ep, raw, les, _, en⟩ := dt_entries I ha
  refine list_of_items (I.ok.hd hc) view raw (by omega) fun h' tk acc c as hk hS hl hG hacc => ?_
  have nd : as.Nodup := List.Pairwise.imp (fun h => Nat.ne_of_lt h) hG.rise
  obtain ⟨ps, hps1, lps, hps2⟩ := pairs_list hG (by omega) en
  have at_ : ∀ p ∈ ps, ∃ (j : Nat) (b : List Int × V), ps[j]? = some p ∧ bs[j]? = some b := fun p hm => by
    obtain ⟨j, hj⟩ := List.getElem?_of_mem hm
    have := (List.getElem?_eq_some_iff.mp hj).1
    exact ⟨j, bs[j]'(by omega), hj, List.getElem?_eq_getElem _⟩
  obtain ⟨H2, I3, gr, hn0, hL, hT⟩ := pairs_laid (tk := tk) (ps := ps) (hf := h') (l := s.heap.objs.size) (n := c) I hk (Nat.le_refl _) (by rw [hps1]; exact nd) (by omega) (fun p hm => by
    obtain ⟨j, b, h1, h2⟩ := at_ p hm
    obtain ⟨g2, g3, g4, u, g5, g6⟩ := hps2 j p b h1 h2
    exact ⟨Nat.le_of_lt g4, Nat.ne_of_gt g4, u, by rw [g2]; exact g5, g6⟩) (by
    rw [hS]
    have : (ps.map fun p => Value.ref p.1).toArray = acc := by
      rw [← Array.toList_inj, hacc, ← hps1, List.map_map]
      rfl
    rw [this])
  refine ⟨.ref s.heap.objs.size, H2, I3, rfl, q H2 _ (ps.map fun p => (p.1, p.2.1)) gr hn0 (by rw [List.length_map, lps]) (by rw [hL, List.map_map]; rfl) fun i z b hz hb => ?_⟩
  rw [List.getElem?_map] at hz
  cases hpi : ps[i]? with
  | none => rw [hpi] at hz; cases hz
  | some p =>
    rw [hpi] at hz
    cases hz
    obtain ⟨g2, g3, g4, u, g5, g6⟩ := hps2 i p b hpi hb
    have h1 := hT p (List.mem_of_getElem? hpi)
    rw [g2] at h1
    exact ⟨h1, gr _ _ g3⟩
theorem each_eq {β : Type} {f : β → Value} : ∀ {out : List Value} {ys : List β}, W.EachIs (fun v z => v = f z) out ys → out = ys.map f
  | _, _, .nil => rfl
  | _, _, .cons h t => congr (congrArg List.cons h) (each_eq t)
mutual
theorem reads_lt {h : Heap} : ∀ (d : PyData) (v : Value) (as : List Addr), W.alike d d = true → Reads h v d as → ∀ a ∈ as, a < h.objs.size
  | .none, _, _, _, r => by cases r; exact fun _ z => nomatch z
  | .bool _, _, _, _, r => by cases r; exact fun _ z => nomatch z
  | .int _, _, _, _, r => by cases r; exact fun _ z => nomatch z
  | .str _, _, _, _, r => by cases r; exact fun _ z => nomatch z
  | .list xs, _, _, h, r => by
    cases r with
    | list h1 h2 h3 h4 =>
      intro a ha
      rcases List.mem_cons.mp ha with rfl | ha
      · exact Heap.lt_size h1
      · exact readsAll_lt xs _ _ (by simpa [W.alike] using h) h4 a ha
  | .tuple xs, _, _, h, r => by
    cases r with
    | tuple h1 h2 h3 h4 => exact readsAll_lt xs _ _ (by simpa [W.alike] using h) h4
  | .dict _, _, _, h, r => by simp [W.alike] at h
theorem readsAll_lt {h : Heap} : ∀ (ds : List PyData) (vs : List Value) (as : List Addr), W.alikeAll ds ds = true → ReadsAll h vs ds as → ∀ a ∈ as, a < h.objs.size
  | [], _, _, _, r => by cases r; exact fun _ z => nomatch z
  | d :: ds, _, _, h, r => by
    cases r with
    | cons r1 r2 =>
      obtain ⟨h1, h2⟩ := W.alike_all_cons h
      intro a ha
      rcases List.mem_append.mp ha with ha | ha
      · exact reads_lt d _ _ h1 r1 a ha
      · exact readsAll_lt ds _ _ h2 r2 a ha
end
theorem reads_ints {h : Heap} : ∀ {ns : List Int} {its : List Value}, Vals (ns.map V.int) its → ReadsAll h its (ns.map .int) []
  | [], _, r => by cases r; exact .nil
  | n :: ns, _, r => by
    cases r with
    | cons r1 r2 =>
      obtain ⟨t, rfl⟩ := r1
      exact .cons (as := []) (.int _ _) (reads_ints r2)
theorem reads_key {q : Addr} {ns : List Int} (I : Inv X pins σ H s) (e : H q = some (.tup ((ik ns).map kV))) : Reads s.heap (.ref q) (.tuple (ns.map .int)) [] := by
  rw [ik_kV] at e
  obtain ⟨_, its, rv, o, ho, hc, n, hd⟩ := (show ObjOk X.prog X.w H s.heap q (.tup (ns.map V.int)) from I.hok q _ e)
  exact .tuple (as := []) ho hc hd (by simpa using reads_ints rv)
abbrev itD (b : List Int × V × PyData) : PyData := .tuple [.tuple (b.1.map .int), b.2.2]
theorem alike_it {a b : List Int × V × PyData} (h : W.alike a.2.2 b.2.2 = true) : W.alike (itD a) (itD b) = true := by
  have h1 : W.alike (.tuple (a.1.map .int)) (.tuple (b.1.map .int)) = true := by
    simp only [W.alike]
    exact W.alike_ints _ _
  simp only [itD, W.alike, W.alikeAll] at h1 ⊢
  rw [h1, h]
  rfl
theorem cr_sortIt (hc : X.calm = true) (hu : X.A.units + 64 < cLine) : CallR X (.builtin "sorted") (fun vs H Q => ∃ (p a : Addr) (bs : List (List Int × V × PyData)), vs = [.ref p] ∧ H p = some (DX.itemsO p a) ∧ Rd H a (.dT (bs.map fun b => (ik b.1, b.2.1))) ∧
    DpAll X.K H (bs.map (·.2.1)) (bs.map (·.2.2)) ∧ W.AllAlike (bs.map (·.2.2)) ∧ (∀ b ∈ bs, b.2.2.depth ≤ 40) ∧ PairsOut H ((bs.mergeSort (W.dataLe false itD)).map fun b => (b.1, b.2.1)) Q) := by
  intro pins s σ H xs us Q I r h
  obtain ⟨p, a, bs, rfl, hp, ha, hD, hal, hdp, q⟩ := h
  obtain rfl := Vals.ref1 r
  have view : s.heap.IsItemsView p a := (show ObjOk X.prog X.w H s.heap p (DX.itemsO p a) from I.hok p _ hp).1
  have e2 : (bs.map fun b => (ik b.1, b.2.1)) = (bs.map fun b => (b.1, b.2.1)).map fun b => (ik b.1, b.2) := by rw [List.map_map]; rfl
  rw [e2] at ha
  obtain ⟨z, hd, es, ep, raw, les, _, en⟩ := dt_entries I ha
  rw [List.length_map] at z les
  refine _root_.DT.sortedI (es := es) (ep := ep) (I.ok.hd hc) view raw (by omega) fun h' tk as hk hlt hl hG => ?_
  have nd : as.Nodup := List.Pairwise.imp (fun h => Nat.ne_of_lt h) hG.rise
  obtain ⟨ps, hps1, lps, hps2⟩ := pairs_list hG (by rw [List.length_map]; omega) en
  rw [List.length_map] at lps
  obtain ⟨zs, hzs⟩ : ∃ zs : List ((Addr × Addr × V) × (List Int × V × PyData)), zs = ps.zip bs := ⟨_, rfl⟩
  have hz1 : zs.map (·.1) = ps := by rw [hzs]; exact List.map_fst_zip (by omega)
  have hz2 : zs.map (·.2) = bs := by rw [hzs]; exact List.map_snd_zip (by omega)
  have lzs : zs.length = bs.length := by rw [← hz2, List.length_map]
  have idx : ∀ z ∈ zs, ∃ j : Nat, ps[j]? = some z.1 ∧ bs[j]? = some z.2 := fun z hm => by
    rw [hzs] at hm
    obtain ⟨j, hj⟩ := List.getElem?_of_mem hm
    exact ⟨j, List.getElem?_zip_eq_some.mp hj⟩
  have inf : ∀ z ∈ zs, z.1.2.2 = z.2.2.1 ∧ H z.1.2.1 = some (.tup ((ik z.2.1).map kV)) ∧ s.heap.objs.size < z.1.1 ∧ ∃ u, RelV z.2.2.1 u ∧ h'.get? z.1.1 = some { cls := .type "tuple", data := .seq #[.ref z.1.2.1, u] } := fun z hm => by
    obtain ⟨j, j1, j2⟩ := idx z hm
    exact hps2 j z.1 (z.2.1, z.2.2.1) j1 (by rw [List.getElem?_map, j2]; rfl)
  have hob : (h'.push { cls := .type "list", data := .seq (as.map Value.ref).toArray }).get? h'.objs.size = some (PyProof.Rows.seqObj "list" (as.map Value.ref).toArray 0) := Heap.get?_push_size _ rfl
  have kb : ∀ b o, h'.get? b = some o → (h'.push { cls := .type "list", data := .seq (as.map Value.ref).toArray }).get? b = some o := fun b o e => Heap.get?_push_of_some _ e
  have ne0 : ∀ b o, h'.get? b = some o → b ≠ h'.objs.size := fun b o e => Nat.ne_of_lt (Heap.lt_size e)
  generalize h'.push { cls := .type "list", data := .seq (as.map Value.ref).toArray } = h2 at hob kb ⊢
  have vas : as.map Value.ref = zs.map fun z => Value.ref z.1.1 := by
    rw [← hps1, ← hz1, List.map_map, List.map_map]
    rfl
  have each : ∀ {R : Value → (Addr × Addr × V) × (List Int × V × PyData) → Prop}, (∀ z ∈ zs, R (.ref z.1.1) z) → W.EachIs R (as.map Value.ref) zs := fun {R} h => by
    rw [vas]
    have : ∀ l : List ((Addr × Addr × V) × (List Int × V × PyData)), (∀ z ∈ l, R (.ref z.1.1) z) → W.EachIs R (l.map fun z => Value.ref z.1.1) l := fun l => by
      induction l with
      | nil => exact fun _ => .nil
      | cons x l ih => exact fun h => .cons (h x List.mem_cons_self) (ih fun z hz => h z (List.mem_cons_of_mem _ hz))
    exact this zs h
  have hDz : ∀ z ∈ zs, Dp X.K H z.2.2.1 z.2.2.2 := fun z hm => by
    have : ∀ l : List (List Int × V × PyData), DpAll X.K H (l.map (·.2.1)) (l.map (·.2.2)) → ∀ b ∈ l, Dp X.K H b.2.1 b.2.2 := fun l => by
      induction l with
      | nil => exact fun _ _ z => nomatch z
      | cons x l ih =>
        intro h b hb
        cases h with
        | cons h1 h2 =>
          rcases List.mem_cons.mp hb with rfl | hb
          · exact h1
          · exact ih h2 b hb
    exact this bs hD _ (by rw [← hz2]; exact List.mem_map_of_mem hm)
  have hself : ∀ z ∈ zs, W.alike z.2.2.2 z.2.2.2 = true := fun z hm => by
    have : z.2.2.2 ∈ bs.map (·.2.2) := by
      rw [← hz2, List.map_map]
      exact List.mem_map.mpr ⟨z, hm, rfl⟩
    exact hal _ this _ this
  refine list_sort_data2 (s := { s with heap := h2, toks := tk }) (R := fun v z => v = .ref z.1.1) (enc := fun z => itD z.2) (bs := zs) (n := 0) hob (each fun _ _ => rfl) (each fun z hm => ?_) ?_ ?_ (by omega) (fun z hm => ?_) fun out ho he => ?_
  · obtain ⟨i1, i2, i3, u, i4, i5⟩ := inf z hm
    obtain ⟨as', rd⟩ := Dp.reads I _ _ _ (hDz z hm) i4
    have rk := reads_key I i2
    have lt1 := reads_lt _ _ _ (hself z hm) rd
    have kS : ∀ b o, s.heap.get? b = some o → h2.get? b = some o := fun b o e => kb b o (hk b o e)
    refine ⟨[] ++ (as' ++ []), .tuple (kb _ _ i5) rfl rfl (.cons (PyProof.Rows.Reads.keeps kS rk) (.cons (PyProof.Rows.Reads.keeps kS rd) .nil)), fun hin => ?_⟩
    rw [List.nil_append, List.append_nil] at hin
    exact absurd (lt1 _ hin) (Nat.not_lt.mpr (Nat.le_of_lt hlt))
  · intro d hd d' hd'
    obtain ⟨x, hx, rfl⟩ := List.mem_map.mp hd
    obtain ⟨y, hy, rfl⟩ := List.mem_map.mp hd'
    refine alike_it (hal _ ?_ _ ?_)
    · rw [← hz2, List.map_map]
      exact List.mem_map.mpr ⟨x, hx, rfl⟩
    · rw [← hz2, List.map_map]
      exact List.mem_map.mpr ⟨y, hy, rfl⟩
  · exact .inl fun d hd => by
      obtain ⟨x, hx, rfl⟩ := List.mem_map.mp hd
      exact ⟨_, rfl⟩
  · have h1 := hdp z.2 (by rw [← hz2]; exact List.mem_map_of_mem hm)
    have h2 : (itD z.2).depth ≤ 42 := by
      simp only [itD, PyData.depth, PyData.depthAll, depthAll_ints]
      omega
    show X.A.in1.units + 1 + (itD z.2).depth < cLine
    have : X.A.in1.units = X.A.units + 1 := rfl
    omega
  · -- behind the sort
    obtain ⟨n, heF⟩ := PyProof.Rows.sortedHeap_at (vs := as.map Value.ref) (out := out.toArray) hob
    obtain ⟨ys, hys⟩ : ∃ ys, ys = zs.mergeSort (W.dataLe false fun z => itD z.2) := ⟨_, rfl⟩
    rw [← hys] at he
    have hp : ys.Perm zs := by rw [hys]; exact List.mergeSort_perm _ _
    have hout : out = (ys.map (·.1)).map fun p => Value.ref p.1 := by
      rw [List.map_map]
      exact each_eq he
    have kF : ∀ b o, h'.get? b = some o → (PyProof.Rows.sortedHeap h2 h'.objs.size (as.map Value.ref) out.toArray).get? b = some o := fun b o e => (PyProof.Rows.sortedHeap_old (ne0 b o e) (Heap.lt_size (kb b o e))).trans (kb b o e)
    have hmem : ∀ p ∈ ys.map (·.1), ∃ z ∈ zs, z.1 = p := fun p hm => by
      obtain ⟨z, hz, rfl⟩ := List.mem_map.mp hm
      exact ⟨z, hp.mem_iff.mp hz, rfl⟩
    obtain ⟨H2, I3, gr, hn0, hL, hT⟩ := pairs_laid (tk := tk) (ps := ys.map (·.1)) (hf := PyProof.Rows.sortedHeap h2 h'.objs.size (as.map Value.ref) out.toArray) (l := h'.objs.size) (n := n) I (fun b o e => kF b o (hk b o e)) (Nat.le_of_lt hlt)
      (by
        have h1 : ((ys.map (·.1)).map (·.1)).Perm as := by
          rw [← hps1, ← hz1]
          exact (hp.map _).map _
        exact h1.nodup_iff.mpr nd)
      (by rw [List.length_map, hp.length_eq]; omega)
      (fun p hm => by
        obtain ⟨z, hz, rfl⟩ := hmem p hm
        obtain ⟨i1, i2, i3, u, i4, i5⟩ := inf z hz
        exact ⟨Nat.le_of_lt i3, ne0 _ _ i5, u, by rw [i1]; exact i4, kF _ _ i5⟩)
      (by rw [← hout]; exact heF)
    refine ⟨.ref h'.objs.size, H2, I3, rfl, q H2 _ ((ys.map (·.1)).map fun p => (p.1, p.2.1)) gr hn0 ?_ (by rw [hL]; simp only [List.map_map, Function.comp_def]) fun i z b hz hb => ?_⟩
    · rw [List.length_map, List.length_map, List.length_map, List.length_mergeSort, hp.length_eq, lzs]
    · have s2 : ys.map (·.2) = bs.mergeSort (W.dataLe false itD) := by
        rw [hys, ← hz2]
        exact W.sort_maps _ fun x hx y hy => rfl
      rw [← s2, List.map_map, List.getElem?_map] at hb
      rw [List.map_map, List.getElem?_map] at hz
      cases hyi : ys[i]? with
      | none => rw [hyi] at hz; cases hz
      | some y =>
        rw [hyi] at hz hb
        cases hz
        cases hb
        have hy : y ∈ zs := hp.mem_iff.mp (List.mem_of_getElem? hyi)
        obtain ⟨i1, i2, i3, u, i4, i5⟩ := inf y hy
        have h1 := hT y.1 (List.mem_map_of_mem (List.mem_of_getElem? hyi))
        rw [i1] at h1
        exact ⟨h1, gr _ _ i2⟩
abbrev tupD (k : List Int) : PyData := .tuple (k.map .int)
theorem alike_tupD (a b : List Int) : W.alike (tupD a) (tupD b) = true := by
  simp only [tupD, W.alike]
  exact W.alike_ints _ _
theorem cr_sortKT (hc : X.calm = true) (hu : X.A.units + 64 < cLine) : CallR X (.builtin "sorted") (fun vs H Q => ∃ (a : Addr) (bs : List (List Int × V)), vs = [.ref a] ∧ Rd H a (.dT (bs.map fun b => (ik b.1, b.2))) ∧
    ∀ (p : Addr) (qs : List Addr), H p = none → qs.length = bs.length → (∀ (i : Nat) (q : Addr) (k : List Int), qs[i]? = some q → ((bs.map (·.1)).mergeSort (W.dataLe false tupD))[i]? = some k → H q = some (.tup ((ik k).map kV))) → Q (.ref p) (upd H p (.lst (qs.map V.ref)))) := by
  intro pins s σ H xs us Q I r h
  obtain ⟨a, bs, rfl, ha, q⟩ := h
  obtain rfl := Vals.ref1 r
  obtain ⟨z, hd, es, ep, raw, les, _, en⟩ := dt_entries I ha
  refine Calls.call_function_entry PyProof.Rows.kind_sorted PyProof.Rows.plain_sorted PyProof.Rows.entry_sorted (PyProof.Rows.args_sorted1 _) ?_
  unfold Builtin.«sorted»
  refine wpAny_bind (m := checkCount "sorted" 1 1 _) (wpAny_pure ?_)
  refine wpAny_bind (PySem.W.kdu_collect (A := X.A.in1) (KdlSrc.rawDict (es := es) (ep := ep) hd) (I.ok.hd hc) raw (by omega) fun h' tk acc hk hacc => ?_)
  have hal : acc.size = bs.length := by rw [hacc.1, les]
  obtain ⟨qs, hqs, lqs, hq2⟩ : ∃ qs : List Addr, acc.toList = qs.map Value.ref ∧ qs.length = bs.length ∧ ∀ (i : Nat) (q : Addr) (b : List Int × V), qs[i]? = some q → bs[i]? = some b → H q = some (.tup ((ik b.1).map kV)) := by
    have key : ∀ (vs : List Value) (bs : List (List Int × V)), vs.length = bs.length → (∀ (i : Nat) (b : List Int × V), bs[i]? = some b → ∃ q, vs[i]? = some (.ref q) ∧ H q = some (.tup ((ik b.1).map kV))) →
        ∃ qs : List Addr, vs = qs.map Value.ref ∧ qs.length = bs.length ∧ ∀ (i : Nat) (q : Addr) (b : List Int × V), qs[i]? = some q → bs[i]? = some b → H q = some (.tup ((ik b.1).map kV)) := by
      intro vs
      induction vs with
      | nil =>
        intro bs hl _
        cases bs with
        | nil => exact ⟨[], rfl, rfl, fun i q b h => by simp at h⟩
        | cons _ _ => simp at hl
      | cons v vs ih =>
        intro bs hl h
        cases bs with
        | nil => simp at hl
        | cons b bs =>
          obtain ⟨q, e1, e2⟩ := h 0 b rfl
          obtain rfl : v = .ref q := Option.some.inj e1
          obtain ⟨qs, g1, g2, g3⟩ := ih bs (by simpa using hl) fun i b hb => by simpa using h (i + 1) b (by simpa using hb)
          refine ⟨q :: qs, by rw [g1]; rfl, by simp [g2], fun i q' b' h1 h2 => ?_⟩
          cases i with
          | zero =>
            obtain rfl : q = q' := Option.some.inj h1
            obtain rfl : b = b' := Option.some.inj h2
            exact e2
          | succ i => exact g3 i q' b' (by simpa using h1) (by simpa using h2)
    refine key _ bs (by rw [Array.length_toList, hal]) fun i b hb => ?_
    obtain ⟨en', q, u, e1, e2, e3, e4, e5⟩ := en i b hb
    have hi : i < acc.size := by have := (List.getElem?_eq_some_iff.mp hb).1; omega
    obtain ⟨hi2, hv⟩ := hacc.2 i acc[i] (Array.getElem?_eq_getElem hi)
    have h3 : es[i] = en' := by
      rw [Array.getElem?_eq_getElem hi2] at e1
      exact Option.some.inj e1
    refine ⟨q, ?_, e5⟩
    rw [Array.getElem?_toList, Array.getElem?_eq_getElem hi, hv, h3, e2]
  have I1 : Inv X pins σ H { s with heap := h', toks := tk } := I.kept hk
  refine wpAny_bind (wpAny_newList ?_ (by rw [Array.length_toList]; omega))
  obtain ⟨zs, hzs⟩ : ∃ zs : List (Addr × List Int), zs = qs.zip (bs.map (·.1)) := ⟨_, rfl⟩
  have hz1 : zs.map (·.1) = qs := by rw [hzs]; exact List.map_fst_zip (by rw [List.length_map]; omega)
  have hz2 : zs.map (·.2) = bs.map (·.1) := by rw [hzs]; exact List.map_snd_zip (by rw [List.length_map]; omega)
  have lzs : zs.length = bs.length := by
    have := congrArg List.length hz2
    simpa using this
  have inf : ∀ z ∈ zs, H z.1 = some (.tup ((ik z.2).map kV)) := fun z hm => by
    rw [hzs] at hm
    obtain ⟨j, hj⟩ := List.getElem?_of_mem hm
    obtain ⟨j1, j2⟩ := List.getElem?_zip_eq_some.mp hj
    rw [List.getElem?_map] at j2
    cases hb : bs[j]? with
    | none => rw [hb] at j2; cases j2
    | some b =>
      rw [hb] at j2
      have : b.1 = z.2 := Option.some.inj j2
      rw [← this]
      exact hq2 j _ b j1 hb
  have hob : (h'.push (PyProof.Rows.seqObj "list" acc.toList.toArray 0)).get? h'.objs.size = some (PyProof.Rows.seqObj "list" acc.toList.toArray 0) := Heap.get?_push_size _ rfl
  have kb : ∀ b o, h'.get? b = some o → (h'.push (PyProof.Rows.seqObj "list" acc.toList.toArray 0)).get? b = some o := fun b o e => Heap.get?_push_of_some _ e
  have ne0 : ∀ b o, h'.get? b = some o → b ≠ h'.objs.size := fun b o e => Nat.ne_of_lt (Heap.lt_size e)
  show wpAny _ _ _ _ _ { s with heap := h'.push (PyProof.Rows.seqObj "list" acc.toList.toArray 0), toks := tk }
  generalize h'.push (PyProof.Rows.seqObj "list" acc.toList.toArray 0) = h2 at hob kb ⊢
  have vas : acc.toList = zs.map fun z => Value.ref z.1 := by
    rw [hqs, ← hz1, List.map_map]
    rfl
  have each : ∀ {R : Value → Addr × List Int → Prop}, (∀ z ∈ zs, R (.ref z.1) z) → W.EachIs R acc.toList zs := fun {R} h => by
    rw [vas]
    have : ∀ l : List (Addr × List Int), (∀ z ∈ l, R (.ref z.1) z) → W.EachIs R (l.map fun z => Value.ref z.1) l := fun l => by
      induction l with
      | nil => exact fun _ => .nil
      | cons x l ih => exact fun h => .cons (h x List.mem_cons_self) (ih fun z hz => h z (List.mem_cons_of_mem _ hz))
    exact this zs h
  have kS : ∀ b o, s.heap.get? b = some o → h2.get? b = some o := fun b o e => kb b o (hk b o e)
  refine wpAny_bind (wpAny_holding (list_sort_data2 (s := { s with heap := h2, toks := tk }) (R := fun v z => v = .ref z.1) (enc := fun z : Addr × List Int => tupD z.2) (bs := zs) (n := 0) hob (each fun _ _ => rfl) (each fun z hm => ?_) ?_ ?_ (by omega) (fun z hm => ?_) fun out ho he => ?_))
  · exact ⟨[], PyProof.Rows.Reads.keeps kS (reads_key I (inf z hm)), fun h => nomatch h⟩
  · intro d hd d' hd'
    obtain ⟨x, hx, rfl⟩ := List.mem_map.mp hd
    obtain ⟨y, hy, rfl⟩ := List.mem_map.mp hd'
    exact alike_tupD _ _
  · exact .inl fun d hd => by
      obtain ⟨x, hx, rfl⟩ := List.mem_map.mp hd
      exact ⟨_, rfl⟩
  · have h2 : (tupD z.2).depth ≤ 1 := by
      simp only [tupD, PyData.depth, depthAll_ints]
      omega
    show X.A.in1.units + 1 + (tupD z.2).depth < cLine
    have : X.A.in1.units = X.A.units + 1 := rfl
    omega
  · obtain ⟨n, heF⟩ := PyProof.Rows.sortedHeap_at (vs := acc.toList) (out := out.toArray) hob
    obtain ⟨ys, hys⟩ : ∃ ys, ys = zs.mergeSort (W.dataLe false fun z => tupD z.2) := ⟨_, rfl⟩
    rw [← hys] at he
    have hp : ys.Perm zs := by rw [hys]; exact List.mergeSort_perm _ _
    have hout : out = (ys.map (·.1)).map Value.ref := by
      rw [List.map_map]
      exact each_eq he
    have kF : ∀ b o, h'.get? b = some o → (PyProof.Rows.sortedHeap h2 h'.objs.size acc.toList out.toArray).get? b = some o := fun b o e => (PyProof.Rows.sortedHeap_old (ne0 b o e) (Heap.lt_size (kb b o e))).trans (kb b o e)
    have rv : Vals ((ys.map (·.1)).map V.ref) out := by
      rw [hout]
      exact LiI.vals_refs _
    refine wpAny_pure ⟨_, rfl, .ref h'.objs.size, upd H h'.objs.size (.lst ((ys.map (·.1)).map V.ref)), I1.laid (t' := tk) kF (Nat.le_refl _)
      (show ObjOk X.prog X.w _ _ _ (.lst ((ys.map (·.1)).map V.ref)) from ⟨by rw [List.length_map, List.length_map, hp.length_eq, lzs]; exact z, out, n, rv, heF⟩), rfl, q _ _ (I1.hok.fresh (Nat.le_refl _)) (by rw [List.length_map, hp.length_eq, lzs]) fun i q' k hi hk' => ?_⟩
    have s2 : ys.map (·.2) = (bs.map (·.1)).mergeSort (W.dataLe false tupD) := by
      rw [hys, ← hz2]
      exact W.sort_maps _ fun x hx y hy => rfl
    rw [← s2, List.getElem?_map] at hk'
    rw [List.getElem?_map] at hi
    cases hyi : ys[i]? with
    | none => rw [hyi] at hi; cases hi
    | some y =>
      rw [hyi] at hi hk'
      cases hi
      cases hk'
      exact inf y (hp.mem_iff.mp (List.mem_of_getElem? hyi))
theorem cr_dictPT (hc : X.calm = true) (hu : X.A.units + 64 < cLine) : CallR X (.type "dict") (fun vs H Q => ∃ (l : Addr) (ps : List (Addr × Addr × List Int × V)), vs = [.ref l] ∧ SqL X.K H l (ps.map fun p => V.ref p.1) ∧ (∀ p ∈ ps, SqT X.K H p.1 [.ref p.2.1, p.2.2.2] ∧ H p.2.1 = some (.tup ((ik p.2.2.1).map kV))) ∧ (ps.map (·.2.2.1)).Nodup ∧
    ∀ p, H p = none → Q (.ref p) (upd H p (.dT (ps.map fun z => (ik z.2.2.1, z.2.2.2))))) := by
  intro pins s σ H xs us Q I r h
  obtain ⟨l, ps, rfl, hl, hps, nd, q⟩ := h
  obtain rfl := Vals.ref1 r
  obtain ⟨its, rv, pl, hz⟩ := I.list hl
  rw [List.length_map] at hz
  have ei : its = ps.map fun p => Value.ref p.1 := by
    have : (ps.map fun p => V.ref p.1) = (ps.map (·.1)).map V.ref := by rw [List.map_map]; rfl
    rw [this] at rv
    rw [refs_at rv, List.map_map]
    rfl
  subst ei
  -- the values in memory
  obtain ⟨us, hul, hus⟩ : ∃ us : List Value, us.length = ps.length ∧ ∀ (i : Nat) (p : Addr × Addr × List Int × V) (u : Value), ps[i]? = some p → us[i]? = some u → RelV p.2.2.2 u ∧ PyProof.Rows.IsTup s.heap p.1 #[.ref p.2.1, u] := by
    clear rv pl hl nd q hz
    induction ps with
    | nil => exact ⟨[], rfl, fun i p u h => by simp at h⟩
    | cons p ps ih =>
      obtain ⟨us, h1, h2⟩ := ih fun p hp => hps p (List.mem_cons_of_mem _ hp)
      obtain ⟨its, rv, ht, _⟩ := I.tuple (hps p List.mem_cons_self).1
      obtain ⟨u1, u2, e, r1, r2⟩ := vals2 rv
      subst e
      obtain rfl : u1 = Value.ref p.2.1 := r1
      refine ⟨u2 :: us, by simp [h1], fun i p' u hp hu => ?_⟩
      cases i with
      | zero =>
        obtain rfl : p = p' := Option.some.inj hp
        obtain rfl : u2 = u := Option.some.inj hu
        exact ⟨r2, ht⟩
      | succ i => exact h2 i p' u (by simpa using hp) (by simpa using hu)
  obtain ⟨o, n, ho, hcl, hdn, hdat⟩ := pl
  obtain ⟨kv, hkv⟩ : ∃ kv : List (Value × Value), kv = (ps.zip us).map fun z => (Value.ref z.1.2.1, z.2) := ⟨_, rfl⟩
  obtain ⟨xs, hxs⟩ : ∃ xs : List (List Key × Addr × Value), xs = (ps.zip us).map fun z => (ik z.1.2.2.1, z.1.2.1, z.2) := ⟨_, rfl⟩
  have lz : (ps.zip us).length = ps.length := by rw [List.length_zip]; omega
  have lkv : kv.length = ps.length := by rw [hkv, List.length_map, lz]
  have lxs : xs.length = ps.length := by rw [hxs, List.length_map, lz]
  have atz : ∀ (j : Nat) (k v : Value), kv[j]? = some (k, v) → ∃ p, ps[j]? = some p ∧ us[j]? = some v ∧ k = .ref p.2.1 := fun j k v h => by
    rw [hkv, List.getElem?_map] at h
    cases e : (ps.zip us)[j]? with
    | none => rw [e] at h; cases h
    | some z =>
      rw [e] at h
      cases h
      obtain ⟨j1, j2⟩ := List.getElem?_zip_eq_some.mp e
      exact ⟨z.1, j1, j2, rfl⟩
  have P := PairArg.list (prog := X.prog) (w := X.w) l (ps.map fun p => Value.ref p.1).toArray (fun j => (ps.getD j (0, 0, [], .non)).1) kv
  have keyT : ∀ (p : Addr × Addr × List Int × V), p ∈ ps → (tupleKind (mixKind X.prog X.w)).is s.heap (ik p.2.2.1) p.2.1 := fun p hp => key_of I.hok (hps p hp).2
  have xsM : ∀ x ∈ xs, ∃ p ∈ ps, x.1 = ik p.2.2.1 ∧ x.2.1 = p.2.1 := fun x hx => by
    rw [hxs] at hx
    obtain ⟨z, hz, rfl⟩ := List.mem_map.mp hx
    exact ⟨z.1, (List.of_mem_zip hz).1, rfl, rfl⟩
  have nk : (xs.map (·.1)).Nodup := by
    have e : xs.map (·.1) = (ps.map (·.2.2.1)).map ik := by
      rw [hxs, List.map_map, List.map_map]
      have : ∀ (ps : List (Addr × Addr × List Int × V)) (us : List Value), us.length = ps.length → (ps.zip us).map ((fun x : List Key × Addr × Value => x.1) ∘ fun z => (ik z.1.2.2.1, z.1.2.1, z.2)) = ps.map (ik ∘ fun x => x.2.2.1) := fun ps => by
        induction ps with
        | nil => intro us _; rfl
        | cons p ps ih =>
          intro us hu
          cases us with
          | nil => simp at hu
          | cons u us =>
            rw [List.zip_cons_cons, List.map_cons, List.map_cons, ih us (by simpa using hu)]
            rfl
      exact this ps us hul
    rw [e]
    exact nd.map ik fun a b h e => h (ik_inj e)
  refine call_dict_pairsH (knd := tupleKind (mixKind X.prog X.w)) (ps := xs) P (I.ok.hd hc) (tupleKind_room_in1 (by show X.A.in1.units + 1 < cLine; have : X.A.in1.units = X.A.units + 1 := rfl; omega)) ⟨⟨o, n, ho, hcl, hdn, hdat⟩, by simp [lkv], fun j k v h => ?_⟩ ⟨by rw [lxs, lkv], fun i key v h => ?_⟩ (fun h' hk x hx => ?_) (by omega) fun h' tk hd' hk => ?_
  · obtain ⟨p, h1, h2, rfl⟩ := atz j k v h
    refine ⟨?_, .inl ?_⟩
    · simp [h1]
    · have e : (ps.getD j (0, 0, [], .non)) = p := by simp [h1]
      show s.heap.IsTuple (ps.getD j (0, 0, [], .non)).1 _
      rw [e]
      exact (hus j p v h1 h2).2
  · obtain ⟨p, h1, h2, rfl⟩ := atz i key v h
    refine ⟨ik p.2.2.1, p.2.1, ?_, rfl⟩
    rw [hxs, List.getElem?_map, (List.getElem?_zip_eq_some (z := (p, v))).mpr ⟨h1, h2⟩]
    rfl
  · obtain ⟨p, hp, e1, e2⟩ := xsM x hx
    rw [e1, e2]
    obtain ⟨o, its, n, h1, h2, h3, h4⟩ := keyT p hp
    refine ⟨o, its, n, hk _ _ (Nat.ne_of_lt (Heap.lt_size h1)) (fun z => nomatch z) h1, h2, h3, h4⟩
  · rw [storedAllH_nil_of_nodup xs nk] at hd'
    obtain ⟨o', es, ep, g1, g2, g3, g4, g5, g6⟩ := hd'
    have kk : ∀ b o, s.heap.get? b = some o → h'.get? b = some o := fun b o e => hk b o (fun z => nomatch z) e
    have hm : (s.heap.objs.size == sysModules) = false := beq_eq_false_iff_ne.mpr (Nat.ne_of_gt I.big)
    have hfr : H s.heap.objs.size = none := I.hok.fresh (Nat.le_refl _)
    refine ⟨.ref s.heap.objs.size, upd H s.heap.objs.size (.dT (ps.map fun z => (ik z.2.2.1, z.2.2.2))), I.laid (t' := tk) kk (Nat.le_refl _) ⟨by rw [List.length_map]; exact hz, hm, xs, ?_, o', es, ep, g1, g2, g3, g4, g6⟩, rfl, q _ hfr⟩
    have : ∀ (ps : List (Addr × Addr × List Int × V)) (us : List Value), us.length = ps.length → (∀ (i : Nat) (p : Addr × Addr × List Int × V) (u : Value), ps[i]? = some p → us[i]? = some u → RelV p.2.2.2 u ∧ PyProof.Rows.IsTup s.heap p.1 #[.ref p.2.1, u]) → (∀ p ∈ ps, H p.2.1 = some (.tup ((ik p.2.2.1).map kV))) →
        KT (upd H s.heap.objs.size (.dT (ps.map fun z => (ik z.2.2.1, z.2.2.2)))) (ps.map fun z => (ik z.2.2.1, z.2.2.2)) ((ps.zip us).map fun z => (ik z.1.2.2.1, z.1.2.1, z.2)) := fun ps us h1 h2 h3 => by
      generalize HO.dT (ps.map fun z => (ik z.2.2.1, z.2.2.2)) = hob
      induction ps generalizing us with
      | nil => exact .nil
      | cons p ps ih =>
        cases us with
        | nil => simp at h1
        | cons u us =>
          refine .cons ⟨rfl, ?_, (h2 0 p u rfl rfl).1⟩ (ih us (by simpa using h1) (fun i p u a b => h2 (i + 1) p u (by simpa using a) (by simpa using b)) fun p hp => h3 p (List.mem_cons_of_mem _ hp))
          have := h3 p List.mem_cons_self
          rw [upd_ne (ne_of_none this hfr)]
          exact this
    rw [hxs]
    exact this ps us hul hus fun p hp => (hps p hp).2
end
end DL
set_option Elab.async false
set_option linter.all false
set_option maxRecDepth 100000
set_option maxHeartbeats 4000000
namespace DL
open PySem L2
abbrev dI (o : Bool) (kvs : List (List Int × Int)) : T := .node o (.dT (kvs.map fun p => ik p.1)) (kvs.map fun p => .leaf (.int p.2))
abbrev keyT (k : List Int) : T := .node false .tup (intsT k)
abbrev lineT (p : List Int × Int) : T := .node false .tup [keyT p.1, .leaf (.int p.2)]
abbrev leL (a b : List Int) : Bool := decide (a ≤ b)
abbrev leK (p q : List Int × Int) : Bool := decide (p.1 ≤ q.1)
theorem toks_inj : ∀ {a b : List Int}, W.keyToksAll (a.map .int) = W.keyToksAll (b.map .int) → a = b
  | [], [], _ => rfl
  | [], y :: b, h => by simp [W.keyToksAll] at h
  | x :: a, [], h => by simp [W.keyToksAll] at h
  | x :: a, y :: b, h => by
    simp only [List.map_cons, W.keyToksAll, W.keyToks, List.cons_append, List.nil_append, List.cons.injEq, Sum.inl.injEq, true_and] at h
    rw [h.1, toks_inj h.2]
theorem eqv_tupD {a b : List Int} : PyData.eqv (tupD a) (tupD b) = decide (a = b) := by
  by_cases h : a = b
  · subst h
    rw [decide_eq_true rfl]
    exact W.eqv_refl_alike _ (alike_tupD a a)
  · rw [decide_eq_false h]
    cases e : PyData.eqv (tupD a) (tupD b) with
    | false => rfl
    | true =>
      refine absurd (toks_inj ?_) h
      have := (W.toks_eqv _ _ (alike_tupD a b)).1 e
      simpa [tupD, W.keyToks] using this
theorem lt_tupD (a b : List Int) : W.dataLt (tupD a) (tupD b) = decide (a < b) := by
  rw [tupD, tupD, W.dataLt_tuple]
  exact W.dataLt_ints a b
theorem le_tupD : W.dataLe false tupD = leL := by
  rw [W.dataLe_eq]
  funext a b
  show (!W.dataLt (tupD b) (tupD a)) = decide (a ≤ b)
  rw [lt_tupD]
  by_cases h : b < a
  · rw [decide_eq_true h, decide_eq_false (List.not_le.mpr h)]
    rfl
  · rw [decide_eq_false h, decide_eq_true (List.not_lt.mp h)]
    rfl
theorem le_itD {a b : List Int × Int} (h : a.1 = b.1 → a = b) : leK a b = W.dataLe false itD (a.1, V.int a.2, PyData.int a.2) (b.1, V.int b.2, PyData.int b.2) := by
  rw [W.dataLe_eq]
  show decide (a.1 ≤ b.1) = !W.dataLt (.tuple [tupD b.1, .int b.2]) (.tuple [tupD a.1, .int a.2])
  rw [W.dataLt_pair (alike_tupD _ _) (by simp [W.alike]), eqv_tupD]
  by_cases e : b.1 = a.1
  · rw [decide_eq_true e, if_pos rfl]
    have := h e.symm
    subst this
    rw [if_pos (W.eqv_refl_alike _ (by simp [W.alike])), decide_eq_true (List.le_refl _)]
    rfl
  · rw [decide_eq_false e, if_neg (by simp), lt_tupD]
    by_cases hl : b.1 < a.1
    · rw [decide_eq_true hl, decide_eq_false (List.not_le.mpr hl)]
      rfl
    · rw [decide_eq_false hl, decide_eq_true (List.not_lt.mp hl)]
      rfl
section
variable {K : PySem.W.Frag} {B : Bs} {lim : List Addr} {σ : St} {H H2 : Hp} {g : Ev} {Φ : Its}
theorem RepG.addP {v : V} {t : T} (h : RepG K B lim σ H g Φ) (hp : ∀ F, OwnP K F H v t []) : RepG K B lim σ H g ((v, t) :: Φ) := by
  obtain ⟨F, zs, fp, en, oz, f, hl⟩ := h
  exact rep_items (ds := []) en (OwnZ.cons (fp := []) (hp F) oz) f hl List.perm_middle.symm
theorem off_l {l : Addr} (a : Addr) (o : HO) (hL : H2 l = some o) (n : ∀ u, H2 a = some u → u ≠ o) (h : ∃ u, H2 a = some u) : (fun b => if b = l then none else H2 b) a = H2 a := by
  obtain ⟨u, hu⟩ := h
  have : a ≠ l := fun z => by
    subst z
    exact n u hu (Option.some.inj (hu.symm.trans hL))
  simp [this]
theorem RepG.listAt {l : Addr} {vs : List V} {ts : List T} (r : RepG K B lim σ H g Φ) (gr : ∀ b o, H b = some o → H2 b = some o) (hl : H l = none) (hL : H2 l = some (.lst vs)) (hlen : vs.length = ts.length)
    (hP : ∀ (H' : Hp), (∀ a xs, H2 a = some (.tup xs) → H' a = some (.tup xs)) → ∀ (i : Nat) (v : V) (t : T), vs[i]? = some v → ts[i]? = some t → ∀ F, OwnP K F H' v t []) :
    RepG K B lim σ H2 g ((.ref l, .node true .lst ts) :: Φ) := by
  obtain ⟨H', hH⟩ : ∃ H' : Hp, H' = fun b => if b = l then none else H2 b := ⟨_, rfl⟩
  have e0 : H' l = none := by rw [hH]; simp
  have e1 : ∀ a, a ≠ l → H' a = H2 a := fun a h => by rw [hH]; simp [h]
  have e2 : upd H' l (.lst vs) = H2 := by
    funext b
    by_cases hb : b = l
    · subst hb
      rw [upd_same, hL]
    · rw [upd_ne hb, e1 b hb]
  have r1 : RepG K B lim σ H' g Φ := r.grow fun a o e => by
    rw [e1 a (fun z => by rw [z, hl] at e; cases e)]
    exact gr a o e
  have hT : ∀ a xs, H2 a = some (.tup xs) → H' a = some (.tup xs) := fun a xs e => by
    rw [e1 a (fun z => by subst z; rw [hL] at e; cases e)]
    exact e
  have key : ∀ (vs : List V) (ts : List T), (∀ (i : Nat) (v : V) (t : T), vs[i]? = some v → ts[i]? = some t → ∀ F, OwnP K F H' v t []) → vs.length = ts.length → RepG K B lim σ H' g (vs.zip ts ++ Φ) := by
    intro vs
    induction vs with
    | nil => intro ts _ _; exact r1
    | cons v vs ih =>
      intro ts hp hl
      cases ts with
      | nil => simp at hl
      | cons t ts => exact (ih ts (fun i v t a b => hp (i + 1) v t (by simpa using a) (by simpa using b)) (by simpa using hl)).addP (hp 0 v t rfl rfl)
  have r2 := make_of .lst hlen (key vs ts (hP H' hT) hlen) e0
  have : upd H' l (Sh.lst.mk l vs) = H2 := e2
  rw [this] at r2
  exact r2
theorem ownP_key {F : Addr → Prop} {q : Addr} {k : List Int} (h : H q = some (.tup ((ik k).map kV))) : OwnP K F H (.ref q) (keyT k) [] := .tk h (by rw [ik_kV, intsT_eq]; exact ownL_leaves _)
theorem ownP_pair {F : Addr → Prop} {t q : Addr} {b : List Int × Int} (h1 : H t = some (.tup [.ref q, .int b.2])) (h2 : H q = some (.tup ((ik b.1).map kV))) : OwnP K F H (.ref t) (lineT b) [] :=
  .tk h1 (.cons (fp := []) (ownP_key h2) (.cons (fp := []) (.leaf _) .nil))
theorem RepG.dictI {x : V} {τ : T} {kvs : List (List Int × Int)} (r : RepG K B lim σ H g ((x, τ) :: Φ)) (e : frz τ = dI false kvs) :
    ∃ a, x = .ref a ∧ H a = some (.dT (kvs.map fun b => (ik b.1, V.int b.2))) ∧ RepG K B lim σ H g Φ := by
  have r1 := r.freezeT
  rw [e] at r1
  obtain ⟨a, us, rfl, hl, ha, r2⟩ := r1.kidsH (fun z => by cases z)
  have el : (kvs.map fun p => T.leaf (.int p.2)) = (kvs.map fun p => V.int p.2).map T.leaf := by rw [List.map_map]; rfl
  rw [el] at hl r2
  obtain rfl := RepG.leaves hl r2
  refine ⟨a, rfl, ?_, r.dropT⟩
  rw [ha]
  show some (HO.dT ((kvs.map fun p => ik p.1).zip (kvs.map fun p => V.int p.2))) = _
  rw [zip_maps]
end
section
variable {X : Cx} {W : WX} {e : Expr} {td : DTE} {p pos apos cpos : Pos}
theorem dp_ints {K : PySem.W.Frag} {H : Hp} : ∀ {β : Type} (f : β → Int) (bs : List β), DpAll K H (bs.map fun b => V.int (f b)) (bs.map fun b => PyData.int (f b))
  | _, _, [] => .nil
  | _, f, b :: bs => .cons (.int _) (dp_ints f bs)
def xSortIt (td : DTE) : DTE := fun g Q E => td g (fun τ g1 => ∃ kvs, frz τ = dI false kvs ∧ (kvs.map (·.1)).Nodup ∧ Q (.node true .lst ((kvs.mergeSort leK).map lineT)) g1) E
theorem d_sortIt (hc : X.calm = true) (hu : X.A.units + 64 < cLine) (hg : Gl X "sorted") (hm : X.mg "sorted" = none) (he : DE X W e td) (hbase : attributeBase e "items" X.env (eval e X.env) = eval e X.env := by rfl) (hline : (apos.endLine == cpos.line) = true := by rfl)
    (hs : starEach [.Call (.Attribute e "items" apos) [] [] cpos] X.env = (false, eval (.Call (.Attribute e "items" apos) [] [] cpos) X.env) :: starEach [] X.env := by rfl) :
    DE X W (.Call (.Name "sorted" p) [.Call (.Attribute e "items" apos) [] [] cpos] [] pos) (xSortIt td) := by
  refine ⟨fun B => PE.imp (pe_callB (cr_sortIt hc hu) hg hm (by decide +kernel) (pa_cons (pe_bm0 PySem.F.plainAttrs_dict PySem.F.slot_dict_items PySem.F.type_dict_items DX.mt_itemsT (he.run B) hbase hline) pa_nil hs)) fun σ H Q ⟨Φ, lim, g, E, r, hx, q⟩ => ?_, fun g Q Q' E E' hq hE q => he.mono _ _ _ _ _ (fun τ g1 ⟨k, e, n, z⟩ => ⟨k, e, n, hq _ _ z⟩) hE q⟩
  refine ⟨Φ, lim, g, E, r, hx, he.mono _ _ _ _ _ (fun τ g1 ⟨kvs, e1, nd, q1⟩ x H1 r1 => ?_) (fun _ _ _ z => z) q⟩
  obtain ⟨a, rfl, ha, r2⟩ := r1.dictI e1
  refine ⟨.inr (.inr (.inl ⟨rfl, .inr ⟨_, ha⟩⟩)), a, _, rfl, rfl, ha, fun pv hp => ?_⟩
  have hpa : a ≠ pv := ne_of_none ha hp
  have inj : ∀ x ∈ kvs, ∀ y ∈ kvs, x.1 = y.1 → x = y := fun x hx y hy hxy => by
    obtain ⟨i, hi⟩ := List.getElem?_of_mem hx
    obtain ⟨j, hj⟩ := List.getElem?_of_mem hy
    have h1 : (kvs.map (·.1))[i]? = some x.1 := by rw [List.getElem?_map, hi]; rfl
    have h2 : (kvs.map (·.1))[j]? = some x.1 := by rw [List.getElem?_map, hj]; exact congrArg some hxy.symm
    have hij : i = j := (List.getElem?_inj (List.getElem?_eq_some_iff.mp h1).1 nd).mp (h1.trans h2.symm)
    subst hij
    rw [hi] at hj
    exact Option.some.inj hj
  have ha2 : upd H1 pv (DX.itemsO pv a) a = some (.dT (kvs.map fun b => (ik b.1, V.int b.2))) := by rw [upd_ne hpa]; exact ha
  refine ⟨pv, a, kvs.map fun b => (b.1, V.int b.2, PyData.int b.2), rfl, upd_same, .inl (by rw [ha2, List.map_map]; rfl), ?_, ?_, fun b hb => ?_, fun H2 l ps gr hl hlen hL hP => q1 _ _ ?_⟩
  · rw [List.map_map, List.map_map]
    exact dp_ints (fun b : List Int × Int => b.2) kvs
  · intro d hd d' hd'
    rw [List.map_map] at hd hd'
    obtain ⟨x, _, rfl⟩ := List.mem_map.mp hd
    obtain ⟨y, _, rfl⟩ := List.mem_map.mp hd'
    simp [PySem.W.alike]
  · obtain ⟨x, _, rfl⟩ := List.mem_map.mp hb
    simp [PyData.depth]
  · have es : ((kvs.map fun b => (b.1, V.int b.2, PyData.int b.2)).mergeSort (PySem.W.dataLe false itD)) = (kvs.mergeSort leK).map fun b => (b.1, V.int b.2, PyData.int b.2) :=
      (PySem.W.sort_maps (r := leK) (s := PySem.W.dataLe false itD) (fun b : List Int × Int => (b.1, V.int b.2, PyData.int b.2)) (l := kvs) fun x hx y hy => le_itD (inj x hx y hy)).symm
    rw [es, List.map_map] at hlen hP
    have r3 : RepG X.K B lim σ (upd H1 pv (DX.itemsO pv a)) g1 Φ := r2.grow fun b o e => by rw [upd_ne (ne_of_none e hp)]; exact e
    refine r3.listAt gr hl hL (by rw [List.length_map, List.length_map, hlen, List.length_map]) fun H' hT i v t hv ht F => ?_
    rw [List.getElem?_map] at hv ht
    cases hz : ps[i]? with
    | none => rw [hz] at hv; cases hv
    | some z =>
      cases hb : (kvs.mergeSort leK)[i]? with
      | none => rw [hb] at ht; cases ht
      | some b =>
        rw [hz] at hv
        rw [hb] at ht
        cases hv
        cases ht
        obtain ⟨h1, h2⟩ := hP i z (b.1, V.int b.2) hz (by rw [List.getElem?_map, hb]; rfl)
        exact ownP_pair (hT _ _ h1) (hT _ _ h2)
def xListIt (td : DTE) : DTE := fun g Q E => td g (fun τ g1 => ∃ kvs, frz τ = dI false kvs ∧ Q (.node true .lst (kvs.map lineT)) g1) E
theorem d_listIt (hc : X.calm = true) (hg : Gl X "list") (hm : X.mg "list" = none) (he : DE X W e td) (hbase : attributeBase e "items" X.env (eval e X.env) = eval e X.env := by rfl) (hline : (apos.endLine == cpos.line) = true := by rfl)
    (hs : starEach [.Call (.Attribute e "items" apos) [] [] cpos] X.env = (false, eval (.Call (.Attribute e "items" apos) [] [] cpos) X.env) :: starEach [] X.env := by rfl) :
    DE X W (.Call (.Name "list" p) [.Call (.Attribute e "items" apos) [] [] cpos] [] pos) (xListIt td) := by
  refine ⟨fun B => PE.imp (pe_callTy (cr_listIt hc) hg hm (by decide +kernel) (pa_cons (pe_bm0 PySem.F.plainAttrs_dict PySem.F.slot_dict_items PySem.F.type_dict_items DX.mt_itemsT (he.run B) hbase hline) pa_nil hs)) fun σ H Q ⟨Φ, lim, g, E, r, hx, q⟩ => ?_, fun g Q Q' E E' hq hE q => he.mono _ _ _ _ _ (fun τ g1 ⟨k, e, z⟩ => ⟨k, e, hq _ _ z⟩) hE q⟩
  refine ⟨Φ, lim, g, E, r, hx, he.mono _ _ _ _ _ (fun τ g1 ⟨kvs, e1, q1⟩ x H1 r1 => ?_) (fun _ _ _ z => z) q⟩
  obtain ⟨a, rfl, ha, r2⟩ := r1.dictI e1
  refine ⟨.inr (.inr (.inl ⟨rfl, .inr ⟨_, ha⟩⟩)), a, _, rfl, rfl, ha, fun pv hp => ?_⟩
  have hpa : a ≠ pv := ne_of_none ha hp
  have ha2 : upd H1 pv (DX.itemsO pv a) a = some (.dT (kvs.map fun b => (ik b.1, V.int b.2))) := by rw [upd_ne hpa]; exact ha
  refine ⟨pv, a, kvs.map fun b => (b.1, V.int b.2), rfl, upd_same, .inl (by rw [ha2, List.map_map]; rfl), fun H2 l ps gr hl hlen hL hP => q1 _ _ ?_⟩
  have r3 : RepG X.K B lim σ (upd H1 pv (DX.itemsO pv a)) g1 Φ := r2.grow fun b o e => by rw [upd_ne (ne_of_none e hp)]; exact e
  refine r3.listAt gr hl hL (by rw [List.length_map, List.length_map, hlen, List.length_map]) fun H' hT i v t hv ht F => ?_
  rw [List.getElem?_map] at hv ht
  cases hz : ps[i]? with
  | none => rw [hz] at hv; cases hv
  | some z =>
    cases hb : kvs[i]? with
    | none => rw [hb] at ht; cases ht
    | some b =>
      rw [hz] at hv
      rw [hb] at ht
      cases hv
      cases ht
      obtain ⟨h1, h2⟩ := hP i z (b.1, V.int b.2) hz (by rw [List.getElem?_map, hb]; rfl)
      exact ownP_pair (hT _ _ h1) (hT _ _ h2)
def xSortKT (td : DTE) : DTE := fun g Q E => td g (fun τ g1 => ∃ kvs, frz τ = dI false kvs ∧ Q (.node true .lst (((kvs.map (·.1)).mergeSort leL).map keyT)) g1) E
theorem d_sortKT (hc : X.calm = true) (hu : X.A.units + 64 < cLine) (hg : Gl X "sorted") (hm : X.mg "sorted" = none) (he : DE X W e td)
    (hs : starEach [e] X.env = (false, eval e X.env) :: starEach [] X.env := by rfl) : DE X W (.Call (.Name "sorted" p) [e] [] pos) (xSortKT td) := by
  refine ⟨fun B => PE.imp (pe_callB (cr_sortKT hc hu) hg hm (by decide +kernel) (pa_cons (he.run B) pa_nil hs) (he := hs)) fun σ H Q ⟨Φ, lim, g, E, r, hx, q⟩ => ?_, fun g Q Q' E E' hq hE q => he.mono _ _ _ _ _ (fun τ g1 ⟨k, e, z⟩ => ⟨k, e, hq _ _ z⟩) hE q⟩
  refine ⟨Φ, lim, g, E, r, hx, he.mono _ _ _ _ _ (fun τ g1 ⟨kvs, e1, q1⟩ x H1 r1 => ?_) (fun _ _ _ z => z) q⟩
  obtain ⟨a, rfl, ha, r2⟩ := r1.dictI e1
  refine ⟨a, kvs.map fun b => (b.1, V.int b.2), rfl, .inl (by rw [ha, List.map_map]; rfl), fun pv qs hp hlen hP => q1 _ _ ?_⟩
  rw [le_tupD, List.map_map] at hP
  have e3 : kvs.map ((fun x : List Int × V => x.1) ∘ fun b : List Int × Int => (b.1, V.int b.2)) = kvs.map (·.1) := rfl
  rw [e3] at hP
  refine r2.listAt (H2 := upd H1 pv (.lst (qs.map V.ref))) (fun b o e => by rw [upd_ne (ne_of_none e hp)]; exact e) hp upd_same (by rw [List.length_map, List.length_map, List.length_mergeSort, hlen, List.length_map, List.length_map]) fun H' hT i v t hv ht F => ?_
  rw [List.getElem?_map] at hv ht
  cases hz : qs[i]? with
  | none => rw [hz] at hv; cases hv
  | some z =>
    cases hb : ((kvs.map (·.1)).mergeSort leL)[i]? with
    | none => rw [hb] at ht; cases ht
    | some b =>
      rw [hz] at hv
      rw [hb] at ht
      cases hv
      cases ht
      have h1 := hP i z b hz hb
      refine ownP_key (hT _ _ ?_)
      rw [upd_ne (ne_of_none h1 hp)]
      exact h1
def xDictP (td : DTE) : DTE := fun g Q E => td g (fun τ g1 => ∃ kvs, frz τ = .node false .lst (kvs.map lineT) ∧ (∀ b ∈ kvs, b.1 ≠ [0, 1]) ∧ (kvs.map (·.1)).Nodup ∧ Q (dI true kvs) g1) E
theorem d_dictP (hc : X.calm = true) (hu : X.A.units + 64 < cLine) (hg : Gl X "dict") (hm : X.mg "dict" = none) (he : DE X W e td)
    (hs : starEach [e] X.env = (false, eval e X.env) :: starEach [] X.env := by rfl) : DE X W (.Call (.Name "dict" p) [e] [] pos) (xDictP td) := by
  refine ⟨fun B => PE.imp (pe_callTy (cr_dictPT hc hu) hg hm (by decide +kernel) (pa_cons (he.run B) pa_nil hs) (he := hs)) fun σ H Q ⟨Φ, lim, g, E, r, hx, q⟩ => ?_, fun g Q Q' E E' hq hE q => he.mono _ _ _ _ _ (fun τ g1 ⟨k, e, z, n, q⟩ => ⟨k, e, z, n, hq _ _ q⟩) hE q⟩
  refine ⟨Φ, lim, g, E, r, hx, he.mono _ _ _ _ _ (fun τ g1 ⟨kvs, e1, hz, nd, q1⟩ x H1 r1 => ?_) (fun _ _ _ z => z) q⟩
  have r2 := r1.freezeT
  rw [e1] at r2
  obtain ⟨l, vs, rfl, hl, hr, r3⟩ := r2.kids
  -- the pairs
  obtain ⟨ps, hps, lps, hpp⟩ : ∃ ps : List (Addr × Addr), vs = ps.map (fun p => V.ref p.1) ∧ ps.length = kvs.length ∧ ∀ (i : Nat) (z : Addr × Addr) (b : List Int × Int), ps[i]? = some z → kvs[i]? = some b → SqT X.K H1 z.1 [.ref z.2, .int b.2] ∧ H1 z.2 = some (.tup ((ik b.1).map kV)) := by
    have key : ∀ (kvs : List (List Int × Int)) (vs : List V) (Ψ : Its), (∀ b ∈ kvs, b.1 ≠ [0, 1]) → vs.length = (kvs.map lineT).length → RepG X.K B lim σ H1 g1 (vs.zip (kvs.map lineT) ++ Ψ) →
        ∃ ps : List (Addr × Addr), vs = ps.map (fun p => V.ref p.1) ∧ ps.length = kvs.length ∧ ∀ (i : Nat) (z : Addr × Addr) (b : List Int × Int), ps[i]? = some z → kvs[i]? = some b → SqT X.K H1 z.1 [.ref z.2, .int b.2] ∧ H1 z.2 = some (.tup ((ik b.1).map kV)) := by
      intro kvs
      induction kvs with
      | nil =>
        intro vs Ψ _ hl _
        have : vs = [] := List.eq_nil_of_length_eq_zero (by simpa using hl)
        subst this
        exact ⟨[], rfl, rfl, fun i z b h => by simp at h⟩
      | cons b kvs ih =>
        intro vs Ψ hz hl r
        cases vs with
        | nil => simp at hl
        | cons v vs =>
          have r' : RepG X.K B lim σ H1 g1 ((v, lineT b) :: (vs.zip (kvs.map lineT) ++ Ψ)) := r
          obtain ⟨ps, g1', g2, g3⟩ := ih vs Ψ (fun b hb => hz b (List.mem_cons_of_mem _ hb)) (by simpa using hl) r'.dropT
          obtain ⟨t, ws, rfl, hw, hrt, r4⟩ := r'.kids
          match ws, hw with
          | [w1, w2], _ =>
            have r5 : RepG X.K B lim σ H1 g1 ((w1, keyT b.1) :: (w2, .leaf (.int b.2)) :: _) := r4
            obtain ⟨q, rfl, hq⟩ := r5.keyH (flatI_ints b.1) (hz b List.mem_cons_self)
            have ew := r5.dropT.leaf
            subst ew
            refine ⟨(t, q) :: ps, by rw [g1']; rfl, by simp [g2], fun i z b' h1 h2 => ?_⟩
            cases i with
            | zero =>
              obtain rfl : (t, q) = z := Option.some.inj h1
              obtain rfl : b = b' := Option.some.inj h2
              exact ⟨seqT hrt, hq⟩
            | succ i => exact g3 i z b' (by simpa using h1) (by simpa using h2)
    exact key kvs vs _ hz hl r3
  obtain ⟨qs, hqs⟩ : ∃ qs : List (Addr × Addr × List Int × V), qs = (ps.zip kvs).map fun z => (z.1.1, z.1.2, z.2.1, V.int z.2.2) := ⟨_, rfl⟩
  have m1 : (ps.zip kvs).map (·.1) = ps := List.map_fst_zip (by omega)
  have m2 : (ps.zip kvs).map (·.2) = kvs := List.map_snd_zip (by omega)
  have e4 : (qs.map fun p => V.ref p.1) = vs := by
    rw [hqs, List.map_map, hps, ← m1, List.map_map]
    rw [m1]
    rfl
  have e5 : qs.map (·.2.2.1) = kvs.map (·.1) := by
    have : qs.map (·.2.2.1) = ((ps.zip kvs).map (·.2)).map (·.1) := by
      rw [hqs, List.map_map, List.map_map]
      rfl
    rw [this, m2]
  refine ⟨l, qs, rfl, by rw [e4]; exact seqL hr, fun p hp => ?_, by rw [e5]; exact nd, fun pv hpv => q1 _ _ ?_⟩
  · rw [hqs] at hp
    obtain ⟨z, hz, rfl⟩ := List.mem_map.mp hp
    obtain ⟨j, hj⟩ := List.getElem?_of_mem hz
    obtain ⟨j1, j2⟩ := List.getElem?_zip_eq_some.mp hj
    exact hpp j z.1 z.2 j1 j2
  · have e6 : (qs.map fun z => (ik z.2.2.1, z.2.2.2)) = (kvs.map fun p => ik p.1).zip (kvs.map fun p => V.int p.2) := by
      rw [zip_maps, hqs, List.map_map]
      have : (ps.zip kvs).map ((fun z : Addr × Addr × List Int × V => (ik z.2.2.1, z.2.2.2)) ∘ fun z => (z.1.1, z.1.2, z.2.1, V.int z.2.2)) = ((ps.zip kvs).map (·.2)).map fun b => (ik b.1, V.int b.2) := by
        rw [List.map_map]
        rfl
      rw [this, m2]
    rw [e6]
    have r6 : RepG X.K B lim σ H1 g1 ((kvs.map fun p => V.int p.2).zip ((kvs.map fun p => V.int p.2).map T.leaf) ++ Φ) := leavesR r1.dropT _
    have e7 : (kvs.map fun p => V.int p.2).map T.leaf = kvs.map fun p => T.leaf (.int p.2) := by rw [List.map_map]; rfl
    rw [e7] at r6
    exact make_of (.dT (kvs.map fun p => ik p.1)) (by simp) r6 hpv
end
end DL
set_option Elab.async false
set_option linter.all false
set_option maxRecDepth 100000
set_option maxHeartbeats 4000000
namespace DL
open PySem L2
theorem du1 {a b : Nat} (h : a + 64 < b) : a + 1 < b := by omega
section
variable {X : Cx} {W : WX} {e : Expr} {te : DTE} {pos : Pos}
def xExt (i : Nat) (te : DTE) : DTE := fun g Q E => atSlot i g fun t0 => ownL t0 fun _ => te g (fun τ g1 => ∃ us, frz τ = .node false .lst us ∧ atSlot i g1 fun t1 => ownL t1 fun ts => ts.length + us.length ≤ sizeLine ∧ Q (.leaf .non) (g1.set i (some (.node true .lst (ts ++ us))))) E
theorem d_ext {o : Expr} {apos cpos : Pos} (i : Nat) (ho : PE X o (tVar i)) (he : DE X W e te) (hbase : attributeBase o "extend" X.env (eval o X.env) = eval o X.env := by rfl)
    (hfew : ((backTo cpos (starEach [e] X.env)).all (fun x => !x.1) && (backToKw cpos (keywordEach [] X.env)).all (fun x => x.1.isSome) && decide ([e].length + ([] : List Keyword).length + (if ([] : List Keyword).isEmpty then 0 else 1) < 30)) = true := by rfl)
    (hline : (apos.endLine == cpos.line) = true := by rfl) (hs : starEach [e] X.env = (false, eval e X.env) :: starEach [] X.env := by rfl) (hplain : (backTo cpos (starEach [] X.env)).any (·.1) = false := by rfl) : DE X W (.Call (.Attribute o "extend" apos) [e] [] cpos) (xExt i te) := by
  refine ⟨fun B => PE.imp (pe_bm PySem.F.plainAttrs_list PySem.F.slot_list_extend PySem.F.type_list_extend mt_extend ho (pa_cons (he.run B) pa_nil hs) hbase hfew hline hs hplain) fun σ H Q ⟨Φ, lim, g, E, r, hx, q⟩ => ?_, fun g Q Q' E E' hq hE q => ?_⟩
  · obtain ⟨t0, h0, q⟩ := atSlot_of q
    obtain ⟨ts0, rfl, q⟩ := ownL_of q
    obtain ⟨ad, us, hv, hl, hH, _⟩ := r.renew (s' := .lst) h0
    refine ⟨.ref ad, hv, .inl ⟨rfl, us, SqL.of hH⟩, Φ, lim, g, E, r, hx, he.mono _ _ _ _ _ (fun τ g1 ⟨ws, ew, q1⟩ w H1 r1 => ?_) (fun _ _ _ z => z) q⟩
    obtain ⟨t1, h1, q1⟩ := atSlot_of q1
    obtain ⟨ts, rfl, hlt, q1⟩ := ownL_of q1
    have r2 := r1.freezeT
    rw [ew] at r2
    obtain ⟨b, vs, rfl, hlv, hb, r3⟩ := r2.kidsH (fun z => by cases z)
    have r4 : RepG X.K B lim σ H1 g1 (vs.zip ws ++ Φ) := (r3.perm List.perm_middle).dropT
    obtain ⟨ad2, us2, hv2, hl2, hH2, k⟩ := r4.renew (s' := .lst) h1
    rw [hv] at hv2
    cases hv2
    refine ⟨ad, b, us2, vs, rfl, rfl, hH2, hb, by omega, ?_⟩
    have e1 : ((us2.zip ts ++ vs.zip ws).map (·.1)) = us2 ++ vs := by
      rw [List.map_append, List.map_fst_zip (by omega), List.map_fst_zip (by omega)]
    have e2 : ((us2.zip ts ++ vs.zip ws).map (·.2)) = ts ++ ws := by
      rw [List.map_append, List.map_snd_zip (by omega), List.map_snd_zip (by omega)]
    have r5 := k (us2.zip ts ++ vs.zip ws) Φ (by rw [List.append_assoc])
    rw [e1, e2] at r5
    exact q1 _ _ r5.addLeaf
  · exact atSlot_mono (fun t0 q => ownL_mono (fun _ q => he.mono _ _ _ _ _ (fun τ g1 ⟨us, e, q1⟩ => ⟨us, e, atSlot_mono (fun t1 q2 => ownL_mono (fun ts q3 => ⟨q3.1, hq _ _ q3.2⟩) q2) q1⟩) hE q) q) q
def xAppE (to te : DTE) : DTE := fun g Q E => to g (fun τ g1 => ownL τ fun ts => te g1 (fun _ g2 => ts.length < sizeLine ∧ Q (.leaf .non) g2) E) E
theorem d_appE {o : Expr} {to : DTE} {apos cpos : Pos} (ho : DE X W o to) (he : DE X W e te) (hbase : attributeBase o "append" X.env (eval o X.env) = eval o X.env := by rfl)
    (hfew : ((backTo cpos (starEach [e] X.env)).all (fun x => !x.1) && (backToKw cpos (keywordEach [] X.env)).all (fun x => x.1.isSome) && decide ([e].length + ([] : List Keyword).length + (if ([] : List Keyword).isEmpty then 0 else 1) < 30)) = true := by rfl)
    (hline : (apos.endLine == cpos.line) = true := by rfl) (hs : starEach [e] X.env = (false, eval e X.env) :: starEach [] X.env := by rfl) (hplain : (backTo cpos (starEach [] X.env)).any (·.1) = false := by rfl) : DE X W (.Call (.Attribute o "append" apos) [e] [] cpos) (xAppE to te) := by
  refine ⟨fun B => PE.imp (pe_bm PySem.F.plainAttrs_list PySem.F.slot_list_append PySem.F.type_list_append mt_append (ho.run B) (pa_cons (he.run B) pa_nil hs) hbase hfew hline hs hplain) fun σ H Q ⟨Φ, lim, g, E, r, hx, q⟩ => ?_, fun g Q Q' E E' hq hE q => ?_⟩
  · refine ⟨Φ, lim, g, E, r, hx, ho.mono _ _ _ _ _ (fun τ g1 q1 v H1 r1 => ?_) (fun _ _ _ z => z) q⟩
    obtain ⟨ts, rfl, q1⟩ := ownL_of q1
    obtain ⟨ad, us, rfl, hl, hH, _⟩ := r1.open_
    refine ⟨.inl ⟨rfl, us, SqL.of hH⟩, _, lim, g1, E, r1, hx, he.mono _ _ _ _ _ (fun τ2 g2 ⟨hlt, q2⟩ w H2 r2 => ?_) (fun _ _ _ z => z) q1⟩
    have r3 : RepG X.K B lim σ H2 g2 ((.ref ad, .node true .lst ts) :: Φ) := r2.dropT
    obtain ⟨ad2, us2, e2, hl2, hH2, r4⟩ := r3.open_
    cases e2
    refine ⟨ad, us2, w, rfl, rfl, hH2, by omega, ?_⟩
    have r5 : RepG X.K B lim σ (upd H2 ad (.lst (us2 ++ [w]))) g2 Φ := by
      have rw5 : RepG X.K B (ad :: lim) σ H2 g2 ((us2 ++ [w]).zip (ts ++ [T.leaf w]) ++ Φ) := by
        rw [List.zip_append (by omega)]
        rw [List.append_assoc]
        have r6 := r4.addLeaf (v := w)
        exact r6.perm (List.perm_middle (l₁ := us2.zip ts) (a := (w, T.leaf w)) (l₂ := Φ)).symm
      have r7 := rw5.close (s := .lst) (fun vs e => nomatch (show HO.lst us2 = HO.tup vs from Option.some.inj (hH2.symm.trans e)))
      have hlen : (us2 ++ [w]).length = (ts ++ [T.leaf w]).length := by simp [hl2]
      rw [List.map_fst_zip (by omega), List.map_snd_zip (by omega)] at r7
      exact r7.dropT
    exact q2 _ _ r5.addLeaf
  · exact ho.mono _ _ _ _ _ (fun τ g1 q1 => ownL_mono (fun ts q2 => he.mono _ _ _ _ _ (fun τ2 g2 q3 => ⟨q3.1, hq _ _ q3.2⟩) hE q2) q1) hE q
def xSortKTO (i : Nat) : DTE := fun g Q _ => atSlot i g fun t0 => ∃ kvs, t0 = dI true kvs ∧ Q (.node true .lst (((kvs.map (·.1)).mergeSort leL).map keyT)) g
theorem d_sortKTO {p : Pos} {o : Expr} (i : Nat) (hc : X.calm = true) (hu : X.A.units + 64 < cLine) (hg : Gl X "sorted") (hm : X.mg "sorted" = none) (ho : PE X o (tVar i))
    (hs : starEach [o] X.env = (false, eval o X.env) :: starEach [] X.env := by rfl) : DE X W (.Call (.Name "sorted" p) [o] [] pos) (xSortKTO i) := by
  refine ⟨fun B => PE.imp (pe_callB (cr_sortKT hc hu) hg hm (by decide +kernel) (pa_cons ho pa_nil hs) (he := hs)) fun σ H Q ⟨Φ, lim, g, E, r, hx, q⟩ => ?_, fun g Q Q' E E' hq hE q => atSlot_mono (fun t0 ⟨k, e, z⟩ => ⟨k, e, hq _ _ z⟩) q⟩
  obtain ⟨t0, h0, kvs, rfl, q1⟩ := atSlot_of q
  obtain ⟨a, us, hv, hl, ha, k⟩ := r.renew (s' := .dT (kvs.map fun p => ik p.1)) h0
  -- the values are these numbers
  have eu : us = kvs.map fun p => V.int p.2 := by
    obtain ⟨v, hv2, r1⟩ := r.move h0
    obtain ⟨a2, us2, rfl, hl2, ha2, r2⟩ := r1.open_
    have el : (kvs.map fun p => T.leaf (.int p.2)) = (kvs.map fun p => V.int p.2).map T.leaf := by rw [List.map_map]; rfl
    rw [el] at hl2 r2
    have e2 := RepG.leaves hl2 r2
    rw [hv] at hv2
    cases hv2
    rw [ha] at ha2
    have e3 : (kvs.map fun p => ik p.1).zip us = (kvs.map fun p => ik p.1).zip us2 := HO.dT.inj (Option.some.inj ha2)
    have h1 : ((kvs.map fun p => ik p.1).zip us).map (·.2) = us := List.map_snd_zip (by rw [hl, List.length_map, List.length_map]; exact Nat.le_refl _)
    have h2 : ((kvs.map fun p => ik p.1).zip us2).map (·.2) = us2 := List.map_snd_zip (by rw [hl2, List.length_map, List.length_map, List.length_map]; exact Nat.le_refl _)
    rw [← h1, e3, h2, e2]
  refine ⟨_, hv, a, kvs.map fun b => (b.1, V.int b.2), rfl, .inl ?_, fun pv qs hp hlen hP => q1 _ _ ?_⟩
  · rw [ha, eu, List.map_map]
    show some (HO.dT ((kvs.map fun p => ik p.1).zip (kvs.map fun p => V.int p.2))) = _
    rw [zip_maps]
    rfl
  · rw [le_tupD, List.map_map] at hP
    have e3 : kvs.map ((fun x : List Int × V => x.1) ∘ fun b : List Int × Int => (b.1, V.int b.2)) = kvs.map (·.1) := rfl
    rw [e3] at hP
    refine r.listAt (H2 := upd H pv (.lst (qs.map V.ref))) (fun b o e => by rw [upd_ne (ne_of_none e hp)]; exact e) hp upd_same (by rw [List.length_map, List.length_map, List.length_mergeSort, hlen, List.length_map, List.length_map]) fun H' hT i v t hv ht F => ?_
    rw [List.getElem?_map] at hv ht
    cases hz : qs[i]? with
    | none => rw [hz] at hv; cases hv
    | some z =>
      cases hb : ((kvs.map (·.1)).mergeSort leL)[i]? with
      | none => rw [hb] at ht; cases ht
      | some b =>
        rw [hz] at hv
        rw [hb] at ht
        cases hv
        cases ht
        have h1 := hP i z b hz hb
        refine ownP_key (hT _ _ ?_)
        rw [upd_ne (ne_of_none h1 hp)]
        exact h1
end
end DL
set_option Elab.async false
set_option linter.all false
set_option maxRecDepth 100000
set_option maxHeartbeats 4000000
namespace DL
section
open PySem PySem.Spec PyProof.Rows L2
variable {X : Cx} {a e : Expr} {ta : TE} {p p2 q pos : Pos}
def tLenSetI (K : PySem.W.Frag) (ta : TE) : TE := fun σ H Q => ta σ H fun x H1 => ∃ (l : Addr) (ns : List Int), x = V.ref l ∧ SqL K H1 l (ns.map V.int) ∧ ns.length < 64 ∧
  ∀ ns' : List Int, ns'.Nodup → (∀ k : Int, k ∈ ns' ↔ k ∈ ns) → Q (.int ns'.length) H1
theorem pe_lenSetI (hg : Gl X "len") (hm : X.mg "len" = none) (hg2 : Gl X "set") (hm2 : X.mg "set" = none) (ha : PE X a ta) (hc : X.calm = true := by rfl)
    (na : starEach [a] X.env = (false, eval a X.env) :: starEach [] X.env := by rfl) : PE X (.Call (.Name "len" p) [.Call (.Name "set" p2) [a] [] q] [] pos) (tLenSetI X.K ta) := by
  refine ⟨fun pins s σ H Q I h => ?_⟩
  refine Call_ (ld_blt I hg hm boot_len ?_)
  refine PyProof.Rows.callWith_builtin1 (PyProof.Rows.args_cons ?_ rfl) rfl rfl
  refine Call_ (ld_blt I hg2 hm2 boot_set ?_)
  refine PyProof.Rows.callWith_type1 (PyProof.Rows.args_cons (thn (ha.run pins s σ H _ I h) fun v s1 ⟨x, H1, I1, r1, q1⟩ => PyProof.Rows.args_nil ?_) na) na rfl
  obtain ⟨l, ns, rfl, hq, hl, q1⟩ := q1
  cases r1
  obtain ⟨its, r, pl, hz⟩ := I1.list hq
  have hlen : its.toArray.size = ns.length := by rw [List.size_toArray, ← r.length, List.length_map]
  refine call_set_lstI ns (I1.ok.hd hc) pl.isList (by simpa using RZ.intsAre_vals r) (by unfold scanBound; omega) fun h' tk c hS hc2 hk => ?_
  refine PyProof.Rows.args_nil ?_
  have I2 : Inv X pins σ H1 { s1 with heap := h', toks := tk } := I1.kept fun b o e => hk b o e
  obtain ⟨o, es, ep, t, ho, hex, hd, _, hnd, hmem, hsc, hf, hn, _⟩ := hS
  have hb : es.size < 2 ^ 62 := by
    have : scanBound ≤ 2 ^ 62 := by decide
    omega
  refine call_len_set ho hex hd hf (by omega) ⟨.int es.size, H1, I2.tok _, ⟨_, rfl⟩, ?_⟩
  have := q1 (es.toList.map keyOf) hnd fun k => by
    rw [← hmem k]
    simp
  rw [List.length_map, Array.length_toList] at this
  exact this
end
section
open PySem PySem.Spec PyProof.Rows L2
variable {X : Cx} {W : WX} {m : Nat → Bool} {a e : Expr} {ta : DTE} {p p2 q pos : Pos}
def xLenSet (ta : DTE) : DTE := fun g Q E => ta g (fun τ g1 => match τ with
  | .node _ .lst ts => ∃ ns : List Int, ts = intsT ns ∧ ns.length < 64 ∧ ∀ ns' : List Int, ns'.Nodup → (∀ k : Int, k ∈ ns' ↔ k ∈ ns) → Q (.leaf (.int ns'.length)) g1
  | _ => False) E
theorem d_lenSet (hg : Gl X "len") (hm : X.mg "len" = none) (hg2 : Gl X "set") (hm2 : X.mg "set" = none) (ha : DE X W a ta) (hc : X.calm = true := by rfl)
    (na : starEach [a] X.env = (false, eval a X.env) :: starEach [] X.env := by rfl) : DE X W (.Call (.Name "len" p) [.Call (.Name "set" p2) [a] [] q] [] pos) (xLenSet ta) := by
  refine ⟨fun B => PE.imp (pe_lenSetI hg hm hg2 hm2 (ha.run B) hc na) fun σ H Q ⟨Φ, lim, g, E, r, hx, q⟩ => ?_, fun g Q Q' E E' hq hE q => ha.mono _ _ _ _ _ (fun τ g1 q1 => ?_) hE q⟩
  · refine ⟨Φ, lim, g, E, r, hx, ha.mono _ _ _ _ _ (fun τ g1 q1 v H1 r1 => ?_) (fun _ _ _ z => z) q⟩
    split at q1
    · rename_i o ts
      obtain ⟨ns, rfl, hl, q1⟩ := q1
      have r2 : RepG X.K B lim σ H1 g1 ((v, .node o .lst ((ns.map V.int).map T.leaf)) :: Φ) := by
        rw [← intsT_eq]
        exact r1
      obtain ⟨ad, rfl, hr⟩ := r2.flats
      exact ⟨ad, ns, rfl, seqL hr, hl, fun ns' h1 h2 => q1 ns' h1 h2 _ _ r2.dropT.addLeaf⟩
    · exact q1.elim
  · split at q1
    · obtain ⟨ns, e, hl, q1⟩ := q1
      exact ⟨ns, e, hl, fun ns' h1 h2 => hq _ _ (q1 ns' h1 h2)⟩
    · exact q1.elim
end
end DL
set_option Elab.async false
set_option linter.all false
set_option maxRecDepth 100000
set_option maxHeartbeats 4000000
namespace DL
open PySem L2
def Fits : List (Option (Option T)) → Ev → Prop
  | [], g => g = []
  | some x :: ps, g => ∃ r, g = x :: r ∧ Fits ps r
  | none :: ps, g => ∃ y r, g = y :: r ∧ Fits ps r
theorem Fits.e : Fits [] [] := rfl
theorem Fits.s {x y : Option T} {ps : List (Option (Option T))} {r : Ev} (e : y = x) (h : Fits ps r) : Fits (some x :: ps) (y :: r) := ⟨r, by rw [e], h⟩
theorem Fits.n {y : Option T} {ps : List (Option (Option T))} {r : Ev} (h : Fits ps r) : Fits (none :: ps) (y :: r) := ⟨y, r, rfl, h⟩
theorem Loop.fit {gt : DTG} {body : DTS} {D : DEnds} {ts : List T} {g : Ev} {α β : Type} (xs : List β) (enc : β → T) (e : ts = xs.map enc) (st : α → List (Option (Option T))) (I : Nat → α → Prop) (a0 : α) (h0 : I 0 a0) (e0 : Fits (st a0) g)
    (hs : ∀ (i : Nat) (x : β) (a : α) (g : Ev), xs[i]? = some x → I i a → Fits (st a) g → ∀ R : Ev → Prop, (∀ a' g', I (i + 1) a' → Fits (st a') g' → R g') → gt (enc x) g fun g1 => body (lpE R D) g1)
    (he : ∀ a g, I xs.length a → Fits (st a) g → D.nx g) : Loop gt body D ts g := by
  subst e
  refine Loop.ind (fun i g => ∃ a, I i a ∧ Fits (st a) g) ⟨a0, h0, e0⟩ (fun i t g ht ⟨a, hI, hF⟩ R hR => ?_) fun g ⟨a, hI, hF⟩ => he a g (by rw [List.length_map] at hI; exact hI) hF
  rw [List.getElem?_map] at ht
  cases hx : xs[i]? with
  | none => rw [hx] at ht; cases ht
  | some x =>
    rw [hx] at ht
    cases ht
    exact hs i x a g hx hI hF R fun a' g' h1 h2 => hR g' ⟨a', h1, h2⟩
theorem Loop.rg {gt : DTG} {body : DTS} {D : DEnds} {g : Ev} {α : Type} {lo : Int} {n : Nat} (st : α → List (Option (Option T))) (I : Nat → α → Prop) (a0 : α) (h0 : I 0 a0) (e0 : Fits (st a0) g)
    (hs : ∀ (i : Nat) (a : α) (g : Ev), i < n → I i a → Fits (st a) g → ∀ R : Ev → Prop, (∀ a' g', I (i + 1) a' → Fits (st a') g' → R g') → gt (.leaf (.int (lo + (i : Nat)))) g fun g1 => body (lpE R D) g1)
    (he : ∀ a g, I n a → Fits (st a) g → D.nx g) : Loop gt body D (rangeT lo n) g := by
  refine Loop.fit (List.range n) (fun k => .leaf (.int (lo + (k : Nat)))) rfl st I a0 h0 e0 (fun i x a g hx hI hF R hR => ?_) fun a g hI hF => he a g (by rw [List.length_range] at hI; exact hI) hF
  have hlt : i < n := by
    have := (List.getElem?_eq_some_iff.mp hx).1
    rwa [List.length_range] at this
  rw [List.getElem?_range hlt] at hx
  cases hx
  exact hs i a g hlt hI hF R hR
theorem Lc.fit {gt : DTG} {tt : DTT} {te : DTE} {vs : List Nat} {ts : List T} {g : Ev} {R : List T → Ev → Prop} {α β : Type} (xs : List β) (enc : β → T) (e : ts = xs.map enc) (st : α → List (Option (Option T))) (I : Nat → α → List T → Prop) (a0 : α) (h0 : I 0 a0 []) (e0 : Fits (st a0) g)
    (hs : ∀ (i : Nat) (x : β) (a : α) (g : Ev) (acc : List T), xs[i]? = some x → I i a acc → Fits (st a) g → ∀ R' : Ev → List T → Prop, (∀ a' g' acc', I (i + 1) a' acc' → Fits (st a') g' → R' g' acc') →
      gt (enc x) g fun g1 => tt g1 (fun b g2 => ifB b (te g2 (fun τ g3 => acc.length < sizeLine ∧ R' (wipeE g3 vs) (acc ++ [τ])) noX) (R' (wipeE g2 vs) acc)) noX)
    (he : ∀ a g acc, I xs.length a acc → Fits (st a) g → R acc g) : Lc gt tt te vs ts g [] R := by
  subst e
  refine Lc.ind (fun i g acc => ∃ a, I i a acc ∧ Fits (st a) g) ⟨a0, h0, e0⟩ (fun i t g acc ht ⟨a, hI, hF⟩ R' hR => ?_) fun g acc ⟨a, hI, hF⟩ => he a g acc (by rw [List.length_map] at hI; exact hI) hF
  rw [List.getElem?_map] at ht
  cases hx : xs[i]? with
  | none => rw [hx] at ht; cases ht
  | some x =>
    rw [hx] at ht
    cases ht
    exact hs i x a g acc hx hI hF R' fun a' g' acc' h1 h2 => hR g' acc' ⟨a', h1, h2⟩
theorem Lc.fx {gt : DTG} {tt : DTT} {te : DTE} {vs : List Nat} {ts : List T} {g : Ev} {R : List T → Ev → Prop} {β : Type} (xs : List β) (enc : β → T) (e : ts = xs.map enc) (F : β → Option T) (hl : xs.length ≤ sizeLine)
    (hs : ∀ x ∈ xs, ∀ (acc : List T) (R' : Ev → List T → Prop), acc.length < sizeLine → (∀ τ, F x = some τ → R' g (acc ++ [τ])) → (F x = none → R' g acc) →
      gt (enc x) g fun g1 => tt g1 (fun b g2 => ifB b (te g2 (fun τ g3 => acc.length < sizeLine ∧ R' (wipeE g3 vs) (acc ++ [τ])) noX) (R' (wipeE g2 vs) acc)) noX)
    (he : R (xs.filterMap F) g) : Lc gt tt te vs ts g [] R := by
  subst e
  refine Lc.ind (fun i g' acc => g' = g ∧ acc = (xs.take i).filterMap F ∧ i ≤ xs.length) ⟨rfl, by simp, Nat.zero_le _⟩ (fun i t g' acc ht h R' hR => ?_) fun g' acc h => ?_
  · obtain ⟨rfl, rfl, hi⟩ := h
    rw [List.getElem?_map] at ht
    cases hx : xs[i]? with
    | none => rw [hx] at ht; cases ht
    | some x =>
      rw [hx] at ht
      cases ht
      have hlt : i < xs.length := (List.getElem?_eq_some_iff.mp hx).1
      have e1 : xs.take (i + 1) = xs.take i ++ [x] := by
        rw [List.take_add_one, hx]
        rfl
      refine hs x (List.mem_of_getElem? hx) _ R' ?_ (fun τ hτ => hR _ _ ⟨rfl, ?_, hlt⟩) (fun hn => hR _ _ ⟨rfl, ?_, hlt⟩)
      · have h1 := List.length_filterMap_le F (xs.take i)
        rw [List.length_take] at h1
        omega
      · rw [e1, List.filterMap_append]
        simp [hτ]
      · rw [e1, List.filterMap_append]
        simp [hn]
  · obtain ⟨rfl, rfl, _⟩ := h
    rw [List.length_map, List.take_length]
    exact he
theorem eqv_intsL (a b : List Int) : PyData.eqv (.list (a.map .int)) (.list (b.map .int)) = decide (a = b) := by
  have al : W.alike (.list (a.map .int)) (.list (b.map .int)) = true := by
    simp only [W.alike]
    exact W.alike_ints _ _
  by_cases h : a = b
  · subst h
    rw [decide_eq_true rfl]
    exact W.eqv_refl_alike _ al
  · rw [decide_eq_false h]
    cases e : PyData.eqv (.list (a.map .int)) (.list (b.map .int)) with
    | false => rfl
    | true =>
      refine absurd (toks_inj ?_) h
      have := (W.toks_eqv _ _ al).1 e
      simpa [W.keyToks] using this
theorem toP_tints (o : Bool) (ns : List Int) : toP (.node o .tup (intsT ns)) = some (.tuple (ns.map .int)) := by
  simp only [toP, toPL_ints]
  rfl
theorem toP_lints (o : Bool) (ns : List Int) : toP (.node o .lst (intsT ns)) = some (.list (ns.map .int)) := by
  simp only [toP, toPL_ints]
  rfl
theorem good_tints {ns : List Int} (h : ∀ n ∈ ns, n.natAbs < 2 ^ 1800) (hl : ns.length ≤ 7000) : GoodD (.tuple (ns.map .int)) := ⟨by simpa [smallD] using smallL_ints h, by simp [PyData.depth, depthAll_ints], by simp [szD, szL_ints]; omega⟩
theorem rtEq_l {neg o p : Bool} {a b : List Int} {Q : T → Prop} (ha : GoodD (.list (a.map .int))) (hb : GoodD (.list (b.map .int))) (q : Q (.leaf (.bl (if neg then !decide (a = b) else decide (a = b))))) : rtEq neg (.node o .lst (intsT a)) (.node p .lst (intsT b)) Q := by
  refine ⟨_, _, toP_lints o a, toP_lints p b, ha.shaped, hb.shaped, ?_⟩
  rw [eqv_intsL]
  exact q
theorem rtEq_t {neg o p : Bool} {a b : List Int} {Q : T → Prop} (ha : GoodD (tupD a)) (hb : GoodD (tupD b)) (q : Q (.leaf (.bl (if neg then !decide (a = b) else decide (a = b))))) : rtEq neg (.node o .tup (intsT a)) (.node p .tup (intsT b)) Q := by
  refine ⟨_, _, toP_tints o a, toP_tints p b, ha.shaped, hb.shaped, ?_⟩
  rw [eqv_tupD]
  exact q
theorem pure_ints' (ns : List Int) : pureT (.node true .tup (intsT ns)) = true := by
  show (true && pureL (intsT ns)) = true
  induction ns with
  | nil => rfl
  | cons n ns ih =>
    simp only [intsT, List.map_cons, pureL, pureT, Bool.true_and] at ih ⊢
    exact ih
theorem small62 {i : Int} (h : i.natAbs < 2 ^ 62) : i.natAbs < 2 ^ 1800 := small_of_abs (Nat.lt_of_lt_of_le h (by decide))
theorem sz_int (i : Int) : szD (.int i) = 1 := by simp [szD]
end DL
set_option Elab.async false
set_option linter.all false
set_option maxRecDepth 100000
set_option maxHeartbeats 4000000
namespace DL
open PySem L2
def zipT (ts us : List T) : List T := (ts.zip us).map fun p => .node true .tup [p.1, p.2]
theorem zipT_get {ts us : List T} {i : Nat} {t : T} (h : (zipT ts us)[i]? = some t) : ∃ a b, ts[i]? = some a ∧ us[i]? = some b ∧ t = .node true .tup [a, b] := by
  unfold zipT at h
  rw [List.getElem?_map] at h
  cases e : (ts.zip us)[i]? with
  | none => rw [e] at h; cases h
  | some p =>
    rw [e] at h
    cases h
    obtain ⟨h1, h2⟩ := List.getElem?_zip_eq_some.mp e
    exact ⟨_, _, h1, h2, rfl⟩
theorem zipT_len (ts us : List T) : (zipT ts us).length = min ts.length us.length := by simp [zipT]
section
variable {K : PySem.W.Frag} {B : Bs} {lim : List Addr} {σ : St} {H : Hp} {g : Ev} {Φ : Its}
theorem walks_zipL {a b : Addr} {vs ws : List V} {ts us : List T} (hl : vs.length = ts.length) (hl2 : ws.length = us.length) (hf : ∀ (i : Nat) (t : T), ts[i]? = some t → frz t = t) (hf2 : ∀ (i : Nat) (t : T), us[i]? = some t → frz t = t) :
    Walks K B lim (Itz K a b) ((.ref b, .pin .lst ws) :: (ws.zip us ++ ((.ref a, .pin .lst vs) :: vs.zip ts))) (zipT ts us) := by
  intro σ H g Φ i r
  have sq2 : SqL K H b ws := by
    obtain ⟨b', e, hr⟩ := RepG.pinAt (Φ := (ws.zip us ++ ((.ref a, .pin .lst vs) :: vs.zip ts)) ++ Φ) r
    cases e
    exact seqL hr
  have sq : SqL K H a vs := by
    have r1 : RepG K B lim σ H g ((.ref a, .pin .lst vs) :: ((.ref b, .pin .lst ws) :: (ws.zip us ++ vs.zip ts ++ Φ))) := by
      refine r.perm ?_
      rw [List.cons_append, List.append_assoc, List.cons_append, List.append_assoc]
      refine (List.Perm.cons _ List.perm_middle).trans (List.Perm.swap _ _ _)
    obtain ⟨b', e, hr⟩ := RepG.pinAt r1
    cases e
    exact seqL hr
  refine ⟨fun t ht => ?_, fun hi => ⟨vs, ws, sq, sq2, by rw [zipT_len] at hi; omega⟩⟩
  obtain ⟨u1, u2, hu1, hu2, rfl⟩ := zipT_get ht
  obtain ⟨v1, hv1, hz1⟩ := zip_get hl hu1
  obtain ⟨v2, hv2, hz2⟩ := zip_get hl2 hu2
  refine ⟨⟨vs, ws, v1, v2, sq, sq2, hv1, hv2⟩, fun x H' y => ?_⟩
  obtain ⟨T0, x', y', rfl, hn, rfl, y1, y2⟩ := y
  have hx := y1 vs sq
  rw [hv1] at hx
  cases hx
  have hy := y2 ws sq2
  rw [hv2] at hy
  cases hy
  have hlt : i < (ws.zip us).length := (List.getElem?_eq_some_iff.mp hz2).1
  have r1 := RepG.dupAt (zs := (.ref b, .pin .lst ws) :: (ws.zip us ++ ((.ref a, .pin .lst vs) :: vs.zip ts))) (i := i + 1) r (by rw [List.getElem?_cons_succ, List.getElem?_append_left hlt]; exact hz2) (hf2 i u2 hu2)
  have r2 := RepG.dupAt (zs := (v2, u2) :: (.ref b, .pin .lst ws) :: (ws.zip us ++ ((.ref a, .pin .lst vs) :: vs.zip ts))) (i := (ws.zip us).length + 1 + i + 2) r1 (by
    rw [List.getElem?_cons_succ, List.getElem?_cons_succ, List.getElem?_append_right (by omega)]
    rw [show (ws.zip us).length + 1 + i - (ws.zip us).length = i + 1 by omega, List.getElem?_cons_succ]
    exact hz1) (hf i u1 hu1)
  exact make_pair r2 hn
end
section
variable {X : Cx} {W : WX} {m : Nat → Bool} {e e2 : Expr} {es : List Expr} {t : DTA} {bs : List (Option Nat)} {pos p tpos : Pos}
def iZp (t : DTA) : DTI := fun g Q E => t g (fun τs g1 => ∃ o1 ts o2 us, τs = [.node o1 .lst ts, .node o2 .lst us] ∧ Q (zipT (frzL ts) (frzL us)) g1) E
theorem di_zip {elts : List Expr} {kk : Nat} (hg : Gl X "zip") (hm : X.mg "zip" = none) (ha : DA X W [e, e2] bs t) (hs : starEach [e, e2] X.env = (false, eval e X.env) :: starEach [e2] X.env := by rfl) (hpl : (backTo pos (starEach [e2] X.env)).any (·.1) = false := by rfl) :
    DI X W (.Tuple elts kk tpos) (.Call (.Name "zip" p) [e, e2] [] pos) (iZp t) := by
  refine ⟨fun B => PI.imp (RZ.pi_zipA hg hm (ha.run B) hs hpl) fun σ H R ⟨Φ, lim, g, E, r, hx, q⟩ => ?_, fun g Q Q' E E' hq hE q => ha.mono _ _ _ _ _ (fun τs g1 ⟨o1, ts, o2, us, e, q1⟩ => ⟨o1, ts, o2, us, e, hq _ _ q1⟩) hE q⟩
  refine ⟨Φ, lim, g, E, r, hx, ha.mono _ _ _ _ _ (fun τs g1 q1 vs H1 hl _ r1 => ?_) (fun _ _ _ z => z) q⟩
  obtain ⟨o1, ts, o2, us, rfl, q1⟩ := q1
  match vs, hl with
  | [v, w], _ =>
    have r1 : RepG X.K B lim σ H1 g1 ((v, .node o1 .lst ts) :: (w, .node o2 .lst us) :: Φ) := r1
    obtain ⟨a, xs, rfl, hl1, r2⟩ := RepG.pinned r1
    have r3 : RepG X.K B lim σ H1 g1 ((w, .node o2 .lst us) :: ((.ref a, .pin .lst xs) :: (xs.zip (frzL ts) ++ Φ))) := by
      refine r2.perm ?_
      exact (List.Perm.cons _ List.perm_middle).trans (List.Perm.swap _ _ _)
    obtain ⟨b, ys, rfl, hl2, r4⟩ := RepG.pinned r3
    have r5 : RepG X.K B lim σ H1 g1 (((.ref b, .pin .lst ys) :: (ys.zip (frzL us) ++ ((.ref a, .pin .lst xs) :: xs.zip (frzL ts)))) ++ Φ) := by
      refine r4.perm ?_
      simp only [List.cons_append, List.append_assoc, List.Perm.refl]
    have sq2 : SqL X.K H1 b ys := by
      obtain ⟨b', e, hr⟩ := RepG.pinAt (Φ := (ys.zip (frzL us) ++ ((.ref a, .pin .lst xs) :: xs.zip (frzL ts))) ++ Φ) r5
      cases e
      exact seqL hr
    have sq : SqL X.K H1 a xs := by
      obtain ⟨b', e, hr⟩ := RepG.pinAt (Φ := xs.zip (frzL ts) ++ ((.ref b, .node o2 .lst us) :: Φ)) (show RepG X.K B lim σ H1 g1 ((.ref a, .pin .lst xs) :: (xs.zip (frzL ts) ++ ((.ref b, .node o2 .lst us) :: Φ))) from r2)
      cases e
      exact seqL hr
    exact ⟨a, b, xs, ys, rfl, .inl ⟨sq, sq2, q1 _ _ H1 r5 (walks_zipL (by rw [hl1, frzL_length]) (by rw [hl2, frzL_length]) (fun i t ht => frzL_get ht) fun i t ht => frzL_get ht)⟩⟩
end
section
variable {K : PySem.W.Frag} {B : Bs} {lim : List Addr} {σ : St} {H : Hp} {g : Ev} {Φ : Its}
theorem RepG.inner {v : V} {s : Sh} {ts : List T} {j : Nat} {t : T} (h : RepG K B lim σ H g ((v, .node true s ts) :: Φ)) (ht : ts[j]? = some t) :
    ∃ a us x Ψ, v = .ref a ∧ us.length = ts.length ∧ H a = some (s.mk a us) ∧ us[j]? = some x ∧ RepG K B (a :: lim) σ H g ((x, t) :: Ψ) ∧
      ∀ H' t', RepG K B (a :: lim) σ H' g ((x, t') :: Ψ) → H' a = some (s.mk a us) → RepG K B lim σ H' g ((v, .node true s (ts.set j t')) :: Φ) := by
  obtain ⟨a, us, rfl, hl, ha, r2⟩ := h.open_
  obtain ⟨x, hx, hz⟩ := zip_get (l := us) (r := ts) hl ht
  obtain ⟨r, p1, _⟩ := set_perm (x, t) hz
  refine ⟨a, us, x, r ++ Φ, rfl, hl, ha, hx, r2.perm (List.Perm.append_right _ p1), fun H' t' h' ha' => ?_⟩
  obtain ⟨r', p1', p2'⟩ := set_perm (x, t') hz
  have pr : r.Perm r' := List.Perm.cons_inv (p1.symm.trans p1')
  have e1 : (us.zip ts).set j (x, t') = us.zip (ts.set j t') := by rw [zip_set, set_at hx]
  rw [e1] at p2'
  have r5 : RepG K B (a :: lim) σ H' g (us.zip (ts.set j t') ++ Φ) := h'.perm (((List.Perm.cons _ (List.Perm.append_right _ pr))).trans (List.Perm.append_right Φ p2'.symm))
  have hl2 : us.length = (ts.set j t').length := by rw [List.length_set]; exact hl
  have r6 := r5.close (s := s) (fun vs e => by rw [List.map_fst_zip (by omega)]; exact Option.some.inj (ha'.symm.trans e))
  rw [List.map_fst_zip (by omega), List.map_snd_zip (by omega), upd_self ha'] at r6
  exact r6
theorem RepG.limNd (h : RepG K B lim σ H g Φ) : lim.Nodup := by
  obtain ⟨F, zs, fp, en, o, f, hl⟩ := h
  exact f.nd.sublist (List.sublist_append_left _ _)
end
section
variable {X : Cx} {W : WX} {pos : Pos}
def xApp2 (k i j : Nat) (v : V) : DTE := fun g Q _ => atSlot k g fun t0 => ∃ l1 l2 ts, t0 = .node true .lst l1 ∧ l1[i]? = some (.node true .tup l2) ∧ l2[j]? = some (.node true .lst ts) ∧ ts.length < sizeLine ∧
  Q (.leaf .non) (g.set k (some (.node true .lst (l1.set i (.node true .tup (l2.set j (.node true .lst (ts ++ [.leaf v]))))))))
theorem d_app2 {o : Expr} {apos cpos p1 p2 q1 q2 : Pos} {z1 z2 : Nat} {e : Expr} {v : V} (k i j : Nat) (ho : PE X o (tVar k)) (he : PE X e (tC v))
    (hbase : attributeBase (.Subscript (.Subscript o (.Constant (.int (i : Nat)) z1 q1) p1) (.Constant (.int (j : Nat)) z2 q2) p2) "append" X.env (eval (.Subscript (.Subscript o (.Constant (.int (i : Nat)) z1 q1) p1) (.Constant (.int (j : Nat)) z2 q2) p2) X.env) = eval (.Subscript (.Subscript o (.Constant (.int (i : Nat)) z1 q1) p1) (.Constant (.int (j : Nat)) z2 q2) p2) X.env := by rfl)
    (hs1 : PlainIx (.Constant (.int (i : Nat)) z1 q1) := by intro _ _; rfl) (hs2 : PlainIx (.Constant (.int (j : Nat)) z2 q2) := by intro _ _; rfl)
    (hfew : ((backTo cpos (starEach [e] X.env)).all (fun x => !x.1) && (backToKw cpos (keywordEach [] X.env)).all (fun x => x.1.isSome) && decide ([e].length + ([] : List Keyword).length + (if ([] : List Keyword).isEmpty then 0 else 1) < 30)) = true := by rfl)
    (hline : (apos.endLine == cpos.line) = true := by rfl) (hs : starEach [e] X.env = (false, eval e X.env) :: starEach [] X.env := by rfl) (hplain : (backTo cpos (starEach [] X.env)).any (·.1) = false := by rfl) :
    DE X W (.Call (.Attribute (.Subscript (.Subscript o (.Constant (.int (i : Nat)) z1 q1) p1) (.Constant (.int (j : Nat)) z2 q2) p2) "append" apos) [e] [] cpos) (xApp2 k i j v) := by
  refine ⟨fun B => PE.imp (pe_bm PySem.F.plainAttrs_list PySem.F.slot_list_append PySem.F.type_list_append mt_append (pe_ix ix_tup (pe_ix ix_list ho pe_int hs1) pe_int hs2) (pa_cons he pa_nil hs) hbase hfew hline hs hplain) fun σ H Q ⟨Φ, lim, g, E, r, hx, q⟩ => ?_, fun g Q Q' E E' hq hE q => atSlot_mono (fun t0 ⟨l1, l2, ts, e, h1, h2, h3, q⟩ => ⟨l1, l2, ts, e, h1, h2, h3, hq _ _ q⟩) q⟩
  obtain ⟨t0, h0, l1, l2, ts, rfl, h1, h2, hlt, q⟩ := atSlot_of q
  obtain ⟨v0, hv, r1⟩ := r.move h0
  obtain ⟨a1, us1, x1, Ψ1, rfl, hl1, ha1, hx1, r2, k1⟩ := r1.inner h1
  obtain ⟨a2, us2, x2, Ψ2, rfl, hl2, ha2, hx2, r3, k2⟩ := r2.inner h2
  obtain ⟨a3, us3, rfl, hl3, ha3, r4⟩ := r3.open_
  have nd := r4.limNd
  have n32 : a2 ≠ a3 := fun e => by subst e; simp at nd
  have n31 : a1 ≠ a3 := fun e => by subst e; simp at nd
  have i1 : i < us1.length := (List.getElem?_eq_some_iff.mp hx1).1
  have i2 : j < us2.length := (List.getElem?_eq_some_iff.mp hx2).1
  have A1 : atI us1 (i : Int) = some (.ref a2) := by unfold atI; rw [ixN_nat, if_pos i1]; exact hx1
  have A2 : atI us2 (j : Int) = some (.ref a3) := by unfold atI; rw [ixN_nat, if_pos i2]; exact hx2
  refine ⟨_, hv, a1, us1, _, _, rfl, rfl, SqL.of ha1, A1, a2, us2, _, _, rfl, rfl, SqT.of ha2, A2, .inl ⟨rfl, us3, SqL.of ha3⟩, ?_⟩
  refine ⟨a3, us3, v, rfl, rfl, ha3, by omega, ?_⟩
  have r5 : RepG X.K B (a3 :: a2 :: a1 :: lim) σ H (g.set k none) ((us3.zip ts ++ [(v, .leaf v)]) ++ Ψ2) := (r4.addLeaf (v := v)).perm (by rw [List.append_assoc]; exact List.perm_middle.symm)
  have e1 : ((us3.zip ts ++ [(v, T.leaf v)]).map (·.1)) = us3 ++ [v] := by
    rw [List.map_append, List.map_fst_zip (by omega)]
    rfl
  have e2 : ((us3.zip ts ++ [(v, T.leaf v)]).map (·.2)) = ts ++ [.leaf v] := by
    rw [List.map_append, List.map_snd_zip (by omega)]
    rfl
  have r6 := r5.close (s := .lst) (fun vs e => nomatch (show HO.lst us3 = HO.tup vs from Option.some.inj (ha3.symm.trans e)))
  rw [e1, e2] at r6
  have r7 := k2 _ _ r6 (by rw [upd_ne n32]; exact ha2)
  have r8 := k1 _ _ r7 (by rw [upd_ne n31]; exact ha1)
  have r9 := r8.back hv
  rw [List.set_set] at r9
  exact q _ _ r9.addLeaf
end
section
variable {X : Cx} {W : WX} {m : Nat → Bool} {pos : Pos}
def sPar3 (oi oj ol : Bool) (i j l : Nat) (t : DTA) : DTS := fun D g => t g (fun τs g1 => ∃ x y z, τs = [x, y, z] ∧ D.nx (((g1.set i (some (if oi = true then x else frz x))).set j (some (if oj = true then y else frz y))).set l (some (if ol = true then z else frz z)))) D.ex
theorem ds_par3 (oi oj ol : Bool) {i j l : Nat} {x y z : Str} {a b c : Expr} {t : DTA} {bs : List (Option Nat)} {px py pz pt : Pos} {kt k2 pt2} (hc : X.calm = true) (hN : X.N.Nodup) (hi : X.N[i]? = some x) (hj : X.N[j]? = some y) (hl : X.N[l]? = some z) (hij : i ≠ j) (hil : i ≠ l) (hjl : j ≠ l) (hmi : m i = false) (hmj : m j = false) (hml : m l = false)
    (hx : X.env.scope.names.lookup x = some .local) (hy : X.env.scope.names.lookup y = some .local) (hz : X.env.scope.names.lookup z = some .local) (ha : DA X W [a, b, c] bs t)
    (hw : swappedStores [.Tuple [.Name x px, .Name y py, .Name z pz] kt pt] (.Tuple [a, b, c] k2 pt2) X.env = pure (some [x, y, z]))
    (hs : swapsWithSole [.Tuple [.Name x px, .Name y py, .Name z pz] kt pt] (.Tuple [a, b, c] k2 pt2) pos.line X.env = pure false := by rfl) :
    DS X W m (.Assign [.Tuple [.Name x px, .Name y py, .Name z pz] kt pt] (.Tuple [a, b, c] k2 pt2) pos) (sPar3 oi oj ol i j l t) := by
  refine .mk' (fun B σ0 => ps_par3 hc hN hi hj hl hij hil hjl hx hy hz (ha.run B) hw hs) (fun B σ0 D σ H Φ lim g E r hk hX q => ?_) fun D D' g h q => ha.mono _ _ _ _ _ (fun τs g1 ⟨x', y', z', e, q1⟩ => ⟨x', y', z', e, h.nx _ q1⟩) h.ex q
  refine ⟨Φ, lim, g, E, r, hX σ hk, ha.mono _ _ _ _ _ (fun τs g1 q1 vs H1 hl _ r1 => ?_) (fun _ _ _ z => z) q⟩
  obtain ⟨x', y', z', rfl, q1⟩ := q1
  obtain ⟨u, v, w, rfl⟩ : ∃ u v w, vs = [u, v, w] := by
    match vs, hl with
    | [u, v, w], _ => exact ⟨u, v, w, rfl⟩
  refine ⟨u, v, w, rfl, q1 _ _ ?_ (((hk.set hmi).set hmj).set hml)⟩
  have r2 : RepG X.K B lim σ H1 g1 ((u, x') :: (v, y') :: (w, z') :: Φ) := r1
  have r3 := ((r2.frzIf oi).put' (i := i)).frzIf oj
  have r4 := (r3.put' (i := j)).frzIf ol
  exact r4.put' (i := l)
end
section
variable {X : Cx}
theorem call_divmodS : CallR X (.builtin "divmod") (fun xs H Q => ∃ i j, xs = [.int i, .int j] ∧ CDivS i j ∧ ∀ p, H p = none → Q (.ref p) (upd H p (.tup [.int (i.fdiv j), .int (i.fmod j)]))) := by
  intro pins s σ H xs us Q I r h
  obtain ⟨i, j, rfl, ⟨h1, h2⟩, q⟩ := h
  obtain ⟨u, w', rfl, ⟨t, rfl⟩, ⟨t', rfl⟩⟩ := vals2 r
  refine PyProof.Rows.divmod_int h1 ?_ (.inl (PyProof.noPylong_of_log2 h2))
  have hn : H s.heap.objs.size = none := I.hok.fresh (Nat.le_refl _)
  refine ⟨.ref s.heap.objs.size, _, ?_, rfl, q _ hn⟩
  refine I.laid (fun b o e => Heap.get?_push_of_some _ e) (Nat.le_refl _) ⟨by simp only [List.length_cons, List.length_nil]; rw [sizeLine_eq]; decide, [.int (i.fdiv j) s.toks, .int (i.fmod j) (s.toks + 1)], .cons ⟨_, rfl⟩ (.cons ⟨_, rfl⟩ .nil), ?_⟩
  exact ⟨_, Heap.get?_push_size s.heap rfl, rfl, 0, rfl⟩
def rnDivmodS : RNT := fun τs Q => match τs with
  | [.leaf (.int i), .leaf (.int j)] => CDivS i j ∧ Q (.node true .tup [.leaf (.int (i.fdiv j)), .leaf (.int (i.fmod j))])
  | _ => False
theorem n_divmodS : CallN X (.builtin "divmod") (fun xs H Q => ∃ i j, xs = [.int i, .int j] ∧ CDivS i j ∧ ∀ p, H p = none → Q (.ref p) (upd H p (.tup [.int (i.fdiv j), .int (i.fmod j)]))) rnDivmodS := by
  refine ⟨call_divmodS, fun B lim σ H g Φ vs τs Q hl r q => ?_, fun τs Q Q' h q => ?_⟩
  · unfold rnDivmodS at q
    split at q
    · obtain ⟨rfl, r'⟩ := two_leaf hl r
      exact ⟨_, _, rfl, q.1, fun p hp => q.2 _ _ (make_pair r'.addLeaf.addLeaf hp)⟩
    · exact q.elim
  · unfold rnDivmodS at q
    split at q
    · exact ⟨q.1, h _ q.2⟩
    · exact q.elim
end
end DL
set_option Elab.async false
set_option linter.all false
set_option maxRecDepth 100000
set_option maxHeartbeats 4000000
namespace DL
open PySem L2
section
variable {prog : Program} {w : World} {A : Around} {R : Result → Shared → Prop} {I : Addr} {fp wr : List Addr} {n : Nat} {P : Nat → Value → Prop} {St : Nat → Heap → Prop}
def flatV (xs : Nat → List Value) : Nat → List Value
  | 0 => []
  | i + 1 => flatV xs i ++ xs i
theorem sum_lists_loop (W : PySem.Walks prog w A.in1 I fp wr n P St) (lsA : Nat → Addr) (xs : Nat → List Value) (hval : ∀ i v, P i v → v = .ref (lsA i)) (S : Addr) (hSf : S ∉ fp) (h0 : Heap) (c0 : Addr)
    (hl0 : ∀ j, j < n → ∃ m, PySem.IsL h0 (lsA j) (xs j).toArray m) (hw0 : ∀ b ∈ wr, h0.get? b = none) (hS0 : h0.get? S = none) (hwS : ∀ i h, St i h → ∀ b ∈ wr, ∃ o, h.get? b = some o) (hI : ∀ i h, St i h → I < h.objs.size) (hz : ∀ i, i ≤ n → (flatV xs i).length ≤ sizeLine) :
    ∀ (k i : Nat) (s : Shared) (c : Addr) (cap n0 : Nat), n - i = k → i ≤ n → St i s.heap → (∀ b o, h0.get? b = some o → s.heap.get? b = some o) →
    s.heap.get? S = some { cls := .type "list", dict := none, data := .seq #[.ref c] cap, slots := #[] } → PySem.IsL s.heap c (flatV xs i).toArray n0 → c ∉ wr → c ≠ S → ((i = 0 ∧ c = c0) ∨ I < c) →
    (∀ h' tk c' m', (∀ b o, h0.get? b = some o → h'.get? b = some o) → PySem.IsL h' c' (flatV xs n).toArray m' → ((n = 0 ∧ c' = c0) ∨ I < c') → R (.ok (.ret (.ref c'))) { s with heap := h', toks := tk }) →
    codeAny (model prog w) A (.builtin "sum.loop" ⟨[.ref I, .ref S, rawInt 2, rawInt 0], []⟩) R s := by
  have hSw : S ∉ wr := fun h => hSf (W.sub _ h)
  intro k
  induction k with
  | zero =>
    intro i s c cap n0 hk hi hst hk0 hS hc hcw hcS hcd hR
    have hin : i = n := by omega
    subst hin
    refine codeAny_builtin F.entry_sum_loop ?_
    rw [Around.under_plainId F.plain_sum_loop _]
    show wpAny _ A.in1 (seqItems? (.ref S) >>= _) _ _ s
    refine wpAny_bind (wpAny_seqItems hS rfl ?_)
    show wpAny _ A.in1 (tryCatch (pyNext (.ref I)) _ >>= _) _ _ s
    refine wpAny_bind (wpAny_tryCatch (W.done s _ _ hst fun h' tk hk' => ?_))
    exact wpAny_pure (hR h' tk c n0 (fun b o e => hk' b o (fun z => by rw [hw0 b z] at e; cases e) (hk0 b o e)) (hk' c _ hcw hc) hcd)
  | succ k ih =>
    intro i s c cap n0 hk hi hst hk0 hS hc hcw hcS hcd hR
    have hlt : i < n := by omega
    refine codeAny_builtin F.entry_sum_loop ?_
    rw [Around.under_plainId F.plain_sum_loop _]
    show wpAny _ A.in1 (seqItems? (.ref S) >>= _) _ _ s
    refine wpAny_bind (wpAny_seqItems hS rfl ?_)
    show wpAny _ A.in1 (tryCatch (pyNext (.ref I)) _ >>= _) _ _ s
    refine wpAny_bind (wpAny_tryCatch (W.item i s _ _ hlt hst fun v h' tk hP hst' hk' => ?_))
    obtain rfl := hval i v hP
    have hS' := hk' S _ hSw hS
    have hc' := hk' c _ hcw hc
    obtain ⟨m, hl⟩ := hl0 i hlt
    have kk : ∀ b o, h0.get? b = some o → h'.get? b = some o := fun b o e => hk' b o (fun z => by rw [hw0 b z] at e; cases e) (hk0 b o e)
    have hl' := kk _ _ hl
    show wpAny _ A.in1 ((holding [Value.ref (lsA i)] (binaryOp .Add (.ref c) (.ref (lsA i)))).attempt >>= _) _ _ _
    refine wpAny_bind (wpAny_attempt (wpAny_holding (PySem.P.add_list hc' hl' ?_ ?_)))
    · have hne : ∀ b o, h'.get? b = some o → b ≠ h'.objs.size := fun b o e z => Nat.lt_irrefl _ (by have := Heap.lt_size e; rwa [z] at this)
      have hS1 := Heap.get?_push_of_some { cls := Value.type "list", data := Data.seq ((flatV xs i).toArray ++ (xs i).toArray) } hS'
      show wpAny _ A.in1 (updateSeq S (fun _ => #[.ref h'.objs.size]) >>= _) _ _ _
      refine wpAny_bind ?_
      refine wpAny_updateSeq hS1 rfl ?_
      have hS2 := Heap.get?_update_self (Obj.mapSeq fun _ => #[Value.ref h'.objs.size]) hS1 rfl
      refine wpAny_bind (wpAny_letGo ?_)
      refine wpAny_bind ?_
      have up : ∀ b o, b ≠ S → h'.get? b = some o → (((h'.push { cls := Value.type "list", data := Data.seq ((flatV xs i).toArray ++ (xs i).toArray) }).update S (Obj.mapSeq fun _ => #[Value.ref h'.objs.size])).update S (Obj.mapSeq fun _ => #[Value.ref h'.objs.size])).get? b = some o := fun b o hb e =>
        (Heap.get?_update_other _ _ (Ne.symm hb)).trans ((Heap.get?_update_other _ _ (Ne.symm hb)).trans (Heap.get?_push_of_some _ e))
      have cS : h'.objs.size ≠ S := fun z => hne S _ hS' z.symm
      have hnew : (((h'.push { cls := Value.type "list", data := Data.seq ((flatV xs i).toArray ++ (xs i).toArray) }).update S (Obj.mapSeq fun _ => #[Value.ref h'.objs.size])).update S (Obj.mapSeq fun _ => #[Value.ref h'.objs.size])).get? h'.objs.size = some { cls := Value.type "list", data := Data.seq ((flatV xs i).toArray ++ (xs i).toArray) } :=
        (Heap.get?_update_other _ _ (Ne.symm cS)).trans ((Heap.get?_update_other _ _ (Ne.symm cS)).trans (Heap.get?_push_size _ rfl))
      refine wpAny_updateSeq hS2 rfl (wpAny_pure ⟨plainId_quiet F.plain_sum_loop _, ih (i + 1) _ h'.objs.size _ 0 (by omega) hlt (W.frame _ _ _ hst' fun b hb o e => up b o (fun z => hSf (z ▸ hb)) e) (fun b o e => up b o (fun z => by rw [z, hS0] at e; cases e) (kk b o e)) (Heap.get?_update_self _ hS2 rfl) ?_ ?_ cS (.inr (hI _ _ hst')) fun h'' tk'' c'' m'' k1 k2 k3 => hR h'' tk'' c'' m'' k1 k2 k3⟩)
      · show _ = _
        rw [hnew]
        simp [flatV]
      · intro hb
        obtain ⟨o, e⟩ := hwS _ _ hst' _ hb
        exact hne _ _ e rfl
    · rw [List.size_toArray, List.size_toArray, ← List.length_append]
      exact hz (i + 1) hlt
end
theorem sub_list_str' : isSubtype (.type "list") (.type "str") = pure false := by rw [isSubtype_type]; kernel_rfl
theorem sub_list_bytes' : isSubtype (.type "list") (.type "bytes") = pure false := by rw [isSubtype_type]; kernel_rfl
theorem sub_list_bytearray' : isSubtype (.type "list") (.type "bytearray") = pure false := by rw [isSubtype_type]; kernel_rfl
theorem args_sum2 (a b : Value) : argsOk "sum" ⟨[a, b], []⟩ := by unfold argsOk; kernel_rfl
section
variable {prog : Program} {w : World} {A : Around} {E : Value → Shared → Prop} {s : Shared}
theorem call_sum_lists (hh : A.handled = none) {l b0 : Addr} {items : List Value} {nb : Nat} {lsA : Nat → Addr} {xs : Nat → List Value} {Q : Value → Shared → Prop} (hl : s.heap.IsList l items.toArray) (hi : ∀ (i : Nat) (v : Value), items[i]? = some v → v = Value.ref (lsA i))
    (hls : ∀ j, j < items.length → ∃ m, PySem.IsL s.heap (lsA j) (xs j).toArray m) (hb : PySem.IsL s.heap b0 #[] nb) (hz : ∀ i, i ≤ items.length → (flatV xs i).length ≤ sizeLine)
    (hQ : ∀ h' tk c' m', (∀ b o, s.heap.get? b = some o → h'.get? b = some o) → PySem.IsL h' c' (flatV xs items.length).toArray m' → ((items.length = 0 ∧ c' = b0) ∨ s.heap.objs.size < c') → Q (.ref c') { s with heap := h', toks := tk }) :
    wpAny (model prog w) A (call (.builtin "sum") [.ref l, .ref b0]) Q E s := by
  refine call_function_tree F.kind_sum F.plain_sum F.entry_sum (args_sum2 _ _) ?_
  unfold Builtin.«sum»
  simp only [List.length_cons, List.length_nil]
  rw [if_neg (by decide)]
  refine wpAny_bind (wpAny_of_eq (show Builtin.Builtins.bindParams "sum" ["start"] 0 ⟨[.ref b0], []⟩ = pure [some (Value.ref b0)] from rfl) ?_)
  refine wpAny_bind (wpAny_pyIter_list hl ?_)
  show wpAny _ A.in1 ((pure (Value.ref b0, (2 : Int)) : Sem (Value × Int)) >>= _) _ _ _
  refine wpAny_bind (wpAny_pure ?_)
  simp only [List.forIn_cons, List.forIn_nil]
  have hlt : l < s.heap.objs.size := by obtain ⟨_, e, _⟩ := hl; exact Heap.lt_size e
  have hb1 := Heap.get?_push_of_some { cls := Value.type "list_iterator", data := Data.fields #[Value.ref l, Value.int 0 0] } hb
  refine wpAny_bind (wpAny_bind (wpAny_bind (wpAny_isInstance (T := "list") (b := false) ⟨_, hb1, rfl⟩ sub_list_str' ?_)))
  simp only [Bool.false_eq_true, if_false]
  refine wpAny_pure (wpAny_bind (wpAny_bind (wpAny_isInstance (T := "list") (b := false) ⟨_, hb1, rfl⟩ sub_list_bytes' ?_)))
  simp only [Bool.false_eq_true, if_false]
  refine wpAny_pure (wpAny_bind (wpAny_bind (wpAny_isInstance (T := "list") (b := false) ⟨_, hb1, rfl⟩ sub_list_bytearray' ?_)))
  simp only [Bool.false_eq_true, if_false]
  refine wpAny_pure (wpAny_pure ?_)
  refine wpAny_bind (wpAny_newObj_type ?_)
  have gone : ∀ b, s.heap.objs.size ≤ b → s.heap.get? b = none := fun b hb => by
    cases e : s.heap.get? b with
    | none => rfl
    | some o => exact absurd (Nat.lt_of_lt_of_le (Heap.lt_size e) hb) (Nat.lt_irrefl _)
  have hb0 : b0 < s.heap.objs.size := Heap.lt_size hb
  have hsz : (s.heap.push { cls := Value.type "list_iterator", data := Data.fields #[Value.ref l, Value.int 0 0] }).objs.size = s.heap.objs.size + 1 := Heap.size_push _ _
  refine wpAny_pure ⟨plainId_quiet F.plain_sum_loop _, sum_lists_loop (PySem.Walks.list (A := A.in1) hh s.heap.objs.size l (Nat.ne_of_lt hlt) items.toArray) lsA xs (fun i v h => hi i v (by simpa using h)) _ ?_ s.heap b0 hls ?_ (gone _ (by show _ ≤ (s.heap.push _).objs.size; omega)) ?_ ?_ hz items.length 0 _ b0 0 nb rfl (Nat.zero_le _) ?_ (fun b o e => Heap.get?_push_of_some _ (Heap.get?_push_of_some _ e)) (Heap.get?_push_size _ rfl) (Heap.get?_push_of_some _ hb1) ?_ ?_ (.inl ⟨rfl, rfl⟩) fun h' tk c' m' k1 k2 k3 => hQ h' tk c' m' k1 k2 k3⟩
  · intro z
    rcases List.mem_cons.mp z with z | z
    · have : (s.heap.push { cls := Value.type "list_iterator", data := Data.fields #[Value.ref l, Value.int 0 0] }).objs.size = s.heap.objs.size := z
      omega
    · have : (s.heap.push { cls := Value.type "list_iterator", data := Data.fields #[Value.ref l, Value.int 0 0] }).objs.size = l := List.mem_singleton.mp z
      rw [← this, hsz] at hlt
      exact absurd hlt (Nat.not_lt.mpr (Nat.le_succ _))
  · intro b z
    rw [List.mem_singleton.mp z]
    exact gone _ (Nat.le_refl _)
  · intro i h ⟨⟨o, e, _⟩, _⟩ b z
    rw [List.mem_singleton.mp z]
    exact ⟨o, e⟩
  · intro i h ⟨⟨o, e, _⟩, _⟩
    exact Heap.lt_size e
  · exact ⟨⟨_, Heap.get?_push_of_some _ (Heap.get?_push_size _ rfl), rfl, rfl⟩, (hl.push _).push _⟩
  · intro z
    have := List.mem_singleton.mp z
    rw [this] at hb0
    exact Nat.lt_irrefl _ hb0
  · intro z
    have : b0 = (s.heap.push { cls := Value.type "list_iterator", data := Data.fields #[Value.ref l, Value.int 0 0] }).objs.size := z
    rw [this, hsz] at hb0
    exact absurd hb0 (Nat.not_lt.mpr (Nat.le_succ _))
end
def rSumL : List V → Hp → VK → Prop := fun vs H Q => ∃ (a b : Addr) (ls : List Addr) (xss : List (List V)), vs = [.ref a, .ref b] ∧ H a = some (.lst (ls.map V.ref)) ∧ H b = some (.lst []) ∧ ls.length = xss.length ∧
  (∀ (j : Nat) (q : Addr) (ys : List V), ls[j]? = some q → xss[j]? = some ys → H q = some (.lst ys)) ∧ xss.flatten.length ≤ sizeLine ∧ (xss = [] → Q (.ref b) H) ∧ (∀ p, H p = none → Q (.ref p) (upd H p (.lst xss.flatten)))
theorem vals_take {xss : List (List V)} {f : Nat → List Value} (h : ∀ (j : Nat) (ys : List V), xss[j]? = some ys → Vals ys (f j)) : ∀ i, i ≤ xss.length → Vals (xss.take i).flatten (flatV f i)
  | 0, _ => by
    show Vals (List.flatten (List.take 0 xss)) []
    simp only [List.take_zero, List.flatten_nil]
    exact .nil
  | i + 1, hi => by
    have hy : xss[i]? = some xss[i] := List.getElem?_eq_getElem hi
    rw [List.take_add_one, hy]
    simp only [Option.toList_some, List.flatten_append, List.flatten_cons, List.flatten_nil, List.append_nil]
    exact (vals_take h i (Nat.le_of_succ_le hi)).append (h i _ hy)
theorem cr_sumL {X : Cx} (hc : X.calm = true) : CallR X (.builtin "sum") rSumL := by
  intro pins s σ H vs us Q I r h
  obtain ⟨a, b, ls, xss, rfl, ha, hb, hlen, hq, hz, q1, q2⟩ := h
  obtain ⟨u, u', rfl, ru, ru'⟩ := vals2 r
  cases ru
  cases ru'
  obtain ⟨_, its, n, rv, hl, e⟩ := I.lstM ha
  obtain ⟨_, itb, nb, rvb, hlb, eb⟩ := I.lstM hb
  have : itb = [] := List.eq_nil_of_length_eq_zero hlb.symm
  subst this
  have hn : its.length = ls.length := by rw [← hl, List.length_map]
  have ex : ∀ j : Nat, ∃ L : List Value, ∀ (q : Addr) (ys : List V), ls[j]? = some q → xss[j]? = some ys → Vals ys L ∧ ∃ m, PySem.IsL s.heap q L.toArray m := fun j => by
    cases e1 : ls[j]? with
    | none => exact ⟨[], fun q ys z => by cases z⟩
    | some q =>
      cases e2 : xss[j]? with
      | none => exact ⟨[], fun q ys _ z => by cases z⟩
      | some ys =>
        obtain ⟨_, L, m, r2, _, e3⟩ := I.lstM (hq j q ys e1 e2)
        exact ⟨L, fun q' ys' z1 z2 => by cases z1; cases z2; exact ⟨r2, m, e3⟩⟩
  obtain ⟨f, hf⟩ := Classical.axiomOfChoice ex
  have hv : ∀ (j : Nat) (ys : List V), xss[j]? = some ys → Vals ys (f j) := fun j ys z => by
    have hj := (List.getElem?_eq_some_iff.mp z).1
    exact (hf j _ ys (List.getElem?_eq_getElem (by omega)) z).1
  have hfl : ∀ i, i ≤ its.length → (flatV f i).length ≤ sizeLine := fun i hi => by
    have r3 := vals_take hv i (by omega)
    rw [← r3.length]
    refine Nat.le_trans ?_ hz
    have e2 : xss.flatten = (xss.take i).flatten ++ (xss.drop i).flatten := by rw [← List.flatten_append, List.take_append_drop]
    rw [e2, List.length_append]
    omega
  refine call_sum_lists (lsA := fun j => ls.getD j 0) (xs := f) (I.ok.hd hc) ⟨_, e, rfl, _, rfl⟩ (fun i v hi => ?_) (fun j hj => ?_) eb hfl fun h' tk c' m' k1 k2 k3 => ?_
  · have hi2 : i < ls.length := by have := (List.getElem?_eq_some_iff.mp hi).1; omega
    obtain ⟨u, hu, ru⟩ := rv.get (i := i) (x := .ref ls[i]) (by rw [List.getElem?_map, List.getElem?_eq_getElem hi2]; rfl)
    rw [hi] at hu
    cases hu
    cases ru
    rw [List.getD_eq_getElem?_getD, List.getElem?_eq_getElem hi2]
    rfl
  · have hj2 : j < ls.length := by omega
    have hj3 : j < xss.length := by omega
    have := (hf j ls[j] xss[j] (List.getElem?_eq_getElem hj2) (List.getElem?_eq_getElem hj3)).2
    show ∃ m, PySem.IsL s.heap (ls.getD j 0) _ m
    rw [List.getD_eq_getElem?_getD, List.getElem?_eq_getElem hj2]
    exact this
  · rcases k3 with ⟨k3, rfl⟩ | k3
    · exact ⟨.ref _, H, I.kept k1, rfl, q1 (List.eq_nil_of_length_eq_zero (by omega))⟩
    · have r3 := vals_take hv its.length (by omega)
      rw [List.take_of_length_le (by omega)] at r3
      exact ⟨.ref c', _, I.laid (t' := tk) (o := .lst xss.flatten) k1 (Nat.le_of_lt k3) ⟨hz, _, m', r3, k2⟩, rfl, q2 c' (I.hok.fresh (Nat.le_of_lt k3))⟩
section
variable {K : PySem.W.Frag} {B : Bs} {lim : List Addr} {σ : St} {H : Hp} {g : Ev}
abbrev grT (ts : List T) : T := .node false .lst ts
theorem RepG.groups : ∀ {gs : List (List T)} {us : List V} {Φ : Its}, us.length = gs.length → RepG K B lim σ H g (us.zip (gs.map grT) ++ Φ) → ∃ (ls : List Addr) (xss : List (List V)), us = ls.map V.ref ∧ ls.length = xss.length ∧ gs.length = xss.length ∧
    (∀ (j : Nat) (q : Addr) (ys : List V), ls[j]? = some q → xss[j]? = some ys → H q = some (.lst ys)) ∧ xss.flatten.length = gs.flatten.length ∧ RepG K B lim σ H g (xss.flatten.zip gs.flatten ++ Φ)
  | [], us, Φ, hl, r => by
    obtain rfl := List.eq_nil_of_length_eq_zero hl
    exact ⟨[], [], rfl, rfl, rfl, (fun j q ys z => by simp at z), rfl, r⟩
  | g0 :: gs, [], Φ, hl, r => by simp at hl
  | g0 :: gs, u :: us, Φ, hl, r => by
    have r1 : RepG K B lim σ H g ((u, grT g0) :: (us.zip (gs.map grT) ++ Φ)) := r
    obtain ⟨b, ys, rfl, hy, hb, r2⟩ := r1.kidsH (fun z => by cases z)
    have r3 : RepG K B lim σ H g (us.zip (gs.map grT) ++ (ys.zip g0 ++ Φ)) := by
      have r4 : RepG K B lim σ H g ((.ref b, grT g0) :: (ys.zip g0 ++ (us.zip (gs.map grT) ++ Φ))) := r2.perm List.perm_middle
      refine r4.dropT.perm ?_
      rw [← List.append_assoc, ← List.append_assoc]
      exact List.Perm.append_right _ List.perm_append_comm
    obtain ⟨ls, xss, rfl, h1, h2, h3, h4, r5⟩ := RepG.groups (by simpa using hl) r3
    refine ⟨b :: ls, ys :: xss, rfl, by simp [h1], by simp [h2], fun j q ys' z1 z2 => ?_, ?_, ?_⟩
    · cases j with
      | zero => cases z1; cases z2; exact hb
      | succ j => exact h3 j q ys' z1 z2
    · simp only [List.flatten_cons, List.length_append, hy, h4]
    · simp only [List.flatten_cons]
      rw [List.zip_append hy]
      refine r5.perm ?_
      rw [← List.append_assoc]
      exact List.Perm.append_right _ List.perm_append_comm
end
section
variable {X : Cx}
def rnSumL : RNT := fun τs Q => ∃ (τ : T) (gs : List (List T)), τs = [τ, .node true .lst []] ∧ frz τ = .node false .lst (gs.map grT) ∧ gs.flatten.length ≤ sizeLine ∧ Q (.node true .lst gs.flatten)
theorem n_sumL (hc : X.calm = true) : CallN X (.builtin "sum") rSumL rnSumL := by
  refine ⟨cr_sumL hc, fun B lim σ H g Φ vs τs Q hl r q => ?_, fun τs Q Q' h ⟨τ, gs, e, h1, h2, q⟩ => ⟨τ, gs, e, h1, h2, h _ q⟩⟩
  obtain ⟨τ, gs, rfl, hf, hz, q⟩ := q
  match vs, hl with
  | [v, w], _ =>
    have r1 : RepG X.K B lim σ H g ((v, τ) :: (w, .node true .lst []) :: Φ) := r
    obtain ⟨b, ws, rfl, hw, hb, _⟩ := (r1.dropT).open_
    obtain rfl := List.eq_nil_of_length_eq_zero hw
    have r2 := r1.freezeT
    rw [hf] at r2
    obtain ⟨a, us, rfl, hu, ha, r3⟩ := r2.kidsH (fun z => by cases z)
    obtain ⟨ls, xss, rfl, h1, h2, h3, h4, r4⟩ := RepG.groups (by rw [hu, List.length_map]) r3
    refine ⟨a, b, ls, xss, rfl, ha, hb, h1, h3, by rw [h4]; exact hz, fun e => ?_, fun p hp => ?_⟩
    · subst e
      have : gs = [] := List.eq_nil_of_length_eq_zero h2
      subst this
      exact q _ _ r1.dropT
    · refine q _ _ (make_of .lst h4 ?_ hp)
      have r5 := (r4.perm List.perm_middle).dropT
      exact (r5.perm List.perm_middle).dropT
end
end DL
set_option Elab.async false
set_option linter.all false
set_option maxRecDepth 100000
set_option maxHeartbeats 4000000
namespace DL
open PySem L2
theorem rejoin {K : PySem.W.Frag} {B : Bs} {lim : List Addr} {σ : St} {H H2 : Hp} {g : Ev} {Φ Ψ zs : Its} {F : Addr → Prop} {fp fv : List Addr} (en : EnvIs σ g zs) (o : OwnZ K F H (zs ++ Φ) fp) (f : Fine B F H (lim ++ fp)) (hl : ∀ a ∈ lim, H a ≠ none)
    (st : ∀ b o, H b = some o → H2 b = some o) (oz : OwnZ K F H2 Ψ fv) (nd : fv.Nodup) (new : ∀ b ∈ fv, H b = none) : RepG K B lim σ H2 g (Ψ ++ Φ) := by
  have trk : ∀ a, a ∈ lim ++ fp → H a ≠ none := fun a ha => by
    rcases List.mem_append.mp ha with z | z
    · exact hl a z
    · exact o.tracked a z
  have stn : ∀ b, H b ≠ none → H2 b ≠ none := fun b hb => by
    cases q : H b with
    | none => exact absurd q hb
    | some o => rw [st b o q]; exact nofun
  have oo : OwnZ K F H2 (zs ++ Φ) fp := o.mono (fun _ z => z) (fun b _ u e => st b u e) fun b vs e => st b _ e
  have o3 : OwnZ K F H2 (Ψ ++ (zs ++ Φ)) (fv ++ fp) := oz.append oo
  have ff : Fine B F H2 (lim ++ (fv ++ fp)) := by
    refine ⟨?_, fun b z => ?_, fun b z => stn b (f.trk b z), f.inc, fun b o e n => st b o (f.keep b o e n), f.newF, fun b z => ?_, fun b vs e => st b _ (f.keepT b vs e)⟩
    · refine List.nodup_append.mpr ⟨(List.nodup_append.mp f.nd).1, List.nodup_append.mpr ⟨nd, (List.nodup_append.mp f.nd).2.1, fun x hx y hy e => ?_⟩, fun x hx y hy e => ?_⟩
      · subst e
        exact trk x (List.mem_append_right _ hy) (new x hx)
      · subst e
        rcases List.mem_append.mp hy with q | q
        · exact hl x hx (new x q)
        · exact (List.nodup_append.mp f.nd).2.2 x hx x q rfl
    · rcases List.mem_append.mp z with q | q
      · exact f.off b (List.mem_append_left _ q)
      · rcases List.mem_append.mp q with q | q
        · intro zz
          exact f.trk b zz (new b q)
        · exact f.off b (List.mem_append_right _ q)
    · rcases List.mem_append.mp z with q | q
      · exact f.newO b (List.mem_append_left _ q)
      · rcases List.mem_append.mp q with q | q
        · by_cases hb : b ∈ B.fp0
          · exact .inl hb
          · refine .inr ?_
            cases z : B.H0 b with
            | none => rfl
            | some u =>
              have := f.keep b u z hb
              rw [new b q] at this; cases this
        · exact f.newO b (List.mem_append_right _ q)
  refine rep_items (ds := []) en o3 ff (fun b z => stn b (hl b z)) ?_
  rw [List.nil_append, ← List.append_assoc, ← List.append_assoc]
  exact List.Perm.append_right _ List.perm_append_comm
theorem lk_in {K : PySem.W.Frag} {B : Bs} {lim : List Addr} {σ : St} {H : Hp} {g : Ev} {Φ : Its} {i : Nat} {ks : List (List Key)} {ws : List V} (r : RepG K B lim σ H g Φ) (h0 : g[i]? = some (some (.node true (.dT ks) (ws.map .leaf)))) :
    ∃ d, σ[i]? = some (some (.ref d)) ∧ H d = some (.dT (ks.zip ws)) ∧ ∀ od, ∃ B', B'.H0 d = some (.frz od (.dT (ks.zip ws))) ∧ d ∉ B'.fp0 ∧ RepG K B' [] σ (upd H d (.frz od (.dT (ks.zip ws)))) ((frzE g).set i (some (.pin (.dT ks) ws))) [] ∧
      ∀ v τ H1 g', pureT τ = true → RepG K B' [] σ H1 g' [(v, τ)] → H1 d = some (.frz od (.dT (ks.zip ws))) ∧ RepG K B lim σ (upd H1 d (.dT (ks.zip ws))) g ((v, τ) :: Φ) := by
  obtain ⟨F, zs, fp, en, o, f, hl⟩ := r
  obtain ⟨f1, f2, rfl, o1, o2⟩ := o.split
  obtain ⟨v, ys, hv, pz, en'⟩ := en.take h0
  obtain ⟨f1', pf, o1'⟩ := o1.perm pz
  obtain ⟨fa, fb, rfl, pv, oy⟩ := o1'.uncons
  cases pv with
  | own ha hk =>
    rename_i d us fk
    obtain rfl := ownL_flat hk
    have hd : H d = some (.dT (ks.zip us)) := ha
    have dm : d ∈ f1 := pf.mem_iff.mpr (List.mem_append_left _ List.mem_cons_self)
    have dF : ¬ F d := f.off d (List.mem_append_right _ (List.mem_append_left _ dm))
    have nd1 : f1.Nodup := (List.nodup_append.mp (List.nodup_append.mp f.nd).2.1).1
    have dfb : d ∉ fb := fun z => by
      have := pf.nodup_iff.mp nd1
      exact (List.nodup_append.mp this).2.2 d List.mem_cons_self d z rfl
    refine ⟨d, hv, hd, fun od => ?_⟩
    obtain ⟨H1, eH⟩ : ∃ H1, H1 = upd H d (.frz od (.dT (ks.zip us))) := ⟨_, rfl⟩
    rw [← eH]
    have hd1 : H1 d = some (.frz od (.dT (ks.zip us))) := by rw [eH]; exact upd_same
    have ne1 : ∀ b, b ≠ d → H1 b = H b := fun b hb => by rw [eH]; exact upd_ne hb
    have trk : ∀ a, a ∈ lim ++ (f1 ++ f2) → H a ≠ none := fun a ha => by
      rcases List.mem_append.mp ha with z | z
      · exact hl a z
      · exact o.tracked a z
    have some1 : ∀ a, H a ≠ none → H1 a ≠ none := fun a h => by
      by_cases e : a = d
      · rw [e, hd1]; exact nofun
      · rw [ne1 a e]; exact h
    have tup1 : ∀ a vs, H a = some (.tup vs) → H1 a = some (.tup vs) := fun a vs e => by
      rw [ne1 a (fun z => by rw [z, hd] at e; cases e)]
      exact e
    have oy1 : OwnZ K F H1 ys fb := oy.mono (fun _ z => z) (fun a ha u e => by
      rw [ne1 a ?_]
      · exact e
      · intro z
        rw [z] at ha
        exact ha.elim dF dfb) tup1
    have oy2 : OwnZ K (fun a => F a ∨ a ∈ lim ++ (f1 ++ f2)) H1 (ys.map fun z => (z.1, frz z.2)) [] := oy1.frzZ (fun _ z => .inl z) fun a z => .inr (List.mem_append_right _ (List.mem_append_left _ (pf.mem_iff.mpr (List.mem_append_right _ z))))
    have hi : i < g.length := (List.getElem?_eq_some_iff.mp h0).1
    have en2 := en'.frzE
    have eset : frzE (g.set i none) = (frzE g).set i none := by unfold frzE; rw [List.map_set]; rfl
    rw [eset] at en2
    obtain ⟨ys2, p2, en3⟩ := en2.fill (.pin (.dT ks) us) (by rw [List.getElem?_set_self (by unfold frzE; rw [List.length_map]; exact hi)]) hv
    rw [List.set_set] at en3
    refine ⟨baseB H1 F (lim ++ (f1 ++ f2)), hd1, (fun z => nomatch z), ?_, fun v τ Hx g' hp r1 => ?_⟩
    · have oc : OwnZ K (fun a => F a ∨ a ∈ lim ++ (f1 ++ f2)) H1 ((.ref d, .pin (.dT ks) us) :: ys.map fun z => (z.1, frz z.2)) ([] ++ []) :=
        .cons (.pinF (.inr (List.mem_append_right _ (List.mem_append_left _ dm))) (.inr ⟨od, hd1⟩)) oy2
      obtain ⟨fq, pq, oq⟩ := oc.perm p2.symm
      have efq : fq = [] := by simpa using pq
      subst efq
      refine ⟨fun a => F a ∨ a ∈ lim ++ (f1 ++ f2), ys2, [], en3, by rw [List.append_nil]; exact oq, ?_, fun _ z => nomatch z⟩
      exact ⟨.nil, (fun _ z => nomatch z), fun b z => z.elim (fun q => some1 b (f.trk b q)) (fun q => some1 b (trk b q)), fun _ z => z, fun _ _ z _ => z, fun _ z => .inl z, (fun _ z => nomatch z), fun _ _ e => e⟩
    · obtain ⟨F1, zs1, fp1, en1, oz1, fn, _⟩ := r1
      obtain ⟨g1, g2, rfl, oa, ob⟩ := oz1.split
      obtain ⟨h1, h2, e, pw, pn⟩ := ob.uncons
      have e2 : h2 = [] := by cases pn; rfl
      subst e e2
      have hdx : Hx d = some (.frz od (.dT (ks.zip us))) := fn.keep d _ hd1 (fun z => nomatch z)
      have newx : ∀ b ∈ h1, H b = none ∧ b ≠ d := fun b hb => by
        rcases fn.newO b (List.mem_append_right _ (List.mem_append_right _ (List.mem_append_left _ hb))) with z | z
        · cases z
        · have z : H1 b = none := z
          have nb : b ≠ d := fun e => by rw [e, hd1] at z; cases z
          exact ⟨by rw [← ne1 b nb]; exact z, nb⟩
      refine ⟨hdx, ?_⟩
      refine rejoin (Ψ := [(v, τ)]) (fv := h1 ++ []) en o f hl (fun b u e => ?_) (.cons ?_ .nil) ?_ fun b z => ?_
      · by_cases eb : b = d
        · rw [eb, upd_same]
          rw [eb, hd] at e
          exact e
        · rw [upd_ne eb]
          exact fn.keep b u (by show H1 b = _; rw [ne1 b eb]; exact e) (fun z => nomatch z)
      · refine OwnP.mono (F := fun _ => False) (fun _ z => z.elim) τ (pw.anyF τ hp) (fun a ha u e => ?_) fun a vs e => ?_
        · rw [upd_ne (ha.elim (fun z => z.elim) fun z => (newx a z).2)]
          exact e
        · rw [upd_ne (fun z => by rw [z, hdx] at e; cases e)]
          exact e
      · rw [List.append_nil]
        have := fn.nd
        rw [List.nil_append, List.append_nil] at this
        exact (List.nodup_append.mp this).2.1
      · rw [List.append_nil] at z
        exact (newx b z).1
def xLcK (i : Nat) (gt : DTG) (tt : DTT) (te : DTE) (vs : List Nat) : DTE := fun g Q _ => ∃ (ks : List (List Int)) (ws : List V), g[i]? = some (some (.node true (.dT (ks.map ik)) (ws.map .leaf))) ∧ ks.length = ws.length ∧
  Lc gt tt te vs (ks.map keyT) (wipeE ((frzE g).set i (some (.pin (.dT (ks.map ik)) ws))) vs) [] (fun acc _ => pureT (.node true .lst acc) = true ∧ Q (.node true .lst acc) g)
section
variable {X : Cx} {W : WX} {m : Nat → Bool} {tg iter elt e : Expr} {te : DTE} {pos p : Pos}
theorem walks_keysT {K : PySem.W.Frag} {B : Bs} {lim : List Addr} {d : Addr} {od : Obj} {ks : List (List Int)} {ws : List V} (hl : ks.length = ws.length) (hd : B.H0 d = some (.frz od (.dT ((ks.map ik).zip ws)))) (hn : d ∉ B.fp0) :
    Walks K B lim (Itkt d od ((ks.map ik).zip ws)) [] (ks.map keyT) := by
  intro σ H g Φ i r
  have hH : H d = some (.frz od (.dT ((ks.map ik).zip ws))) := by
    obtain ⟨F, zs, fp, en, o, f, _⟩ := r
    exact f.keep d _ hd hn
  have hz : ((ks.map ik).zip ws).length = ks.length := by rw [List.length_zip, List.length_map]; omega
  refine ⟨fun t ht => ?_, fun hi => ⟨hH, by rw [List.length_map] at hi; omega⟩⟩
  rw [List.getElem?_map] at ht
  cases ek : ks[i]? with
  | none => rw [ek] at ht; cases ht
  | some k =>
    rw [ek] at ht
    cases ht
    have hi := (List.getElem?_eq_some_iff.mp ek).1
    refine ⟨⟨hH, by omega⟩, fun x H' y => ?_⟩
    obtain ⟨rfl, k', v, q, e1, rfl, hq⟩ := y
    have e2 : ((ks.map ik).zip ws)[i]? = some (ik k, ws[i]) := by
      rw [List.getElem?_zip_eq_some]
      exact ⟨by rw [List.getElem?_map, ek]; rfl, List.getElem?_eq_getElem (by omega)⟩
    rw [e2] at e1
    cases e1
    exact r.addP fun F => ownP_key hq
theorem d_lcK {ifs : List Expr} {scope : Scope} {own : List (Str × Nat)} {gt : DTG} {tt : DTT} (i : Nat) (hc : X.calm = true) (hN : X.N.Nodup) (hi : PE X iter (tVar i)) (ok : BlkOk X.N X.env.scope scope own)
    (hg : ∀ (s : Shared) (H : Hp) (C : Addr) (cl : List (Str × Addr)) (fp : List Addr), DG (X.blk s H scope (compEnvC scope cl C X.env) fp) (mB (own.map (·.2))) tg gt)
    (ht : ∀ (s : Shared) (H : Hp) (C : Addr) (cl : List (Str × Addr)) (fp : List Addr), DTs (X.blk s H scope (compEnvC scope cl C X.env) fp) W0 ifs tt)
    (he : ∀ (s : Shared) (H : Hp) (C : Addr) (cl : List (Str × Addr)) (fp : List Addr), DE (X.blk s H scope (compEnvC scope cl C X.env) fp) W0 elt te) (hs : ∀ x, foldedSetIterable iter X.env x = pure x := by intro _; rfl) :
    DE X W (.ListComp elt [⟨tg, iter, ifs, 0⟩] scope pos) (xLcK i gt tt te (own.map (·.2))) := by
  have mg := fun (s : Shared) (H : Hp) => (hg s H 0 [] []).mono
  have mt := fun (s : Shared) (H : Hp) => (ht s H 0 [] []).mono
  have me := fun (s : Shared) (H : Hp) => (he s H 0 [] []).mono
  refine ⟨fun B => ⟨fun pins s σ H Q I ⟨Φ, lim, g, E, r, hx, ks, ws, h0, hl, q⟩ => ?_⟩, fun g Q Q' E E' hq _ ⟨ks, ws, h0, hl, q⟩ => ⟨ks, ws, h0, hl, ⟨lcL_mono (mg X.s_0 X.H_0) (mt X.s_0 X.H_0) (me X.s_0 X.H_0) _ _ _ _ _ (fun _ _ z => ⟨z.1, hq _ _ z.2⟩) q.out⟩⟩⟩
  obtain ⟨d, hv, hd, k⟩ := lk_in r h0
  refine (pe_lock (t := fun σ H Q => ∃ B', tLc (iKeys (tVar i)) (liftG X.K B' (mB (own.map (·.2))) (L2.wipe σ (own.map (·.2))) gt) (liftT X.K B' W0 tt) (liftE X.K B' W0 te) (own.map (·.2)) σ H Q) ?_).run pins s σ H Q I ⟨d, _, hd, trivial, fun od => ?_⟩
  · refine ⟨fun pins s σ H Q I ⟨B', h⟩ => ?_⟩
    exact (pe_lc (g := liftG X.K B' (mB (own.map (·.2))) (L2.wipe σ (own.map (·.2))) gt) hc hN (pi_keys hi) ok (fun s H C cl fp => (hg s H C cl fp).run B' _) (fun s H C cl fp => (ht s H C cl fp).run B') (fun s H C cl fp => (he s H C cl fp).run B') hs).run pins s σ H Q I h
  · obtain ⟨B', b1, b2, r1, back⟩ := k od
    refine ⟨B', ?_⟩
    have q2 := lc_reads (X := X) (W := W) (B := B') (σ := σ) (H := upd H d (.frz od (.dT ((ks.map ik).zip ws)))) (Q := fun v H' => H' d = some (.frz od (.dT ((ks.map ik).zip ws))) ∧ Q v (upd H' d (.dT ((ks.map ik).zip ws)))) (it := fun g Q _ => Q (ks.map keyT) g) (gt := gt) (tt := tt) (te := te) (vs := own.map (·.2))
      (fun g Q Q' E E' hq _ q => hq _ _ q) (mg s H) (mt s H) (me s H)
      ⟨[], [], _, noX, r1, liftX0, ⟨lcL_mono (mg s H) (mt s H) (me s H) _ _ _ _ _ (fun acc g2 z v H' r2 => by
        obtain ⟨e1, r3⟩ := back v _ H' g2 z.1 r2
        exact ⟨e1, z.2 v _ r3⟩) q.out⟩⟩
    obtain ⟨Φ', lim', g', E', r', _, q3⟩ := q2
    exact ⟨.ref d, hv, d, od, rfl, .inr ⟨_, upd_same, q3 (Itkt d od ((ks.map ik).zip ws)) [] _ r' (walks_keysT hl b1 b2)⟩⟩
end
section
variable {X : Cx} {W : WX} {m : Nat → Bool} {o e value : Expr} {td tk tv : DTE} {pos pos' p : Pos}
def xDGetP (i : Nat) (tk : DTE) : DTE := fun g Q E => atSlot i g fun _ => tk g (fun τk g1 => ∃ (ks : List (List Key)) (ws : List V) (ns : List Int) (us : List T) (o : Bool) (w : V), g1[i]? = some (some (.pin (.dT ks) ws)) ∧ τk = .node o .tup us ∧ flatI us = some ns ∧ ns ≠ [0, 1] ∧ ws.length = ks.length ∧
  (ixK ks (ik ns)).bind (ws[·]?) = some w ∧ Q (.leaf w) g1) E
theorem d_dgetP (i : Nat) (hu : X.A.units + 1 < cLine) (ho : PE X o (tVar i)) (hi : DE X W e tk) (hs : NoSl e := by intro _ _; rfl) : DE X W (.Subscript o e pos) (xDGetP i tk) := by
  refine ⟨fun B => PE.imp (pe_dget hu ho (hi.run B) hs) fun σ H Q ⟨Φ, lim, g, E, r, hx, q⟩ => ?_, fun g Q Q' E E' hq hE q => ?_⟩
  · obtain ⟨t0, h0, q⟩ := atSlot_of q
    obtain ⟨v0, hv0⟩ := r.slot h0
    refine ⟨v0, hv0, Φ, lim, g, E, r, hx, hi.mono _ _ _ _ _ (fun τk g1 q1 y H1 r1 => ?_) (fun _ _ _ z => z) q⟩
    obtain ⟨ks, ws, ns, us, ob, w, h1, rfl, hf, hz, hl, hw, q1⟩ := q1
    obtain ⟨b, rfl, hb⟩ := r1.keyH hf hz
    obtain ⟨v, hv, r2⟩ := r1.look h1 rfl
    rw [hv0] at hv
    cases hv
    obtain ⟨a, e, hr⟩ := RepG.pinAt (Φ := _ :: Φ) r2
    cases e
    rcases hr with hr | hr
    · refine ⟨a, w, rfl, .inr ⟨_, ik ns, b, hr, rfl, hb, ?_⟩, q1 _ _ r1.dropT.addLeaf⟩
      rw [val_ix hl, hw]
    · exact hr.elim
  · exact atSlot_mono (fun _ q => hi.mono _ _ _ _ _ (fun τk g1 ⟨ks, ws, ns, us, ob, w, h1, h2, h3, h4, h5, h6, q1⟩ => ⟨ks, ws, ns, us, ob, w, h1, h2, h3, h4, h5, h6, hq _ _ q1⟩) hE q) q
def xDIn (neg : Bool) (tk td : DTE) : DTE := fun g Q E => tk g (fun τk g1 => td g1 (fun τd g2 => rtDGet (frz τd) τk fun r => Q (.leaf (.bl (if neg then !r.isSome else r.isSome))) g2) E) E
theorem din_low {K : PySem.W.Frag} {B : Bs} {W : WX} {neg : Bool} {σ : St} {H : Hp} {Q : VK} (mk : ∀ g Q Q' E E', (∀ τ g', Q τ g' → Q' τ g') → (∀ c fs g', E c fs g' → E' c fs g') → tk g Q E → tk g Q' E')
    (md : ∀ g Q Q' E E', (∀ τ g', Q τ g' → Q' τ g') → (∀ c fs g', E c fs g' → E' c fs g') → td g Q E → td g Q' E') (h : liftE K B W (xDIn neg tk td) σ H Q) :
    liftE K B W tk σ H fun y H1 => liftE K B W td σ H1 fun x H2 => ∃ a o, x = .ref a ∧ DGet H2 a y o ∧ Q (.bl (if neg then !o.isSome else o.isSome)) H2 := by
  obtain ⟨Φ, lim, g, E, r, hx, q⟩ := h
  refine lift2 (ta := tk) (tb := td) (R' := fun τk τd g2 => rtDGet (frz τd) τk fun r => ∀ H', RepG K B lim σ H' g2 Φ → Q (.bl (if neg then !r.isSome else r.isSome)) H') (R := fun y x H2 => ∃ a o, x = .ref a ∧ DGet H2 a y o ∧ Q (.bl (if neg then !o.isSome else o.isSome)) H2) r hx md mk ?_ fun v1 v2 τ1 τ2 g2 H2 r2 q2 => ?_
  · exact mk _ _ _ _ _ (fun τk g1 q1 => md _ _ _ _ _ (fun τd g2 q2 => rtDGet_mono (fun r z H' r' => z _ _ r'.addLeaf) q2) (fun _ _ _ z => z) q1) (fun _ _ _ z => z) q
  · obtain ⟨a, ro, rt, rfl, hg, q3, h1, h2⟩ := dget_val (r2.perm (List.Perm.swap _ _ _)) q2
    refine ⟨a, ro, rfl, hg, ?_⟩
    have e : ro.isSome = rt.isSome := by
      cases rt with
      | none => rw [h2 rfl]; rfl
      | some t =>
        obtain ⟨v, rfl, _⟩ := h1 t rfl
        rfl
    rw [e]
    exact q3 _ r2.dropT.dropT
theorem xDIn_mono {neg : Bool} (mk : ∀ g Q Q' E E', (∀ τ g', Q τ g' → Q' τ g') → (∀ c fs g', E c fs g' → E' c fs g') → tk g Q E → tk g Q' E')
    (md : ∀ g Q Q' E E', (∀ τ g', Q τ g' → Q' τ g') → (∀ c fs g', E c fs g' → E' c fs g') → td g Q E → td g Q' E') :
    ∀ g Q Q' E E', (∀ τ g', Q τ g' → Q' τ g') → (∀ c fs g', E c fs g' → E' c fs g') → xDIn neg tk td g Q E → xDIn neg tk td g Q' E' := fun g Q Q' E E' hq hE q =>
  mk _ _ _ _ _ (fun τk g1 q1 => md _ _ _ _ _ (fun τd g2 q2 => rtDGet_mono (fun r z => hq _ _ z) q2) hE q1) hE q
theorem d_din (hu : X.A.units + 1 < cLine) (hi : DE X W e tk) (ho : DE X W o td) (hm : behindInMarks .In o = false := by rfl) : DE X W (.Compare e [.In] [o] pos) (xDIn false tk td) :=
  ⟨fun B => PE.imp (pe_cmp (pc_din hu (hi.run B) (ho.run B)) hm) fun σ H Q h => din_low (neg := false) hi.mono ho.mono h, xDIn_mono hi.mono ho.mono⟩
theorem d_dnotin (hu : X.A.units + 1 < cLine) (hi : DE X W e tk) (ho : DE X W o td) (hm : behindInMarks .NotIn o = false := by rfl) : DE X W (.Compare e [.NotIn] [o] pos) (xDIn true tk td) :=
  ⟨fun B => PE.imp (pe_cmp (pc_dnotin hu (hi.run B) (ho.run B)) hm) fun σ H Q h => din_low (neg := true) hi.mono ho.mono h, xDIn_mono hi.mono ho.mono⟩
theorem din_lowT {B : Bs} {neg : Bool} {σ : St} {H : Hp} {Q : Bool → Hp → Prop} (hi : DE X W e tk) (ho : DE X W o td) (h : liftT X.K B W (xB (xDIn neg tk td)) σ H Q) :
    liftE X.K B W tk σ H fun y H1 => liftE X.K B W td σ H1 fun x H2 => ∃ a o, x = .ref a ∧ DGet H2 a y o ∧ ∃ k, V.bl (if neg then !o.isSome else o.isSome) = .bl k ∧ Q k H2 := by
  refine din_low (Q := fun x H' => ∃ k, x = .bl k ∧ Q k H') hi.mono ho.mono ?_
  obtain ⟨Φ, lim, g, E, r, hx, q⟩ := h
  refine ⟨Φ, lim, g, E, r, hx, xDIn_mono hi.mono ho.mono _ _ _ _ _ (fun τ g1 q1 v H1 r1 => ?_) (fun _ _ _ z => z) q⟩
  split at q1
  · obtain rfl := r1.leaf
    exact ⟨_, rfl, q1 H1 r1.dropT⟩
  · exact q1.elim
theorem dt_din (hu : X.A.units + 1 < cLine) (hi : DE X W e tk) (ho : DE X W o td) (hm : behindInMarks .In o = false := by rfl) : DT X W (.Compare e [.In] [o] pos) (xB (xDIn false tk td)) :=
  ⟨fun B => PT.imp (pt_cmp (pc_din hu (hi.run B) (ho.run B)) hm) fun σ H Q h => din_lowT (neg := false) hi ho h, fun g Q Q' E E' hq hE q => xDIn_mono hi.mono ho.mono _ _ _ _ _ (fun τ g1 q1 => m_bl hq q1) hE q⟩
theorem dt_dnotin (hu : X.A.units + 1 < cLine) (hi : DE X W e tk) (ho : DE X W o td) (hm : behindInMarks .NotIn o = false := by rfl) : DT X W (.Compare e [.NotIn] [o] pos) (xB (xDIn true tk td)) :=
  ⟨fun B => PT.imp (pt_cmp (pc_dnotin hu (hi.run B) (ho.run B)) hm) fun σ H Q h => din_lowT (neg := true) hi ho h, fun g Q Q' E E' hq hE q => xDIn_mono hi.mono ho.mono _ _ _ _ _ (fun τ g1 q1 => m_bl hq q1) hE q⟩
def sDAugO (i : Nat) (tk : DTE) (rt : R2T) (tv : DTE) : DTS := fun D g => atSlot i g fun _ => tk g (fun τk g1 => frz τk = τk ∧ atSlot i g1 fun t0 => isDctO t0 ∧ rtDGet t0 τk fun r => ∃ w, r = some (.leaf w) ∧ tv g1 (fun τv g2 => rt (.leaf w) τv fun τ => atSlot i g2 fun t1 => rtDPut t1 τk τ fun t2 => D.nx (g2.set i (some t2))) D.ex) D.ex
theorem ds_daugO {op : Operator} {rr : R2} {rt : R2T} (i : Nat) (hu : X.A.units + 1 < cLine) (ho : PE X o (tVar i)) (hi : DE X W e tk) (hv : DE X W value tv) (hp : InOp X op rr) (hr : Op2 X.K rr rt)
    (ha : ∀ ov iv new, augStore e ov iv new = (do holding [new, ov, iv] (setItem ov iv new); release [new, ov, iv] []; pure .next) := by intros; rfl) : DS X W m (.AugAssign (.Subscript o e pos') op value pos) (sDAugO i tk rt tv) := by
  refine .mk' (fun B σ0 => ps_daug hu ho (hi.run B) (hv.run B) hp ha) (fun B σ0 D σ H Φ lim g E r hk hX q => ?_) fun D D' g h q => ?_
  · obtain ⟨t0, h0, q⟩ := atSlot_of q
    obtain ⟨v0, hv0⟩ := r.slot h0
    refine ⟨v0, hv0, Φ, lim, g, E, r, hX σ hk, hi.mono _ _ _ _ _ (fun τk g1 q1 y H1 r1 => ?_) (fun _ _ _ z => z) q⟩
    obtain ⟨hfk, q1⟩ := q1
    obtain ⟨t1, h1, hd, q1⟩ := atSlot_of q1
    obtain ⟨a, ro, rt', hva, hg, ⟨w, ew, q1⟩, e1, e2⟩ := dget_slot r1 h1 hd q1
    rw [hv0] at hva
    cases hva
    obtain ⟨v, rfl, r2⟩ := e1 _ ew rfl
    obtain rfl := r2.leaf
    refine ⟨a, v, rfl, hg, _, lim, g1, E, r2, hX σ hk, hv.mono _ _ _ _ _ (fun τv g2 q2 y2 H2 r3 => ?_) (fun _ _ _ z => z) q1⟩
    refine hr.1 B lim σ H2 g2 ((y, τk) :: Φ) v y2 _ τv _ r3 (hr.2 _ _ _ _ (fun τ q3 z H3 r4 => ?_) q2)
    obtain ⟨t2, h2, q3⟩ := atSlot_of q3
    have rv : RepG X.K B lim σ H3 g2 ((z, τ) :: Φ) := RepG.subs (zs := [(z, τ), (y, τk)]) (ys := [(z, τ)]) (List.Sublist.cons_cons _ (List.nil_sublist _)) r4
    have rk : RepG X.K B lim σ H3 g2 ((y, τk) :: Φ) := r4.dropT
    unfold rtDPut at q3
    split at q3
    · obtain ⟨ns, e, z, n, l, sz, q3⟩ := q3
      obtain ⟨b, rfl, hb⟩ := rk.keyH e z
      obtain ⟨a', us, ha', hlu, hH, r5⟩ := put_slot (hk := HO.dT) (fun _ _ _ => rfl) (fun _ z => by cases z) rv h2 (k := ik ns) n l
      rw [hv0] at ha'
      cases ha'
      exact ⟨_, .inr ⟨_, ik ns, b, hH, rfl, hb, by rw [List.length_zip]; omega, rfl⟩, q3 _ _ r5 hk⟩
    · rename_i j _ _ _
      obtain rfl := rk.leaf
      obtain ⟨a', us, ha', hlu, hH, r5⟩ := put_slot (hk := HO.dK) (fun _ _ _ => rfl) (fun _ z => by cases z) rv h2 (k := .inl j) q3.1 q3.2.1
      rw [hv0] at ha'
      cases ha'
      exact ⟨_, .inl ⟨_, .inl j, hH, rfl, by rw [List.length_zip]; omega, rfl⟩, q3.2.2.2 _ _ r5 hk⟩
    · rename_i x _ _ _
      obtain rfl := rk.leaf
      obtain ⟨a', us, ha', hlu, hH, r5⟩ := put_slot (hk := HO.dK) (fun _ _ _ => rfl) (fun _ z => by cases z) rv h2 (k := .inr x) q3.1 q3.2.1
      rw [hv0] at ha'
      cases ha'
      exact ⟨_, .inl ⟨_, .inr x, hH, rfl, by rw [List.length_zip]; omega, rfl⟩, q3.2.2.2 _ _ r5 hk⟩
    · exact q3.elim
  · refine atSlot_mono (fun _ q => hi.mono _ _ _ _ _ (fun τk g1 q1 => ⟨q1.1, atSlot_mono (fun t0 q2 => ⟨q2.1, rtDGet_mono (fun r ⟨w, e, q3⟩ => ⟨w, e, hv.mono _ _ _ _ _ (fun τv g2 q4 => hr.2 _ _ _ _ (fun τ q5 => atSlot_mono (fun t1 q6 => rtDPut_mono (fun t2 q7 => h.nx _ q7) q6) q5) q4) h.ex q3⟩) q2.2⟩) q1.2⟩) h.ex q) q
end
section
variable {K : PySem.W.Frag} {B : Bs} {lim : List Addr} {σ : St} {H : Hp} {g : Ev} {Φ : Its}
theorem RepG.unlim {a : Addr} (h : RepG K B (a :: lim) σ H g Φ) : RepG K B lim σ H g Φ := by
  obtain ⟨F, zs, fp, en, o, f, hl⟩ := h
  exact ⟨F, zs, fp, en, o, f.sub (List.sublist_cons_self _ _), fun b hb => hl b (List.mem_cons_of_mem _ hb)⟩
end
section
variable {X : Cx} {m : Nat → Bool} {es : List Expr} {pos : Pos}
def gSqO (n : Nat) (u : DTGs) : DTG := fun τ g Q => match τ with
  | .node true .tup ts => ts.length = n ∧ u ts g Q
  | _ => False
theorem dg_seqO {k n : Nat} {u : DTGs} (hc : X.calm = true) (h : DGs X m es u) (hn : (assignEach es X.env).length = n := by rfl) (hst : (assignEach es X.env).findIdx? (·.1) = none := by rfl) : DG X m (.Tuple es k pos) (gSqO n u) := by
  refine ⟨fun B σ0 => ⟨fun pins s σ H v w Q I rv ⟨Φ, lim, g, τ, r, hk, q⟩ => ?_⟩, fun τ g Q Q' hq q => ?_⟩
  · unfold gSqO at q
    split at q
    · rename_i ts
      obtain ⟨a, vs, rfl, hl, ha, r'⟩ := r.open_
      exact (pg_tup hc (h.run B σ0) hn hst).run pins s σ H _ w Q I rv ⟨a, vs, rfl, seqT (.inl (.inl ha)), by rw [hl]; exact q.1, _, lim, g, ts, hl, r'.unlim, hk, q.2⟩
    · exact q.elim
  · unfold gSqO at q
    split at q
    · exact ⟨q.1, h.mono _ _ _ _ hq q.2⟩
    · exact q.elim
end
end DL
set_option Elab.async false
set_option linter.all false
set_option maxRecDepth 100000
set_option maxHeartbeats 4000000
namespace DL
open PySem L2
section
variable {K : PySem.W.Frag} {B : Bs} {lim : List Addr} {σ : St} {H : Hp} {g : Ev} {Φ : Its}
theorem RepG.innerW {v : V} {s : Sh} {ts : List T} {j : Nat} {t : T} {w : V × T} (h : RepG K B lim σ H g ((v, .node true s ts) :: w :: Φ)) (ht : ts[j]? = some t) :
    ∃ a us x Ψ, v = .ref a ∧ us.length = ts.length ∧ H a = some (s.mk a us) ∧ us[j]? = some x ∧ RepG K B (a :: lim) σ H g ((x, t) :: w :: Ψ) ∧
      ∀ H' t', RepG K B (a :: lim) σ H' g ((x, t') :: Ψ) → H' a = some (s.mk a us) → RepG K B lim σ H' g ((v, .node true s (ts.set j t')) :: Φ) := by
  obtain ⟨a, us, rfl, hl, ha, r2⟩ := h.open_
  obtain ⟨x, hx, hz⟩ := zip_get (l := us) (r := ts) hl ht
  obtain ⟨r, p1, _⟩ := set_perm (x, t) hz
  refine ⟨a, us, x, r ++ Φ, rfl, hl, ha, hx, r2.perm ?_, fun H' t' h' ha' => ?_⟩
  · have q1 : (us.zip ts ++ w :: Φ).Perm (((x, t) :: r) ++ w :: Φ) := List.Perm.append_right _ p1
    exact q1.trans (List.Perm.cons _ List.perm_middle)
  obtain ⟨r', p1', p2'⟩ := set_perm (x, t') hz
  have pr : r.Perm r' := List.Perm.cons_inv (p1.symm.trans p1')
  have e1 : (us.zip ts).set j (x, t') = us.zip (ts.set j t') := by rw [zip_set, set_at hx]
  rw [e1] at p2'
  have r5 : RepG K B (a :: lim) σ H' g (us.zip (ts.set j t') ++ Φ) := h'.perm (((List.Perm.cons _ (List.Perm.append_right _ pr))).trans (List.Perm.append_right Φ p2'.symm))
  have hl2 : us.length = (ts.set j t').length := by rw [List.length_set]; exact hl
  have r6 := r5.close (s := s) (fun vs e => by rw [List.map_fst_zip (by omega)]; exact Option.some.inj (ha'.symm.trans e))
  rw [List.map_fst_zip (by omega), List.map_snd_zip (by omega), upd_self ha'] at r6
  exact r6
theorem bor_keep {K : PySem.W.Frag} {B : Bs} {lim : List Addr} {σ : St} {H : Hp} {g : Ev} {Φ : Its} (r : RepG K B lim σ H g Φ) : ∃ B', RepG K B' [] σ H (frzE g) [] ∧
    (∀ H1 g' Ψ, RepG K B' [] σ H1 g' Ψ → ∀ a o, H a = some o → H1 a = some o) ∧ ∀ v τ H1 g', pureT τ = true → RepG K B' [] σ H1 g' [(v, τ)] → RepG K B lim σ H1 g ((v, τ) :: Φ) := by
  obtain ⟨F, zs, fp, en, o, f, hl⟩ := r
  obtain ⟨f1, f2, rfl, o1, o2⟩ := o.split
  have trk : ∀ a, a ∈ lim ++ (f1 ++ f2) → H a ≠ none := fun a ha => by
    rcases List.mem_append.mp ha with z | z
    · exact hl a z
    · exact o.tracked a z
  refine ⟨baseB H F (lim ++ (f1 ++ f2)), ?_, fun H1 g' Ψ r1 a u e => ?_, fun v τ H1 g' hp r1 => ?_⟩
  · refine ⟨fun a => F a ∨ a ∈ lim ++ (f1 ++ f2), zs.map fun z => (z.1, frz z.2), [], en.frzE, ?_, ?_, fun _ z => nomatch z⟩
    · rw [List.append_nil]
      exact o1.frzZ (fun _ z => .inl z) fun a z => .inr (List.mem_append_right _ (List.mem_append_left _ z))
    · exact ⟨.nil, (fun _ z => nomatch z), fun b z => z.elim (f.trk b) (trk b), fun _ z => z, fun _ _ z _ => z, fun _ z => .inl z, (fun _ z => nomatch z), fun _ _ e => e⟩
  · obtain ⟨F1, zs1, fp1, en1, oz1, fn, _⟩ := r1
    exact fn.keep a u e (fun z => nomatch z)
  · obtain ⟨F1, zs1, fp1, en1, oz1, fn, _⟩ := r1
    obtain ⟨g1, g2, rfl, oa, ob⟩ := oz1.split
    obtain ⟨h1, h2, e, pv, pn⟩ := ob.uncons
    have e2 : h2 = [] := by cases pn; rfl
    subst e e2
    refine rejoin (Ψ := [(v, τ)]) (fv := h1 ++ []) en o f hl (fun b u e => fn.keep b u e (fun z => nomatch z)) (.cons (pv.anyF τ hp) .nil) ?_ fun b z => ?_
    · rw [List.append_nil]
      have := fn.nd
      rw [List.nil_append, List.append_nil] at this
      exact (List.nodup_append.mp this).2.1
    · rw [List.append_nil] at z
      rcases fn.newO b (List.mem_append_right _ (List.mem_append_right _ (List.mem_append_left _ z))) with q | q
      · cases q
      · exact q
end
section
variable {X : Cx} {W : WX} {pos : Pos}
def xAppI (k : Nat) (ti te : DTE) : DTE := fun g Q _ => atSlot k g fun _ => ti (frzE g) (fun τi g1 => isI τi fun i => atSlot k g fun t0 => ∃ l1 j ts, t0 = .node true .lst l1 ∧ ixN l1.length i = some j ∧ l1[j]? = some (.node true .lst ts) ∧ ts.length < sizeLine ∧
  te g1 (fun τ _ => pureT τ = true ∧ Q (.leaf .non) (g.set k (some (.node true .lst (l1.set j (.node true .lst (ts ++ [τ]))))))) noX) noX
theorem d_appI {o ie e : Expr} {ti te : DTE} {apos cpos p1 : Pos} (k : Nat) (ho : PE X o (tVar k)) (hi : DE X W ie ti) (he : DE X W e te)
    (hbase : attributeBase (.Subscript o ie p1) "append" X.env (eval (.Subscript o ie p1) X.env) = eval (.Subscript o ie p1) X.env := by rfl) (hs1 : PlainIx ie := by intro _ _; rfl)
    (hfew : ((backTo cpos (starEach [e] X.env)).all (fun x => !x.1) && (backToKw cpos (keywordEach [] X.env)).all (fun x => x.1.isSome) && decide ([e].length + ([] : List Keyword).length + (if ([] : List Keyword).isEmpty then 0 else 1) < 30)) = true := by rfl)
    (hline : (apos.endLine == cpos.line) = true := by rfl) (hs : starEach [e] X.env = (false, eval e X.env) :: starEach [] X.env := by rfl) (hplain : (backTo cpos (starEach [] X.env)).any (·.1) = false := by rfl) :
    DE X W (.Call (.Attribute (.Subscript o ie p1) "append" apos) [e] [] cpos) (xAppI k ti te) := by
  refine ⟨fun B => ⟨fun pins s σ H Q I ⟨Φ, lim, g, E, r, hx, q⟩ => ?_⟩, fun g Q Q' E E' hq hE q => ?_⟩
  · obtain ⟨t0, h0, q⟩ := atSlot_of q
    obtain ⟨v0, hv⟩ := r.slot h0
    obtain ⟨B', r1, keep, back⟩ := bor_keep r
    refine (pe_bm PySem.F.plainAttrs_list PySem.F.slot_list_append PySem.F.type_list_append mt_append (pe_ix ix_list ho (hi.run B') hs1) (pa_cons (he.run B') pa_nil hs) hbase hfew hline hs hplain).run pins s σ H Q I ?_
    refine ⟨v0, hv, [], [], _, noX, r1, liftX0, hi.mono _ _ _ _ _ (fun τi g1 q1 vi H1 r2 => ?_) (fun _ _ _ z => z) q⟩
    obtain ⟨i, rfl, q1⟩ := isI_of q1
    obtain rfl := r2.leaf
    obtain ⟨t0', h0', l1, j, ts, rfl, hj, h1, hlt, q1⟩ := atSlot_of q1
    obtain ⟨v0', hv', r3⟩ := r.move h0'
    rw [hv] at hv'
    cases hv'
    obtain ⟨a1, us1, x1, Ψ1, rfl, hl1, ha1, hx1, r4, _⟩ := r3.inner h1
    obtain ⟨a3, us3, rfl, hl3, ha3, r5⟩ := r4.open_
    have A1 : atI us1 i = some (.ref a3) := by unfold atI; rw [hl1, hj]; exact hx1
    have k1 : H1 a1 = some (.lst us1) := keep H1 _ _ r2 a1 _ ha1
    have k3 : H1 a3 = some (.lst us3) := keep H1 _ _ r2 a3 _ ha3
    refine ⟨a1, us1, _, _, rfl, rfl, SqL.of k1, A1, .inl ⟨rfl, us3, SqL.of k3⟩, ?_⟩
    refine ⟨[], [], g1, noX, r2.dropT, liftX0, he.mono _ _ _ _ _ (fun τ g2 q2 v H2 r6 => ?_) (fun _ _ _ z => z) q1⟩
    have k1' : H2 a1 = some (.lst us1) := keep H2 _ _ r6 a1 _ ha1
    have k3' : H2 a3 = some (.lst us3) := keep H2 _ _ r6 a3 _ ha3
    have rb := back v τ H2 g2 q2.1 r6
    obtain ⟨v0', hv', r7⟩ := rb.move h0'
    rw [hv] at hv'
    cases hv'
    obtain ⟨b1, vs1, y1, Ψ2, e1, hl1', hb1, hy1, r8, w1⟩ := r7.innerW h1
    cases e1
    rw [k1'] at hb1
    have e2 : us1 = vs1 := by
      have := Option.some.inj hb1
      exact HO.lst.inj this
    subst e2
    rw [hx1] at hy1
    cases hy1
    obtain ⟨b3, vs3, e3, hl3', hb3, r9⟩ := r8.open_
    cases e3
    rw [k3'] at hb3
    have e4 : us3 = vs3 := HO.lst.inj (Option.some.inj hb3)
    subst e4
    have nd := r9.limNd
    have n31 : a1 ≠ a3 := fun e => by subst e; simp at nd
    refine ⟨a3, us3, v, rfl, rfl, k3', by omega, ?_⟩
    have r10 : RepG X.K B (a3 :: a1 :: lim) σ H2 (g.set k none) ((us3.zip ts ++ [(v, τ)]) ++ Ψ2) := r9.perm (by rw [List.append_assoc]; exact List.Perm.refl _)
    have f1 : ((us3.zip ts ++ [(v, τ)]).map (·.1)) = us3 ++ [v] := by
      rw [List.map_append, List.map_fst_zip (by omega)]
      rfl
    have f2 : ((us3.zip ts ++ [(v, τ)]).map (·.2)) = ts ++ [τ] := by
      rw [List.map_append, List.map_snd_zip (by omega)]
      rfl
    have r11 := r10.close (s := .lst) (fun vs e => nomatch (show HO.lst us3 = HO.tup vs from Option.some.inj (k3'.symm.trans e)))
    rw [f1, f2] at r11
    have r12 := w1 _ _ r11 (by rw [upd_ne n31]; exact k1')
    have r13 := r12.back hv
    rw [List.set_set] at r13
    exact q2.2 _ _ r13.addLeaf
  · refine atSlot_mono (fun _ q => hi.mono _ _ _ _ _ (fun τi g1 q1 => isI_mono (fun i q2 => atSlot_mono (fun t0 ⟨l1, j, ts, e, h1, h2, h3, q3⟩ => ⟨l1, j, ts, e, h1, h2, h3, he.mono _ _ _ _ _ (fun τ g2 q4 => ⟨q4.1, hq _ _ q4.2⟩) (fun _ _ _ z => z) q3⟩) q2) q1) (fun _ _ _ z => z) q) q
end
def rtSlA : T → Option Int → Option Int → (T → Prop) → Prop := fun τ lo hi Q => match τ with
  | .node _ .lst ts => Q (.node true .lst (cutA (frzL ts) lo hi))
  | .node _ .tup ts => Q (.node false .tup (cutA (frzL ts) lo hi))
  | .pin .lst vs => Q (.node true .lst ((cutA vs lo hi).map .leaf))
  | .leaf (.str z) => z.length ≤ sizeLine ∧ Q (.leaf (.str (cutS z lo hi)))
  | _ => False
theorem rtSlA_mono {τ : T} {lo hi : Option Int} {Q Q' : T → Prop} (h : ∀ τ, Q τ → Q' τ) (q : rtSlA τ lo hi Q) : rtSlA τ lo hi Q' := by
  unfold rtSlA at q ⊢
  split at q
  · exact h _ q
  · exact h _ q
  · exact h _ q
  · exact ⟨q.1, h _ q.2⟩
  · exact q.elim
def xSlA (te : DTE) (tl th : DTO) : DTE := fun g Q E => te g (fun τ g1 => tl g1 (fun l g2 => th g2 (fun u g3 => rtSlA τ l u fun τ' => Q τ' g3) E) E) E
section
variable {X : Cx} {W : WX} {e : Expr} {lo hi : Option Expr} {te : DTE} {tl th : DTO} {pos p2 : Pos}
theorem cutA_frz (ts : List T) (lo hi : Option Int) : frzL (cutA (frzL ts) lo hi) = cutA (frzL ts) lo hi := by
  unfold cutA
  rw [frzL_map, List.map_take, List.map_drop, ← frzL_map, frzL_frzL]
theorem d_sliceA (he : DE X W e te) (hl : DO X W lo tl) (hu : DO X W hi th) : DE X W (.Subscript e (.Slice lo hi none p2) pos) (xSlA te tl th) := by
  refine ⟨fun B => PE.imp (pe_slice ((SlR.or (sl_list (X := X)) (sl_tupA (X := X))).or sl_str) (he.run B) (hl.run B) (hu.run B)) fun σ H Q ⟨Φ, lim, g, E, r, hx, q⟩ => ?_, fun g Q Q' E E' hq hE q => he.mono _ _ _ _ _ (fun τ g1 q1 => hl.mono _ _ _ _ _ (fun l g2 q2 => hu.mono _ _ _ _ _ (fun u g3 q3 => rtSlA_mono (fun τ z => hq _ _ z) q3) hE q2) hE q1) hE q⟩
  refine ⟨Φ, lim, g, E, r, hx, he.mono _ _ _ _ _ (fun τ g1 q1 v H1 r1 => ?_) (fun _ _ _ z => z) q⟩
  refine ⟨(v, τ) :: Φ, lim, g1, E, r1, hx, hl.mono _ _ _ _ _ (fun l g2 q2 H2 r2 => ?_) (fun _ _ _ z => z) q1⟩
  refine ⟨(v, τ) :: Φ, lim, g2, E, r2, hx, hu.mono _ _ _ _ _ (fun u g3 q3 H3 r3 => ?_) (fun _ _ _ z => z) q2⟩
  unfold rtSlA at q3
  split at q3
  · rename_i o ts
    obtain ⟨ad, us, rfl, hlen, hr, r4⟩ := r3.parts
    refine .inl (.inl ⟨ad, us, rfl, seqL hr, fun q hq => q3 _ _ ?_⟩)
    exact make_cut .lst (ts := frzL ts) (by rw [hlen, frzL_length]) ((r4.perm (List.perm_append_comm (l₁ := us.zip (frzL ts)) (l₂ := (V.ref ad, T.node false .lst (frzL ts)) :: Φ))).dropT.perm List.perm_append_comm) hq
  · rename_i o ts
    obtain ⟨ad, us, rfl, hlen, hr, r4⟩ := r3.parts
    have hlu : us.length = (frzL ts).length := by rw [hlen, frzL_length]
    refine .inl (.inr ⟨ad, us, rfl, seqT hr, fun hw => q3 _ _ ?_, fun hw q hq => q3 _ _ ?_⟩)
    · have e1 : cutA (frzL ts) l u = frzL ts := by
        unfold cutA
        rw [← hlu, hw.1, hw.2, List.drop_zero, Nat.sub_zero, hlu, List.take_length]
      rw [e1]
      exact (r4.perm (List.perm_middle)).one (i := 0) (zs := (V.ref ad, T.node false .tup (frzL ts)) :: us.zip (frzL ts)) rfl
    · have r5 := make_cut .tup (ts := frzL ts) (lo := l) (hi := u) (by rw [hlen, frzL_length]) ((r4.perm (List.perm_append_comm (l₁ := us.zip (frzL ts)) (l₂ := (V.ref ad, T.node false .tup (frzL ts)) :: Φ))).dropT.perm List.perm_append_comm) hq
      have r6 := r5.freezeT
      rw [frz_node, cutA_frz] at r6
      exact r6
  · rename_i vs
    obtain ⟨ad, rfl, hr⟩ := r3.pinAt
    refine .inl (.inl ⟨ad, vs, rfl, seqL hr, fun q hq => q3 _ _ ?_⟩)
    exact make_of .lst (by simp) (leavesR r3.dropT (cutV vs l u)) hq
  · rename_i z
    obtain rfl := r3.leaf
    exact .inr ⟨z, rfl, q3.1, q3.2 _ _ r3.dropT.addLeaf⟩
  · exact q3.elim
end
end DL
set_option Elab.async false
set_option linter.all false
set_option maxRecDepth 100000
set_option maxHeartbeats 4000000
namespace DL
open PySem L2
section
variable {K : PySem.W.Frag} {B : Bs} {lim : List Addr} {σ : St} {H : Hp} {g : Ev} {Φ : Its}
theorem RepG.rebase (r : RepG K B lim σ H g Φ) : ∃ B', RepG K B' [] σ H g Φ ∧ ∀ σ1 H1 g1 Ψ, RepG K B' [] σ1 H1 g1 Ψ → RepG K B lim σ1 H1 g1 Ψ ∧ ∀ a ∈ lim, H1 a = H a := by
  obtain ⟨F, zs, fp, en, o, f, hl⟩ := r
  have trk : ∀ a ∈ fp, H a ≠ none := fun a ha => o.tracked a ha
  have ndl := (List.nodup_append.mp f.nd)
  refine ⟨⟨H, F, fp⟩, ⟨F, zs, fp, en, o, ⟨ndl.2.1, fun a z => f.off a (List.mem_append_right _ z), f.trk, fun _ z => z, fun _ _ e _ => e, fun _ z => .inl z, fun _ z => .inl z, fun _ _ e => e⟩, fun _ z => nomatch z⟩, fun σ1 H1 g1 Ψ r1 => ?_⟩
  obtain ⟨F1, zs1, fp1, en1, o1, f1, _⟩ := r1
  rw [List.nil_append] at f1
  have notfp : ∀ a ∈ lim, a ∉ fp := fun a ha hb => ndl.2.2 a ha a hb rfl
  have same : ∀ a ∈ lim, H1 a = H a := fun a ha => by
    cases q : H a with
    | none => exact absurd q (hl a ha)
    | some u => exact f1.keep a u q (notfp a ha)
  have b0 : ∀ a, H a = none → a ∈ B.fp0 ∨ B.H0 a = none := fun a ha => by
    by_cases hb : a ∈ B.fp0
    · exact .inl hb
    · refine .inr ?_
      cases q : B.H0 a with
      | none => rfl
      | some u => rw [f.keep a u q hb] at ha; cases ha
  refine ⟨⟨F1, zs1, fp1, en1, o1, ⟨?_, fun a z => ?_, f1.trk, fun a z => f1.inc a (f.inc a z), fun a u e n => ?_, fun a z => ?_, fun a z => ?_, fun a vs e => f1.keepT a vs (f.keepT a vs e)⟩, fun a ha => by rw [same a ha]; exact hl a ha⟩, same⟩
  · refine List.nodup_append.mpr ⟨ndl.1, f1.nd, fun a ha b hb e => ?_⟩
    subst e
    rcases f1.newO a hb with z | z
    · exact notfp a ha z
    · exact hl a ha z
  · rcases List.mem_append.mp z with z | z
    · intro q
      rcases f1.newF a q with y | y | y
      · exact f.off a (List.mem_append_left _ z) y
      · exact notfp a z y
      · exact hl a z y
    · exact f1.off a z
  · have e1 := f.keep a u e n
    refine f1.keep a u e1 fun z => ?_
    rcases f.newO a (List.mem_append_right _ z) with y | y
    · exact n y
    · rw [e] at y; cases y
  · rcases f1.newF a z with y | y | y
    · exact f.newF a y
    · rcases f.newO a (List.mem_append_right _ y) with q | q
      · exact .inr (.inl q)
      · exact .inr (.inr q)
    · exact .inr (b0 a y)
  · rcases List.mem_append.mp z with z | z
    · exact f.newO a (List.mem_append_left _ z)
    · rcases f1.newO a z with y | y
      · exact f.newO a (List.mem_append_right _ y)
      · exact b0 a y
end
abbrev endO (v i : Nat) (ts : List T) (R : List T → Ev → Prop) (D : DEnds) : DEnds :=
  { nx := fun g' => atSlot v g' fun t' => R (ts.set i t') (g'.set v none), ct := fun g' => atSlot v g' fun t' => R (ts.set i t') (g'.set v none), bk := fun _ => False, rt := D.rt, ex := D.ex }
def loopO (d v : Nat) (tb : DTS) (D : DEnds) : Nat → List T → Ev → Prop
  | 0, ts, g => D.nx (g.set d (some (.node true .lst ts)))
  | k + 1, ts, g => ∃ t, ts[ts.length - (k + 1)]? = some t ∧ tb (endO v (ts.length - (k + 1)) ts (loopO d v tb D k) D) (g.set v (some t))
inductive LoopO (d v : Nat) (tb : DTS) (D : DEnds) (ts : List T) (g : Ev) : Prop where
  | mk (h : loopO d v tb D ts.length ts g) : LoopO d v tb D ts g
theorem LoopO.out {d v : Nat} {tb : DTS} {D : DEnds} {ts : List T} {g : Ev} : LoopO d v tb D ts g → loopO d v tb D ts.length ts g
  | ⟨h⟩ => h
def sForO (d v : Nat) (tb : DTS) : DTS := fun D g => atSlot d g fun t0 => ownL t0 fun ts => LoopO d v tb D ts (g.set d none)
theorem LoopO.ind {d v : Nat} {tb : DTS} {D : DEnds} {ts : List T} {g : Ev} (I : Nat → List T → Ev → Prop) (h0 : I 0 ts g)
    (hs : ∀ (i : Nat) (us : List T) (g : Ev), us.length = ts.length → i < ts.length → I i us g → ∀ R : List T → Ev → Prop, (∀ us' g', us'.length = ts.length → I (i + 1) us' g' → R us' g') → ∃ t, us[i]? = some t ∧ tb (endO v i us R D) (g.set v (some t)))
    (he : ∀ us g, us.length = ts.length → I ts.length us g → D.nx (g.set d (some (.node true .lst us)))) : LoopO d v tb D ts g := by
  refine ⟨?_⟩
  have key : ∀ (k : Nat) (us : List T) (g : Ev), us.length = ts.length → k ≤ ts.length → I (ts.length - k) us g → loopO d v tb D k us g := by
    intro k
    induction k with
    | zero => exact fun us g hl _ h => he us g hl h
    | succ k ih =>
      intro us g hl hk h
      have e1 : ts.length - (k + 1) + 1 = ts.length - k := by omega
      obtain ⟨t, ht, q⟩ := hs (ts.length - (k + 1)) us g hl (by omega) h (loopO d v tb D k) fun us' g' h1 h2 => ih us' g' h1 (by omega) (by rw [← e1]; exact h2)
      refine ⟨t, by rw [hl]; exact ht, ?_⟩
      rw [hl]
      exact q
  exact key ts.length ts g rfl (Nat.le_refl _) (by rw [Nat.sub_self]; exact h0)
theorem loopO_mono {d v : Nat} {tb : DTS} {D D' : DEnds} (hb : ∀ D D' g, D.Le D' → tb D g → tb D' g) (h : D.Le D') : ∀ k ts g, loopO d v tb D k ts g → loopO d v tb D' k ts g
  | 0, ts, g, q => h.nx _ q
  | k + 1, ts, g, ⟨t, e, q⟩ => ⟨t, e, hb (endO v (ts.length - (k + 1)) ts (loopO d v tb D k) D) _ _ ⟨fun _ z => atSlot_mono (fun _ z => loopO_mono hb h k _ _ z) z, h.rt, h.ex, fun _ z => z, fun _ z => atSlot_mono (fun _ z => loopO_mono hb h k _ _ z) z⟩ q⟩
section
variable {X : Cx} {W : WX} {m : Nat → Bool} {pos p1 p2 : Pos}
theorem ds_forO {x y : Str} {body : List Stmt} {tb : DTS} (d v : Nat) (hdv : d ≠ v) (hp : PassesOwn (model X.prog X.w) X.A X.env X.xe) (hc : X.calm = true) (ho : PE X (.Name x p1) (tVar d))
    (hN : X.N.Nodup) (hi : X.N[v]? = some y) (hy : Loc X.env.scope y) (hm : m v = false) (hb : DSs X W (fun i => m i || i == d || i == v) body tb)
    (hs : ∀ z, foldedSetIterable (.Name x p1) X.env z = pure z := by intro _; rfl) (hf : X.fn y = true ∨ X.env.scope.names.lookup y = some .local := by first | exact .inl rfl | exact .inr rfl | assumption) :
    DS X W m (.For (.Name y p2) (.Name x p1) body [] pos) (sForO d v tb) := by
  let m' : Nat → Bool := fun i => m i || i == d || i == v
  have hbx : ∀ B0 : Bs, PSs X body (fun D σ H => ∃ B' σ1, liftS X.K B' W m' σ1 tb D σ H) := fun _ => ⟨fun pins s σ H D I ⟨B', σ1, h⟩ => (hb.run B' σ1).run pins s σ H D I h⟩
  refine .mk' (fun B σ0 => ps_for hp hc (pi_list ho) (pg_name hN hi hy hf) (hbx B) hs) (fun B σ0 D σ H Φ lim g E r hk hX q => ?_) fun D D' g h q => atSlot_mono (fun t0 q => ownL_mono (fun ts q => ⟨loopO_mono hb.mono h _ _ _ q.out⟩) q) q
  obtain ⟨t0, h0, q⟩ := atSlot_of q
  obtain ⟨ts0, rfl, q⟩ := ownL_of q
  obtain ⟨v0, hv, r1⟩ := r.move h0
  obtain ⟨a1, us, rfl, hl, ha, r2⟩ := r1.open_
  refine ⟨_, hv, a1, rfl, ⟨us, SqL.of ha⟩, fun i n σ H => n = ts0.length - i ∧ i ≤ ts0.length ∧ ∃ g ts, ts.length = ts0.length ∧ RepG X.K B (a1 :: lim) σ H g (us.zip ts ++ Φ) ∧ H a1 = some (.lst us) ∧ σ[d]? = some (some (.ref a1)) ∧ Kept m σ0 σ ∧ loopO d v tb (low X.K B m σ0 lim Φ D E) (ts0.length - i) ts g, ⟨ts0.length, by simp, Nat.zero_le _, _, ts0, rfl, r2, ha, hv, hk, q.out⟩, ?_⟩
  rintro i n σ H ⟨rfl, hi', g2, ts, hlt, r3, ha3, hd3, hk3, q3⟩
  by_cases hlt2 : i < ts0.length
  · obtain ⟨k, ek⟩ : ∃ k, ts0.length - i = k + 1 := ⟨ts0.length - i - 1, by omega⟩
    rw [ek] at q3
    obtain ⟨t, ht, q3⟩ := q3
    have ei : ts.length - (k + 1) = i := by omega
    rw [ei] at ht q3
    obtain ⟨x0, hx0, hz⟩ := zip_get (l := us) (r := ts) (by omega) ht
    refine .inr ⟨⟨us, x0, SqL.of ha3, hx0⟩, fun σ' H' => ∃ g ts, ts.length = ts0.length ∧ RepG X.K B (a1 :: lim) σ' H' g (us.zip ts ++ Φ) ∧ H' a1 = some (.lst us) ∧ σ'[d]? = some (some (.ref a1)) ∧ Kept m σ0 σ' ∧ loopO d v tb (low X.K B m σ0 lim Φ D E) k ts g, fun σ' H' z => ⟨ts0.length - (i + 1), by omega, rfl, hlt2, ?_⟩, fun x H' y => ?_⟩
    · rw [show ts0.length - (i + 1) = k by omega]
      exact z
    obtain ⟨e1, e2⟩ := y
    have e1 := e1.symm
    subst e1
    have e3 := e2 us (SqL.of ha3)
    rw [hx0] at e3
    cases e3
    obtain ⟨rr, pm1, _⟩ := set_perm (x0, t) hz
    have r4 : RepG X.K B (a1 :: lim) σ H g2 ((x0, t) :: (rr ++ Φ)) := r3.perm (Ψ := (x0, t) :: (rr ++ Φ)) (List.Perm.append_right Φ pm1)
    have r5 := r4.put' (i := v)
    obtain ⟨B', r6, back⟩ := r5.rebase
    have hk4 : Kept m σ0 (σ.set v (some x0)) := hk3.set hm
    have up : ∀ {s1 s2 : St}, Kept m' s1 s2 → Kept m s1 s2 := fun h => ⟨h.1, fun j hj => h.2 j (by show (m j || j == d || j == v) = true; rw [hj]; rfl)⟩
    refine ⟨B', σ.set v (some x0), rr ++ Φ, [], _, E, r6, ⟨rfl, fun _ _ => rfl⟩, fun σ' hk' => fun c fs g' dd H' rg hd he => hX σ' (hk4.trans (up hk')) c fs g' dd H' (back _ _ _ _ rg).1.lim0 hd he, ?_⟩
    have fin : ∀ g', (atSlot v g' fun t' => loopO d v tb (low X.K B m σ0 lim Φ D E) k (ts.set i t') (g'.set v none)) → ∀ σ' H', RepG X.K B' [] σ' H' g' (rr ++ Φ) → Kept m' (σ.set v (some x0)) σ' → ∃ g ts, ts.length = ts0.length ∧ RepG X.K B (a1 :: lim) σ' H' g (us.zip ts ++ Φ) ∧ H' a1 = some (.lst us) ∧ σ'[d]? = some (some (.ref a1)) ∧ Kept m σ0 σ' ∧ loopO d v tb (low X.K B m σ0 lim Φ D E) k ts g := fun g' qq σ' H' rq hkq => by
      obtain ⟨t', ht', qq⟩ := atSlot_of qq
      obtain ⟨w, hw, rq2⟩ := rq.move ht'
      have e4 := hkq.2 v (by show (m v || v == d || v == v) = true; simp)
      rw [hw] at e4
      have e5 : w = x0 := by
        rw [List.getElem?_set] at e4
        simp only [if_true] at e4
        split at e4
        · cases e4; rfl
        · cases e4
      subst e5
      obtain ⟨rq3, kp⟩ := back _ _ _ _ rq2
      obtain ⟨rr', pm1', pm2'⟩ := set_perm (w, t') hz
      have pr : rr.Perm rr' := List.Perm.cons_inv (pm1.symm.trans pm1')
      have e6 : (us.zip ts).set i (w, t') = us.zip (ts.set i t') := by rw [zip_set, set_at hx0]
      rw [e6] at pm2'
      refine ⟨g'.set v none, ts.set i t', by rw [List.length_set]; exact hlt, rq3.perm (((List.Perm.cons _ (List.Perm.append_right _ pr))).trans (List.Perm.append_right Φ pm2'.symm)), by rw [kp a1 List.mem_cons_self]; exact ha3, ?_, hk4.trans (up hkq), qq⟩
      have e7 := hkq.2 d (by show (m d || d == d || d == v) = true; simp)
      rw [e7, List.getElem?_set_ne (fun e => hdv e.symm)]
      exact hd3
    refine hb.mono (endO v i ts (loopO d v tb (low X.K B m σ0 lim Φ D E) k) (low X.K B m σ0 lim Φ D E)) _ _ ⟨fun g' qq σ' H' rq hkq => fin g' qq σ' H' rq hkq, fun τ g' qq vv σ' H' rq hkq => ?_, fun _ _ _ z => z, fun g' z => z.elim, fun g' qq σ' H' rq hkq => fin g' qq σ' H' rq hkq⟩ q3
    exact qq vv σ' H' (back _ _ _ _ rq).1.lim0 (hk4.trans (up hkq))
  · have ei : ts0.length - i = 0 := by omega
    rw [ei] at q3
    refine .inl ⟨⟨us, SqL.of ha3, by omega⟩, ?_⟩
    have r7 := r3.close (s := .lst) (fun vs e => nomatch (show HO.lst us = HO.tup vs from Option.some.inj (ha3.symm.trans e)))
    have f1 : (us.zip ts).map (·.1) = us := List.map_fst_zip (by omega)
    have f2 : (us.zip ts).map (·.2) = ts := List.map_snd_zip (by omega)
    rw [f1, f2, show Sh.lst.mk a1 us = HO.lst us from rfl, upd_self ha3] at r7
    exact q3 σ H (r7.back hd3) hk3
end
end DL
set_option Elab.async false
set_option linter.all false
set_option maxRecDepth 100000
set_option maxHeartbeats 4000000
namespace DL
open PySem L2 PySem.Spec PyProof.Rows
theorem u65 {k : Nat} {A : Around} (r : Room k A) : A.units + 65 < cLine := by
  have := r.un
  omega
section
variable {X : Cx} {W : WX} {a b : Expr} {ta tb : DTE} {pos : Pos}
def rInTD (K : PySem.W.Frag) (neg : Bool) : R2 := fun x y H Q => ∃ d ds, Dp K H x d ∧ Dp K H y (.tuple ds) ∧ SeqAt.shaped d = true ∧ SeqAt.shaped (.tuple ds) = true ∧ Q (.bl (if neg then !(ds.any fun z => PyData.eqv z d) else ds.any fun z => PyData.eqv z d)) H
theorem op_inTD (hu : X.A.units + 65 < cLine) : OpR X (compareOp .In) (rInTD X.K false) := by
  intro pins s σ H x y v u Q I rx ry h
  obtain ⟨d, ds, hd, he, sd, se, q⟩ := h
  obtain ⟨as, r1⟩ := Dp.reads I d x v hd rx
  obtain ⟨bs, r2⟩ := Dp.reads I (.tuple ds) y u he ry
  exact SeqAt.in_tuple_reads r2 r1 (SeqAt.canLay_of_shaped se) (SeqAt.canLay_of_shaped sd) (room_in_shaped sd hu) ⟨.bl _, H, I, rfl, q⟩
theorem op_notInTD (hu : X.A.units + 65 < cLine) : OpR X (compareOp .NotIn) (rInTD X.K true) := by
  intro pins s σ H x y v u Q I rx ry h
  obtain ⟨d, ds, hd, he, sd, se, q⟩ := h
  obtain ⟨as, r1⟩ := Dp.reads I d x v hd rx
  obtain ⟨bs, r2⟩ := Dp.reads I (.tuple ds) y u he ry
  exact SeqAt.notIn_tuple_reads r2 r1 (SeqAt.canLay_of_shaped se) (SeqAt.canLay_of_shaped sd) (room_in_shaped sd hu) ⟨.bl _, H, I, rfl, q⟩
def rtInT (neg : Bool) : R2T := fun τ1 τ2 Q => ∃ d ds, toP τ1 = some d ∧ toP τ2 = some (.tuple ds) ∧ SeqAt.shaped d = true ∧ SeqAt.shaped (.tuple ds) = true ∧ Q (.leaf (.bl (if neg then !(ds.any fun z => PyData.eqv z d) else ds.any fun z => PyData.eqv z d)))
theorem op2_inT {K : PySem.W.Frag} {neg : Bool} : Op2 K (rInTD K neg) (rtInT neg) := by
  refine ⟨fun B lim σ H g Φ v1 v2 τ1 τ2 Q r q => ?_, fun τ1 τ2 Q Q' hq ⟨d, ds, h1, h2, h3, h4, q⟩ => ⟨d, ds, h1, h2, h3, h4, hq _ q⟩⟩
  obtain ⟨d, ds, h1, h2, h3, h4, q⟩ := q
  exact ⟨d, ds, r.dropT.dp h1, r.dp h2, h3, h4, q _ _ r.dropT.dropT.addLeaf⟩
theorem d_inT (hu : X.A.units + 65 < cLine) (hm : behindInMarks .In b = false) (ha : DE X W a ta) (hb : DE X W b tb) : DE X W (.Compare a [.In] [b] pos) (xOp (rtInT false) ta tb) := d_cmp (op_inTD hu) op2_inT ha hb hm
theorem d_notinT (hu : X.A.units + 65 < cLine) (hm : behindInMarks .NotIn b = false) (ha : DE X W a ta) (hb : DE X W b tb) : DE X W (.Compare a [.NotIn] [b] pos) (xOp (rtInT true) ta tb) := d_cmp (op_notInTD hu) op2_inT ha hb hm
end
end DL
set_option Elab.async false
set_option linter.all false
set_option maxRecDepth 100000
set_option maxHeartbeats 4000000
namespace DL
open PySem L2
section
variable {X : Cx} {W : WX} {m : Nat → Bool} {pos : Pos}
def sAugN (k c d : Nat) (F : Int → Int → Int) (te : DTE) : DTS := fun D g => atSlot k g fun t0 => ∃ l1 ts a, t0 = .node true .lst l1 ∧ l1[c]? = some (.node true .lst ts) ∧ ts[d]? = some (.leaf (.int a)) ∧
  te (frzE g) (fun τe _ => isI τe fun b => D.nx (g.set k (some (.node true .lst (l1.set c (.node true .lst (ts.set d (.leaf (.int (F a b))))))))) ) noX
theorem ds_augN {o e : Expr} {te : DTE} {op : Operator} {F : Int → Int → Int} {tpos p1 q1 q2 : Pos} {z1 z2 : Nat} (k c d : Nat) (ho : PE X o (tVar k)) (he : DE X W e te) (hp : OpR X (inplaceOp op) (rI0 fun i j => .int (F i j)))
    (hs1 : PlainIx (.Constant (.int (c : Nat)) z1 q1) := by intro _ _; rfl)
    (ha : ∀ ov iv new, augStore (.Constant (.int (d : Nat)) z2 q2) ov iv new = (do holding [new, ov, iv] (setItem ov iv new); release [new, ov, iv] []; pure .next) := by intros; rfl) :
    DS X W m (.AugAssign (.Subscript (.Subscript o (.Constant (.int (c : Nat)) z1 q1) p1) (.Constant (.int (d : Nat)) z2 q2) tpos) op e pos) (sAugN k c d F te) := by
  refine ⟨fun B σ0 => ⟨fun pins s σ H D I ⟨Φ, lim, g, E, r, hk, hX, q⟩ => ?_⟩, fun D D' g h q => atSlot_mono (fun t0 ⟨l1, ts, a, e, h1, h2, q⟩ => ⟨l1, ts, a, e, h1, h2, he.mono _ _ _ _ _ (fun τ g2 q2 => isI_mono (fun b z => h.nx _ z) q2) (fun _ _ _ z => z) q⟩) q⟩
  obtain ⟨t0, h0, l1, ts, a, rfl, h1, h2, q⟩ := atSlot_of q
  obtain ⟨v0, hv, rm⟩ := r.move h0
  obtain ⟨B', r1, keep, back⟩ := bor_keep r
  obtain ⟨a1, us1, x1, Ψ1, rfl, hl1, ha1, hx1, r4, w1⟩ := rm.inner h1
  obtain ⟨a3, us3, rfl, hl3, ha3, r5⟩ := r4.open_
  have hc1 : c < l1.length := (List.getElem?_eq_some_iff.mp h1).1
  have hd1 : d < ts.length := (List.getElem?_eq_some_iff.mp h2).1
  have A1 : atI us1 ((c : Nat) : Int) = some (.ref a3) := by
    unfold atI ixN
    rw [if_pos (by omega), if_pos (by omega)]
    exact hx1
  obtain ⟨y, hy, hz⟩ := zip_get (l := us3) (r := ts) hl3 h2
  obtain ⟨rr, pr⟩ := perm_at hz
  obtain rfl := RepG.leaf (r5.perm (List.Perm.append_right _ pr))
  refine (ps_augS (pe_ix ix_list ho pe_int hs1) pe_int get_list (he.run B') hp set_list ha).run pins s σ H D I ?_
  refine ⟨_, hv, a1, us1, _, _, rfl, rfl, SqL.of ha1, A1, a3, us3, _, _, rfl, rfl, by omega, SqL.of ha3, by simpa using hy, [], [], _, noX, r1, liftX0, he.mono _ _ _ _ _ (fun τ g2 q2 v H2 r6 => ?_) (fun _ _ _ z => z) q⟩
  obtain ⟨b, rfl, q2⟩ := isI_of q2
  obtain rfl := r6.leaf
  have k1 : H2 a1 = some (.lst us1) := keep H2 _ _ r6 a1 _ ha1
  have k3 : H2 a3 = some (.lst us3) := keep H2 _ _ r6 a3 _ ha3
  have hd3 : d < us3.length := by omega
  refine ⟨a, b, rfl, rfl, a3, us3, _, d, rfl, rfl, k3, ?_, q2 _ _ ?_ hk⟩
  · unfold ixN
    rw [if_pos (by omega), if_pos (by omega), Int.toNat_natCast]
  have r7 : RepG X.K B (a3 :: a1 :: lim) σ H2 (g.set k none) (us3.zip ts ++ Ψ1) := r5.grow fun b o e => keep H2 _ _ r6 b o e
  obtain ⟨r', p1, p2⟩ := set_perm (V.int (F a b), T.leaf (.int (F a b))) hz
  have r8 : RepG X.K B (a3 :: a1 :: lim) σ H2 (g.set k none) ((us3.zip ts).set d (V.int (F a b), T.leaf (.int (F a b))) ++ Ψ1) :=
    (((r7.perm (List.Perm.append_right Ψ1 p1)).dropT.addLeaf (v := V.int (F a b))).perm (List.Perm.append_right Ψ1 p2.symm))
  have r9 := r8.close (s := .lst) (fun vs e => nomatch (show HO.lst us3 = HO.tup vs from Option.some.inj (k3.symm.trans e)))
  have e1 : (us3.zip ts).set d (V.int (F a b), T.leaf (.int (F a b))) = (us3.set d (.int (F a b))).zip (ts.set d (.leaf (.int (F a b)))) := by rw [zip_set]
  rw [e1, List.map_fst_zip (by simp only [List.length_set]; omega), List.map_snd_zip (by simp only [List.length_set]; omega)] at r9
  have nd := r9.limNd
  have n31 : a1 ≠ a3 := fun e => by
    have := r7.limNd
    subst e
    simp at this
  have r10 := w1 _ _ r9 (by rw [upd_ne n31]; exact k1)
  have r11 := r10.back hv
  rw [List.set_set] at r11
  exact r11
end
theorem bor_rows {K : PySem.W.Frag} {B : Bs} {lim : List Addr} {σ : St} {H : Hp} {g : Ev} {Ψ Φ : Its} (r : RepG K B lim σ H g (Ψ ++ Φ)) : ∃ B', RepG K B' [] σ H (frzE g) (Ψ.map fun z => (z.1, frz z.2)) ∧
    (∀ σ1 H1 g' Ψ', RepG K B' [] σ1 H1 g' Ψ' → ∀ a o, H a = some o → H1 a = some o) := by
  obtain ⟨F, zs, fp, en, o, f, hl⟩ := r
  rw [← List.append_assoc] at o
  obtain ⟨f1, f2, rfl, o1, o2⟩ := o.split
  have o := o1.append o2
  have trk : ∀ a, a ∈ lim ++ (f1 ++ f2) → H a ≠ none := fun a ha => by
    rcases List.mem_append.mp ha with z | z
    · exact hl a z
    · exact o.tracked a z
  refine ⟨baseB H F (lim ++ (f1 ++ f2)), ?_, fun σ1 H1 g' Ψ' r1 a u e => ?_⟩
  · refine ⟨fun a => F a ∨ a ∈ lim ++ (f1 ++ f2), zs.map fun z => (z.1, frz z.2), [], en.frzE, ?_, ?_, fun _ z => nomatch z⟩
    · rw [← List.map_append]
      exact o1.frzZ (fun _ z => .inl z) fun a z => .inr (List.mem_append_right _ (List.mem_append_left _ z))
    · exact ⟨.nil, (fun _ z => nomatch z), fun b z => z.elim (f.trk b) (trk b), fun _ z => z, fun _ _ z _ => z, fun _ z => .inl z, (fun _ z => nomatch z), fun _ _ e => e⟩
  · obtain ⟨F1, zs1, fp1, en1, oz1, fn, _⟩ := r1
    exact fn.keep a u e (fun z => nomatch z)
def xLcM (i w : Nat) (tt : DTT) (vs : List Nat) : DTE := fun g Q _ => atSlot i g fun t0 => ownL t0 fun ts => ts.length ≤ sizeLine ∧ w < g.length ∧ ∃ f : T → Bool,
  (∀ t ∈ ts, tt ((wipeE (frzE (g.set i none)) vs).set w (some (frz t))) (fun b g' => b = f t ∧ g' = (wipeE (frzE (g.set i none)) vs).set w (some (frz t))) noX) ∧ Q (.node true .lst (ts.filter f)) (g.set i none)
theorem rows_fst (f : T → Bool) (us : List V) (ts : List T) (h : us.length = ts.length) : ((us.zip ts).filter fun z => f z.2).map (·.2) = ts.filter f := by
  induction us generalizing ts with
  | nil => cases ts with
    | nil => rfl
    | cons => cases h
  | cons u us ih => cases ts with
    | nil => cases h
    | cons t ts =>
      rw [List.zip_cons_cons, List.filter_cons, List.filter_cons]
      split
      · rw [List.map_cons, ih ts (by simpa using h)]
      · exact ih ts (by simpa using h)
section
variable {X : Cx} {W : WX} {pos p1 p2 p3 : Pos}
theorem d_lcM {x y : Str} {ifs : List Expr} {scope : Scope} {own : List (Str × Nat)} {tt : DTT} (i w : Nat) (hw : own.map (·.2) = [w]) (hc : X.calm = true) (hN : X.N.Nodup) (ho : PE X (.Name x p1) (tVar i)) (ok : BlkOk X.N X.env.scope scope own)
    (hg : ∀ (s : Shared) (H : Hp) (C : Addr) (cl : List (Str × Addr)) (fp : List Addr), PG (X.blk s H scope (compEnvC scope cl C X.env) fp) (.Name y p2) (gName w))
    (ht : ∀ (s : Shared) (H : Hp) (C : Addr) (cl : List (Str × Addr)) (fp : List Addr), DTs (X.blk s H scope (compEnvC scope cl C X.env) fp) W0 ifs tt)
    (he : ∀ (s : Shared) (H : Hp) (C : Addr) (cl : List (Str × Addr)) (fp : List Addr), PE (X.blk s H scope (compEnvC scope cl C X.env) fp) (.Name y p3) (tVar w)) (hs : ∀ z, foldedSetIterable (.Name x p1) X.env z = pure z := by intro _; rfl) :
    DE X W (.ListComp (.Name y p3) [⟨.Name y p2, .Name x p1, ifs, 0⟩] scope pos) (xLcM i w tt (own.map (·.2))) := by
  have mt := (ht X.s_0 X.H_0 0 [] []).mono
  refine ⟨fun B => ⟨fun pins s σ H Q I ⟨Φ, lim, g, E, r, hx, q⟩ => ?_⟩, fun g Q Q' E E' hq _ q => atSlot_mono (fun _ q => ownL_mono (fun ts ⟨hl, hw, f, h1, h2⟩ => ⟨hl, hw, f, h1, hq _ _ h2⟩) q) q⟩
  obtain ⟨t0, h0, q⟩ := atSlot_of q
  obtain ⟨ts, rfl, hlen, hwl, f, hf, q⟩ := ownL_of q
  rw [← r.len] at hwl
  obtain ⟨v0, hv, rm⟩ := r.move h0
  obtain ⟨a1, us, rfl, hl, ha, r2⟩ := rm.open_
  obtain ⟨B', r3, keep⟩ := bor_rows r2
  refine (pe_lc (wi := iList X.K (tVar i)) (g := gName w) (tt := liftT X.K B' W0 tt) (te := tVar w) hc hN (pi_list ho) ok hg (fun s H C cl fp => (ht s H C cl fp).run B') he hs).run pins s σ H Q I ?_
  rw [hw] at hf ⊢
  refine ⟨_, hv, a1, rfl, ⟨us, SqL.of ha⟩, fun D hD => ?_⟩
  let gw : Ev := wipeE (frzE (g.set i none)) [w]
  let Ψ : Its := (us.zip ts).map fun z => (z.1, frz z.2)
  let ws : Nat → List V := fun n => (((us.zip ts).take n).filter fun z => f z.2).map (·.1)
  let Inv := fun (n : Nat) (H' : Hp) => n ≤ us.length ∧ RepG X.K B' [] (L2.wipe σ [w]) H' gw ((.ref D, .node true .lst ((ws n).map .leaf)) :: Ψ)
  have look : ∀ n H', Inv n H' → H' D = some (.lst (ws n)) ∧ RepG X.K B' [D] (L2.wipe σ [w]) H' gw ((ws n).zip ((ws n).map .leaf) ++ Ψ) := fun n H' z => by
    obtain ⟨a, vs, e, hvs, hD', r5⟩ := z.2.open_
    cases e
    obtain ⟨F, zs, fp, en, o, ff, _⟩ := z.2
    obtain ⟨fp', pf, o'⟩ := o.perm (List.perm_middle (a := (V.ref D, T.node true .lst ((ws n).map .leaf))))
    obtain ⟨f1, f2, rfl, p1, o2⟩ := OwnZ.uncons (zs := zs ++ Ψ) o'
    cases p1 with
    | own hb hk =>
      rename_i us' fk
      obtain rfl := ownL_flat hk
      have e3 : H' D = some (.lst (ws n)) := hb
      rw [hD'] at e3
      have e4 : vs = ws n := HO.lst.inj (Option.some.inj e3)
      subst e4
      exact ⟨hD', r5⟩
  have kw : ∀ n H', Inv n H' → H' a1 = some (.lst us) := fun n H' z => keep _ _ _ _ z.2 a1 _ ha
  refine ⟨fun n m H' => m = us.length - n ∧ Inv n H', ⟨us.length, by simp, Nat.zero_le _, ?_⟩, ?_⟩
  · have := (RepG.make (s := .lst) (zs := []) r3 hD).wipe [w]
    exact this
  rintro n m H' ⟨rfl, iv⟩
  by_cases hn : n < us.length
  · refine .inr ⟨⟨us, us[n], SqL.of (kw n H' iv), List.getElem?_eq_getElem hn⟩, fun H' => Inv (n + 1) H', fun H' z => ⟨us.length - (n + 1), by omega, rfl, z⟩, fun x H2 y => ?_⟩
    obtain ⟨e1, e2⟩ := y
    subst e1
    have e3 := e2 us (SqL.of (kw n _ iv))
    rw [List.getElem?_eq_getElem hn] at e3
    cases e3
    have hm : mB [w] w = false := by simp [mB]
    have wsame := wipe_same (σ := σ) (vs := [w]) (kept_refl (m := mB [w]).set hm (x := some us[n]))
    refine ⟨wsame, ?_⟩
    have hnt : n < ts.length := by omega
    have hzz : (us.zip ts)[n]? = some (us[n], ts[n]) := by
      rw [List.getElem?_zip_eq_some]
      exact ⟨List.getElem?_eq_getElem hn, List.getElem?_eq_getElem hnt⟩
    have hz : (((V.ref D, T.node true .lst ((ws n).map .leaf)) :: Ψ) : Its)[n + 1]? = some (us[n], frz ts[n]) := by
      show Ψ[n]? = _
      show ((us.zip ts).map fun z => (z.1, frz z.2))[n]? = _
      rw [List.getElem?_map, hzz]
      rfl
    have r4 : RepG X.K B' [] (L2.wipe σ [w]) H2 gw ((us[n], frz ts[n]) :: ((.ref D, .node true .lst ((ws n).map .leaf)) :: Ψ)) := by
      have := RepG.dupAt (zs := (V.ref D, T.node true .lst ((ws n).map .leaf)) :: Ψ) (Φ := []) (by rw [List.append_nil]; exact iv.2) hz (frz_frz _)
      rwa [List.append_nil] at this
    have r5 := r4.put' (i := w)
    have ewn : ws (n + 1) = if f ts[n] then ws n ++ [us[n]] else ws n := by
      show ((((us.zip ts).take (n + 1)).filter fun z => f z.2).map (·.1)) = _
      rw [List.take_add_one, hzz, List.filter_append, List.map_append]
      by_cases hft : f ts[n] = true
      · rw [if_pos hft]
        simp [hft]
        rfl
      · rw [if_neg hft]
        simp [hft]
        rfl
    refine ⟨_, [], _, noX, r5, liftX0, mt _ _ _ _ _ (fun b g5 q5 H5 r6 => ?_) (fun _ _ _ z => z) (hf ts[n] (List.getElem_mem hnt))⟩
    obtain ⟨rfl, rfl⟩ := q5
    have r7 : RepG X.K B' [] (L2.wipe σ [w]) H5 gw ((.ref D, .node true .lst ((ws n).map .leaf)) :: Ψ) := by
      have := r6.wipe [w]
      rw [wsame] at this
      have eg : wipeE (gw.set w (some (frz ts[n]))) [w] = gw := by
        show ((wipeE (frzE (g.set i none)) [w]).set w (some (frz ts[n]))).set w none = _
        rw [List.set_set]
        show ((frzE (g.set i none)).set w none).set w none = (frzE (g.set i none)).set w none
        rw [List.set_set]
      show RepG X.K B' [] (L2.wipe σ [w]) H5 gw _
      rw [← eg]
      exact this
    have iv5 : Inv n H5 := ⟨by omega, r7⟩
    obtain ⟨hD5, r8⟩ := look n H5 iv5
    by_cases hft : f ts[n] = true
    · rw [if_pos hft]
      have e1 : (((ws n).zip ((ws n).map T.leaf) ++ [(us[n], T.leaf us[n])]).map (·.1)) = ws n ++ [us[n]] := by
        rw [List.map_append, List.map_fst_zip (by simp)]
        rfl
      have e2 : (((ws n).zip ((ws n).map T.leaf) ++ [(us[n], T.leaf us[n])]).map (·.2)) = (ws n ++ [us[n]]).map T.leaf := by
        rw [List.map_append, List.map_snd_zip (by simp), List.map_append]
        rfl
      refine ⟨us[n], by rw [List.getElem?_set_self (by rw [wipe_length]; exact hwl)], ws n, hD5, ?_, by omega, ?_⟩
      · have : (ws n).length ≤ n := by
          show ((((us.zip ts).take n).filter fun z => f z.2).map (·.1)).length ≤ n
          rw [List.length_map]
          exact Nat.le_trans (List.length_filter_le _ _) (by rw [List.length_take]; omega)
        omega
      · rw [ewn, if_pos hft]
        have r9 : RepG X.K B' [D] (L2.wipe σ [w]) H5 gw (((ws n).zip ((ws n).map T.leaf) ++ [(us[n], T.leaf us[n])]) ++ Ψ) := by
          rw [List.append_assoc]
          exact (r8.addLeaf (v := us[n])).perm List.perm_middle.symm
        have r10 := r9.close (s := .lst) (fun vs e => nomatch (show HO.lst (ws n) = HO.tup vs from Option.some.inj (hD5.symm.trans e)))
        rw [e1, e2] at r10
        exact r10
    · rw [if_neg hft]
      refine ⟨by omega, ?_⟩
      rw [ewn, if_neg hft]
      exact r7
  · obtain ⟨hD5, _⟩ := look n H' iv
    refine .inl ⟨⟨us, SqL.of (kw n H' iv), by omega⟩, q _ _ ?_⟩
    have kp := keep _ _ _ _ iv.2
    have ews : ws n = (((us.zip ts).filter fun z => f z.2).map (·.1)) := by
      show ((((us.zip ts).take n).filter fun z => f z.2).map (·.1)) = _
      rw [List.take_of_length_le (by rw [List.length_zip]; omega)]
    obtain ⟨H2, eH⟩ : ∃ H2 : Hp, H2 = fun b => if b = D then none else H' b := ⟨_, rfl⟩
    have g2 : RepG X.K B (a1 :: lim) σ H2 (g.set i none) (us.zip ts ++ Φ) := r2.grow fun b o e => by
      rw [eH]
      show (if b = D then none else H' b) = some o
      rw [if_neg (fun z => by rw [z, hD] at e; cases e)]
      exact kp b o e
    have g3 : RepG X.K B lim σ H2 (g.set i none) (((us.zip ts).filter fun z => f z.2) ++ Φ) := (g2.subs List.filter_sublist).unlim
    have g4 := g3.make (s := .lst) (p := D) (by rw [eH]; exact if_pos rfl)
    rw [rows_fst f us ts hl, ← ews] at g4
    have eU : upd H2 D (Sh.lst.mk D (ws n)) = H' := by
      funext b
      by_cases hb : b = D
      · rw [hb, upd_same, hD5]
        rfl
      · rw [upd_ne hb, eH]
        exact if_neg hb
    rw [eU] at g4
    exact g4
end
end DL
set_option Elab.async false
set_option linter.all false
set_option maxRecDepth 100000
set_option maxHeartbeats 4000000
namespace DL
open PySem PySem.Spec PyProof.Rows L2 W
theorem reads_intsA {h : Heap} : ∀ {k : List Int} {vs : List Value}, IntsAre vs k → ReadsAll h vs (k.map PyData.int) []
  | [], _, .nil => .nil
  | n :: k, _, .cons _ t r => .cons (as := []) (.int n t) (reads_intsA r)
theorem reads_isT {P : Program} {w : World} {h : Heap} {k : List Int} {b : Addr} (x : IsT P w h k b) : Reads h (.ref b) (tupD k) [] := by
  obtain ⟨o, items, n, ho, hc, hd, hi⟩ := x
  exact .tuple ho hc hd (reads_intsA (ints_of_items hi))
theorem alike_keys {ds : List (List Int)} : AllAlike (ds.map tupD) := fun d hd e he => by
  obtain ⟨a, _, rfl⟩ := List.mem_map.mp hd
  obtain ⟨b, _, rfl⟩ := List.mem_map.mp he
  exact alike_tupD a b
section
variable {P : Program} {w : World} {A : Around} {E : Value → Shared → Prop} {s : Shared}
theorem each_refs {L : List (Addr × List Int)} : EachIs (fun (v : Value) (q : Addr × List Int) => v = Value.ref q.1) (L.map fun q => Value.ref q.1) L := by
  induction L with
  | nil => exact .nil
  | cons q L ih => exact .cons rfl ih
theorem refs_each : ∀ {out : List Value} {L : List (Addr × List Int)}, EachIs (fun (v : Value) (q : Addr × List Int) => v = Value.ref q.1) out L → out = L.map fun q => Value.ref q.1
  | _, _, .nil => rfl
  | _, _, .cons e r => by rw [e, refs_each r]; rfl
theorem sorted_setTA {a : Addr} {L : List (Addr × List Int)} {es : Array (Int × Value)} {ep : Nat} {t : SetTable} {Q : Value → Shared → Prop} (R : SetTR P w s.heap a L es ep t) (hh : A.handled = none) (hu : A.units + 64 < cLine)
    (hQ : ∀ s' p (out : Array Value) (c : Nat) (L' : List (Addr × List Int)), (∀ b o, s.heap.get? b = some o → s'.heap.get? b = some o) → s'.gens = s.gens → s'.os = s.os → s.heap.objs.size ≤ p →
      s'.heap.get? p = some (seqObj "list" out c) → out.toList = L'.map (fun q => Value.ref q.1) → L'.Perm L → L'.Pairwise (fun q r => leL q.2 r.2 = true) → Q (.ref p) s') :
    wpAny (model P w) A (call (.builtin "sorted") [.ref a]) Q E s := by
  obtain ⟨o, ho, hex, hd⟩ := R.ob
  have hsz := R.size
  have hfew := R.few
  refine Calls.call_function_entry kind_sorted plain_sorted entry_sorted (args_sorted1 _) ?_
  unfold Builtin.«sorted»
  refine wpAny_bind (m := checkCount "sorted" 1 1 _) (wpAny_pure ?_)
  refine wpAny_bind (collect_set (A := A.in1) hh ⟨o, ho, hex.1, hd⟩ R.fits (by unfold scanBound; omega) R.tab.ris R.led fun s1 vs k1 hz g1 o1 pm => ?_)
  have hes : es.toList.map (·.2) = L.map fun q => Value.ref q.1 := by
    rw [R.rows]
    unfold L2.rowsOf
    rw [List.map_map] <;> rfl
  rw [hes] at pm
  have ord : ∀ vs : List Value, (∀ v ∈ vs, ∃ q ∈ L, v = Value.ref q.1) → ∃ L1 : List (Addr × List Int), vs = L1.map (fun q => Value.ref q.1) ∧ ∀ q ∈ L1, q ∈ L := by
    intro vs
    induction vs with
    | nil => intro _; exact ⟨[], rfl, fun q hq => (by cases hq)⟩
    | cons v vs ih =>
      intro hv
      obtain ⟨q, hq, e⟩ := hv v List.mem_cons_self
      obtain ⟨L1, e1, hs⟩ := ih fun u hu => hv u (List.mem_cons_of_mem _ hu)
      refine ⟨q :: L1, by rw [List.map_cons, e, e1], fun r hr => ?_⟩
      rcases List.mem_cons.mp hr with z | z
      · rw [z]; exact hq
      · exact hs r z
  have one : ∀ q ∈ L, ∀ r ∈ L, q.1 = r.1 → q = r := fun q hq r hr e => by
    have a1 := R.tup q hq
    have a2 := R.tup r hr
    rw [e] at a1
    have e2 : q.2 = r.2 := a1.inj a2
    exact Prod.ext e e2
  have perm_of : ∀ L1 : List (Addr × List Int), (∀ q ∈ L1, q ∈ L) → (L1.map (fun q => Value.ref q.1)).Perm (L.map fun q => Value.ref q.1) → L1.Perm L := by
    intro L1 hs pm1
    have nL : L.Nodup := nodup_of_map R.nd
    have nref : (L.map fun q => Value.ref q.1).Nodup := by
      refine List.pairwise_map.mpr (List.Pairwise.imp_of_mem (fun {q r} hq hr hne e => ?_) nL)
      injection e with e
      exact hne (one q hq r hr e)
    have n1 : L1.Nodup := nodup_of_map (pm1.nodup_iff.mpr nref)
    refine (List.perm_ext_iff_of_nodup n1 nL).mpr fun q => ⟨hs q, fun hq => ?_⟩
    have hm : Value.ref q.1 ∈ L1.map (fun q => Value.ref q.1) := pm1.mem_iff.mpr (List.mem_map.mpr ⟨q, hq, rfl⟩)
    obtain ⟨r, hr, e⟩ := List.mem_map.mp hm
    injection e with e
    rw [← one r (hs r hr) q hq e]
    exact hr
  have hvl : vs.length < 64 := by rw [pm.length_eq, List.length_map]; exact hfew
  refine wpAny_bind (wpAny_newList ?_ (by rw [sizeLine_eq]; omega))
  have hoL : (s1.heap.push (seqObj "list" vs.toArray 0)).get? s1.heap.objs.size = some (seqObj "list" vs.toArray 0) := Heap.get?_push_size _ rfl
  obtain ⟨L1, eL1, hs1⟩ := ord vs fun v hv => by
    obtain ⟨q, hq, e⟩ := List.mem_map.mp (pm.mem_iff.mp hv)
    exact ⟨q, hq, e.symm⟩
  have p1 : L1.Perm L := perm_of L1 hs1 (by rw [← eL1]; exact pm)
  have hl1 : L1.length < 64 := by rw [p1.length_eq]; exact hfew
  have er : ∀ M : List (Addr × List Int), (∀ q ∈ M, q ∈ L) → EachIs (fun (v : Value) (b : Addr × List Int) => ∃ as, Reads (s1.heap.push (seqObj "list" vs.toArray 0)) v (tupD b.2) as ∧ s1.heap.objs.size ∉ as) (M.map fun q => Value.ref q.1) M := fun M hM => by
    induction M with
    | nil => exact .nil
    | cons q M ih =>
      refine .cons ⟨[], reads_isT (P := P) (w := w) (isT_keep (R.tup q (hM q List.mem_cons_self)) fun b u e => Heap.get?_push_of_some _ (k1 b u e)), fun z => nomatch z⟩ (ih fun q hq => hM q (List.mem_cons_of_mem _ hq))
  refine wpAny_bind (wpAny_holding (list_sort_data2 (s := { s1 with heap := s1.heap.push (seqObj "list" vs.toArray 0) }) (R := fun (v : Value) (q : Addr × List Int) => v = Value.ref q.1) (enc := fun q => tupD q.2) (bs := L1) hoL (by rw [eL1]; exact each_refs) (by rw [eL1] at er ⊢; exact er L1 hs1)
    (by rw [show L1.map (fun q => tupD q.2) = (L1.map (·.2)).map tupD by rw [List.map_map]; rfl]; exact alike_keys) (.inl fun d hd => by
      obtain ⟨q, _, rfl⟩ := List.mem_map.mp hd
      exact ⟨_, rfl⟩) (by rw [sizeLine_eq]; omega) (fun b _ => ?_) fun out hol ho2 => ?_))
  · have e1 : A.in1.units = A.units + 1 := rfl
    have e2 : (tupD b.2).depth ≤ 1 := by simp only [tupD, PyData.depth, depthAll_ints]; omega
    omega
  · obtain ⟨c, hc⟩ := sortedHeap_at (vs := vs) (out := out.toArray) hoL
    have e' := refs_each ho2
    have leq : (dataLe false fun q : Addr × List Int => tupD q.2) = fun q r => leL q.2 r.2 := by
      funext q r
      show dataLe false tupD q.2 r.2 = _
      rw [le_tupD]
    rw [leq] at e'
    have pw : (L1.mergeSort fun q r => leL q.2 r.2).Pairwise fun q r => leL q.2 r.2 = true := by
      refine List.pairwise_mergeSort (fun a b c h1 h2 => ?_) (fun a b => ?_) L1
      · exact decide_eq_true (List.le_trans (of_decide_eq_true h1) (of_decide_eq_true h2))
      · rcases List.le_total a.2 b.2 with z | z
        · rw [Bool.or_eq_true]
          exact .inl (decide_eq_true z)
        · rw [Bool.or_eq_true]
          exact .inr (decide_eq_true z)
    refine wpAny_pure ⟨_, rfl, hQ _ s1.heap.objs.size out.toArray c _ (fun b u e => ?_) g1 o1 hz hc (by simpa using e') ((List.mergeSort_perm _ _).trans p1) pw⟩
    have q := k1 b u e
    have hlt := Heap.lt_size q
    show (sortedHeap (s1.heap.push (seqObj "list" vs.toArray 0)) s1.heap.objs.size vs out.toArray).get? b = some u
    rw [sortedHeap_old (Nat.ne_of_lt hlt) (by rw [size_push']; exact Nat.lt_succ_of_lt hlt)]
    exact Heap.get?_push_of_some _ q
end
section
variable {X : Cx} {W : WX} {m : Nat → Bool} {a e : Expr} {ta : TE} {p p2 q pos : Pos}
def tSortSetT (K : PySem.W.Frag) (ta : TE) : TE := fun σ H Q => ta σ H fun x H1 => ∃ (l : Addr) (ks : List (Addr × List Int)), x = V.ref l ∧ SqL K H1 l (ks.map fun p => V.ref p.1) ∧ (∀ p ∈ ks, SqT K H1 p.1 (p.2.map V.int)) ∧ ks.length < 64 ∧
  ∀ (L : List (Addr × List Int)) (p : Addr), (L.map (·.2)).Pairwise (fun a b => leL a b = true) → (L.map (·.2)).Nodup → (∀ q ∈ L, q ∈ ks) → (∀ q ∈ ks, q.2 ∈ L.map (·.2)) → H1 p = none → Q (.ref p) (upd H1 p (.lst (L.map fun q => V.ref q.1)))
theorem pe_sortSetT (hg : Gl X "sorted") (hm : X.mg "sorted" = none) (hg2 : Gl X "set") (hm2 : X.mg "set" = none) (hu : X.A.units + 64 < cLine) (ha : PE X a ta) (hc : X.calm = true := by rfl)
    (na : starEach [a] X.env = (false, eval a X.env) :: starEach [] X.env := by rfl) : PE X (.Call (.Name "sorted" p) [.Call (.Name "set" p2) [a] [] q] [] pos) (tSortSetT X.K ta) := by
  refine ⟨fun pins s σ H Q I h => ?_⟩
  refine Call_ (ld_blt I hg hm boot_sorted ?_)
  refine PyProof.Rows.callWith_builtin1 (PyProof.Rows.args_cons ?_ rfl) rfl rfl
  refine Call_ (ld_blt I hg2 hm2 boot_set ?_)
  refine PyProof.Rows.callWith_type1 (PyProof.Rows.args_cons (thn (ha.run pins s σ H _ I h) fun v s1 ⟨x, H1, I1, r1, q1⟩ => PyProof.Rows.args_nil ?_) na) na rfl
  obtain ⟨l, ks, rfl, hq, hk, hl, q1⟩ := q1
  cases r1
  obtain ⟨its, r, pl, hz⟩ := I1.list hq
  have hn1 : H1 s1.heap.objs.size = none := I1.hok.fresh (Nat.le_refl _)
  refine call_set_tups (P := X.prog) (w := X.w) ks (I1.ok.hd hc) pl.isList (by simpa using refs_of_vals r) (fun p hp => I1.isT (hk p hp)) hl (by omega) fun h' tk L es ep t R g hk2 => ?_
  refine PyProof.Rows.args_nil ?_
  have I2 : Inv X pins σ H1 { s1 with heap := h', toks := tk } := I1.kept fun b o e => hk2 b o e
  obtain ⟨s2, es2⟩ : ∃ s2 : Shared, s2 = { s1 with heap := h', toks := tk } := ⟨_, rfl⟩
  have R2 : SetTR X.prog X.w s2.heap s1.heap.objs.size L es ep t := by rw [es2]; exact R
  rw [← es2] at I2 ⊢
  refine sorted_setTA R2 (I2.ok.hd hc) hu fun s' p out c L' k gg o hp hg hout pm pw => ?_
  have hlen : (L'.map fun q => V.ref q.1).length ≤ sizeLine := by rw [List.length_map, pm.length_eq, sizeLine_eq]; have := R2.few; omega
  have hn : H1 p = none := I2.hok.fresh hp
  have hv : Vals (L'.map fun q => V.ref q.1) out.toList := by rw [hout]; exact vals_of_refs L'
  have J : Inv X pins σ (upd H1 p (.lst (L'.map fun q => V.ref q.1))) { s2 with heap := s'.heap, gens := s'.gens, drawn := s'.drawn, toks := s'.toks } :=
    I2.call (ch := []) (Un.laid k hp hn) (I2.hok.laid k hp ⟨hlen, out.toList, c, hv, hg⟩) (by rw [gg]; exact I2.bare) (fun _ z => nomatch z)
  have e : s' = { s2 with heap := s'.heap, gens := s'.gens, drawn := s'.drawn, toks := s'.toks } := by
    cases s'
    cases s2
    cases o
    rfl
  rw [e]
  refine ⟨.ref p, _, J, rfl, q1 L' p (List.pairwise_map.mpr pw) ((pm.map (·.2)).nodup_iff.mpr R2.nd) (fun q hq => ?_) (fun q hq => ?_) hn⟩
  · exact List.mem_of_mem_take (g.sub q (pm.mem_iff.mp hq))
  · obtain ⟨r, hr, e⟩ := List.mem_map.mp (g.all q (by rw [List.take_length]; exact hq))
    exact List.mem_map.mpr ⟨r, pm.mem_iff.mpr hr, e⟩
end
section
variable {X : Cx} {W : WX} {m : Nat → Bool} {a e : Expr} {ta : DTE} {p p2 q pos : Pos}
def xSortSetT (ta : DTE) : DTE := fun g Q E => ta g (fun τ g1 => ∃ ks : List (List Int), frz τ = .node false .lst (ks.map keyT) ∧ (∀ k ∈ ks, k ≠ [0, 1]) ∧ ks.length < 64 ∧
  ∀ ks' : List (List Int), ks'.Pairwise (fun a b => leL a b = true) → ks'.Nodup → (∀ k, k ∈ ks' ↔ k ∈ ks) → Q (.node true .lst (ks'.map keyT)) g1) E
theorem keys_at {K : PySem.W.Frag} {B : Bs} {lim : List Addr} {σ : L2.St} {H : Hp} {g : Ev} : ∀ {us : List V} {ks : List (List Int)} {Φ : Its}, us.length = ks.length → RepG K B lim σ H g (us.zip (ks.map keyT) ++ Φ) → (∀ k ∈ ks, k ≠ [0, 1]) →
    ∃ L : List (Addr × List Int), us = L.map (fun p => V.ref p.1) ∧ ks = L.map (·.2) ∧ ∀ p ∈ L, H p.1 = some (.tup ((ik p.2).map kV))
  | [], [], _, _, _, _ => ⟨[], rfl, rfl, fun _ z => nomatch z⟩
  | [], _ :: _, _, e, _, _ => by cases e
  | _ :: _, [], _, e, _, _ => by cases e
  | u :: us, k :: ks, Φ, e, r, hz => by
    have r : RepG K B lim σ H g ((u, keyT k) :: (us.zip (ks.map keyT) ++ Φ)) := r
    obtain ⟨b, rfl, hb⟩ := r.keyH (flatI_ints k) (hz k List.mem_cons_self)
    obtain ⟨L, e1, e2, h⟩ := keys_at (by simpa using e) r.dropT fun k hk => hz k (List.mem_cons_of_mem _ hk)
    refine ⟨(b, k) :: L, by rw [e1]; rfl, by rw [e2]; rfl, fun p hp => ?_⟩
    rcases List.mem_cons.mp hp with rfl | hp
    · exact hb
    · exact h p hp
theorem d_sortSetT (hu : X.A.units + 64 < cLine) (hg : Gl X "sorted") (hm : X.mg "sorted" = none) (hg2 : Gl X "set") (hm2 : X.mg "set" = none) (ha : DE X W a ta) (hc : X.calm = true := by rfl)
    (na : starEach [a] X.env = (false, eval a X.env) :: starEach [] X.env := by rfl) : DE X W (.Call (.Name "sorted" p) [.Call (.Name "set" p2) [a] [] q] [] pos) (xSortSetT ta) := by
  refine ⟨fun B => PE.imp (pe_sortSetT hg hm hg2 hm2 hu (ha.run B) hc na) fun σ H Q ⟨Φ, lim, g, E, r, hx, q⟩ => ?_, fun g Q Q' E E' hq hE q => ha.mono _ _ _ _ _ (fun τ g1 ⟨ks, e, hz, hl, q1⟩ => ⟨ks, e, hz, hl, fun ks' h1 h2 h3 => hq _ _ (q1 ks' h1 h2 h3)⟩) hE q⟩
  refine ⟨Φ, lim, g, E, r, hx, ha.mono _ _ _ _ _ (fun τ g1 ⟨ks, e1, hz, hl, q1⟩ v H1 r1 => ?_) (fun _ _ _ z => z) q⟩
  have r2 : RepG X.K B lim σ H1 g1 ((v, .node false .lst (ks.map keyT)) :: Φ) := by
    have := r1.freezeT
    rw [e1] at this
    exact this
  have r0 := r1.dropT
  obtain ⟨ad, us, rfl, hl2, hr, r3⟩ := r2.kids
  obtain ⟨L, eu, ek, hL⟩ := keys_at (by rw [hl2, List.length_map]) r3 hz
  subst eu
  have hik : ∀ k : List Int, (ik k).map kV = k.map V.int := fun k => by rw [ik_kV]
  refine ⟨ad, L, rfl, seqL hr, fun p hp => seqT (.inl (.inl (by rw [← hik]; exact hL p hp))), by rw [ek, List.length_map] at hl; exact hl, fun L' pv h1 h2 h3 h4 hp => q1 (L'.map (·.2)) h1 h2 (fun k => ?_) _ _ ?_⟩
  · constructor
    · intro hk
      obtain ⟨q, hq, rfl⟩ := List.mem_map.mp hk
      rw [ek]
      exact List.mem_map_of_mem (h3 q hq)
    · intro hk
      rw [ek] at hk
      obtain ⟨q, hq, rfl⟩ := List.mem_map.mp hk
      exact h4 q hq
  · refine r0.listAt (ts := (L'.map fun q => q.2).map keyT) (vs := L'.map fun q => V.ref q.1) (H2 := upd H1 pv (.lst (L'.map fun q => V.ref q.1))) (fun b o e => by rw [upd_ne (ne_of_none e hp)]; exact e) hp upd_same (by rw [List.length_map, List.length_map, List.length_map]) fun H' hT i v t hv ht F => ?_
    rw [List.getElem?_map] at hv
    rw [List.getElem?_map, List.getElem?_map] at ht
    cases hz : L'[i]? with
    | none => rw [hz] at hv; cases hv
    | some z =>
      rw [hz] at hv ht
      cases hv
      cases ht
      have h5 := hL z (h3 z (List.mem_of_getElem? hz))
      refine ownP_key (hT _ _ ?_)
      rw [upd_ne (ne_of_none h5 hp)]
      exact h5
end
end DL
set_option Elab.async false
set_option linter.all false
set_option maxRecDepth 100000
set_option maxHeartbeats 4000000
namespace DL
open PySem L2
def isIntL : T → Bool
  | .leaf (.int _) => true
  | _ => false
def bagOk : T → Bool
  | .node true .lst [.leaf _, .leaf _, .leaf _, .node _ .lst ts] => ts.all isIntL
  | _ => false
def emptyE (g : Ev) : Ev := g.map fun _ => none
theorem envIs_empty : ∀ {σ : St} {g : Ev} {zs : Its}, EnvIs σ g zs → EnvIs σ (emptyE g) []
  | _, _, _, .nil => .nil
  | _, _, _, .skip h => .skip (envIs_empty h)
  | _, _, _, .have h => .skip (envIs_empty h)
theorem ints_vals {K : PySem.W.Frag} {F : Addr → Prop} {H : Hp} : ∀ {ts : List T} {vs : List V} {fp : List Addr}, OwnL K F H vs ts fp → ts.all isIntL = true → fp = [] ∧ (∀ v ∈ vs, ∃ i, v = .int i) ∧ ∀ F', OwnL K F' H vs ts []
  | [], _, _, h, _ => by
    cases h
    exact ⟨rfl, (fun _ z => nomatch z), fun _ => .nil⟩
  | t :: ts, _, _, h, e => by
    rw [List.all_cons, Bool.and_eq_true] at e
    cases h with
    | cons h1 h2 =>
      obtain ⟨e2, k, q⟩ := ints_vals h2 e.2
      subst e2
      cases t with
      | leaf w =>
        have hw : ∃ i, w = .int i := by
          cases w <;> first | exact ⟨_, rfl⟩ | exact absurd e.1 (by simp [isIntL])
        obtain ⟨i, rfl⟩ := hw
        cases h1
        refine ⟨rfl, fun v hv => ?_, fun F' => .cons (fp := []) (.leaf _) (q F')⟩
        rcases List.mem_cons.mp hv with rfl | hv
        · exact ⟨_, rfl⟩
        · exact k v hv
      | node _ _ _ => exact absurd e.1 (by simp [isIntL])
      | pin _ _ => exact absurd e.1 (by simp [isIntL])
theorem bag_off {K : PySem.W.Frag} {F F2 : Addr → Prop} {H : Hp} {v : V} {t : T} {fp : List Addr} {a1 : Addr} {us : List V} (h : OwnP K F H v t fp) (hb : bagOk t = true) (h1 : H a1 = some (.lst us)) (hu : ∃ x r, us = .ref x :: r) (hF : ∀ a, F a → a ≠ a1 → F2 a) : OwnP K F2 H v t fp := by
  unfold bagOk at hb
  split at hb
  · cases h with
    | own ha hk =>
      refine .own ha ?_
      cases hk with
      | cons k1 hk =>
        cases hk with
        | cons k2 hk =>
          cases hk with
          | cons k3 hk =>
            cases hk with
            | cons k4 hk =>
              cases hk
              cases k1
              cases k2
              cases k3
              refine .cons (.leaf _) (.cons (.leaf _) (.cons (.leaf _) (.cons ?_ .nil)))
              cases k4 with
              | own ha4 hk4 =>
                obtain ⟨rfl, _, q⟩ := ints_vals hk4 hb
                exact .own ha4 (q F2)
              | fz hf hr hk4 =>
                obtain ⟨_, kk, q⟩ := ints_vals hk4 hb
                refine .fz (hF _ hf fun e => ?_) hr (q F2)
                subst e
                rw [h1] at hr
                have e2 := HO.lst.inj (Option.some.inj hr)
                obtain ⟨x, r, e3⟩ := hu
                obtain ⟨j, e4⟩ := kk (.ref x) (by rw [← e2, e3]; exact List.mem_cons_self)
                cases e4
  · cases hb
theorem bor_part {K : PySem.W.Frag} {B : Bs} {lim : List Addr} {σ : St} {H : Hp} {g : Ev} {Φ : Its} {b c k : Nat} {bag tc : T} {a1 : Addr} {us : List V} (r : RepG K B (a1 :: lim) σ H g Φ) (hb : g[b]? = some (some bag)) (hc : g[c]? = some (some tc)) (hbc : b ≠ c) (hfc : frz tc = tc)
    (ha : H a1 = some (.lst us)) (hk : σ[k]? = some (some (.ref a1))) (hu : ∃ x r, us = .ref x :: r) :
    ∃ B', RepG K B' [] σ H ((((emptyE g).set b (some bag)).set c (some tc)).set k (some (.node false .lst (us.map .leaf)))) [] ∧
      ∀ H1 g1 bag' v τ, RepG K B' [] σ H1 g1 [(v, τ)] → g1[b]? = some (some bag') → bagOk bag' = true → pureT τ = true → RepG K B (a1 :: lim) σ H1 (g.set b (some bag')) ((v, τ) :: Φ) ∧ H1 a1 = some (.lst us) := by
  obtain ⟨vb, hv, F, zs, fp, en, o, f, hl⟩ := r.move hb
  obtain ⟨fp', pf, o'⟩ := o.perm (List.perm_middle (a := (vb, bag)))
  obtain ⟨f1, f2, rfl, pb, o2⟩ := OwnZ.uncons (zs := zs ++ Φ) o'
  have f := f.perm (List.Perm.append_left (a1 :: lim) pf)
  have nd := List.nodup_append.mp f.nd
  have nd2 := List.nodup_append.mp nd.2.1
  have trk2 : ∀ a ∈ f2, H a ≠ none := fun a ha => o2.tracked a ha
  have n1l : ∀ a ∈ f1, a ∉ a1 :: lim := fun a ha hb => nd.2.2 a hb a (List.mem_append_left _ ha) rfl
  have n12 : ∀ a ∈ f1, a ∉ f2 := fun a ha hb => nd2.2.2 a ha a hb rfl
  have n2l : ∀ a ∈ f2, a ∉ a1 :: lim := fun a ha hb => nd.2.2 a hb a (List.mem_append_right _ ha) rfl
  have f1F : ∀ a ∈ f1, ¬ F a := fun a ha => f.off a (List.mem_append_right _ (List.mem_append_left _ ha))
  have f2F : ∀ a ∈ f2, ¬ F a := fun a ha => f.off a (List.mem_append_right _ (List.mem_append_right _ ha))
  have lF : ∀ a ∈ a1 :: lim, ¬ F a := fun a ha => f.off a (List.mem_append_left _ ha)
  have a1F : ¬ F a1 := lF a1 List.mem_cons_self
  have a1f : a1 ∉ f1 := fun z => n1l a1 z List.mem_cons_self
  -- the slot that is looked at
  have hc' : (g.set b none)[c]? = some (some tc) := by rw [List.getElem?_set_ne hbc]; exact hc
  obtain ⟨vc, ys, hvc, pz, _⟩ := en.take hc'
  have o3 : ∃ fq, OwnP K F H vc tc fq := by
    obtain ⟨f3, f4, rfl, o3, _⟩ := o2.split
    obtain ⟨fq, _, oq⟩ := o3.perm pz
    obtain ⟨fa, fb, rfl, pv, _⟩ := oq.uncons
    exact ⟨fa, pv⟩
  obtain ⟨fq, pc⟩ := o3
  have efq : fq = [] := OwnP.nofp _ pc hfc
  subst efq
  let F' : Addr → Prop := fun a => F a ∨ a = a1
  have pb' : OwnP K F' H vb bag f1 := OwnP.mono (fun _ z => .inl z) bag pb (fun _ _ _ e => e) fun _ _ e => e
  have pc' : OwnP K F' H vc tc [] := OwnP.mono (fun _ z => .inl z) tc pc (fun _ _ _ e => e) fun _ _ e => e
  have pv' : OwnP K F' H (.ref a1) (.node false .lst (us.map .leaf)) [] := .fz (.inr rfl) ha (ownL_leaves us)
  have ff : Fine ⟨H, F', f1⟩ F' H ([] ++ (f1 ++ ([] ++ ([] ++ [])))) := by
    simp only [List.nil_append, List.append_nil]
    refine ⟨nd2.1, fun a hx z => ?_, fun a z => ?_, fun _ z => z, fun _ _ e _ => e, fun _ z => .inl z, fun a hx => .inl hx, fun _ _ e => e⟩
    · rcases z with z | rfl
      · exact f1F a hx z
      · exact a1f hx
    · rcases z with z | rfl
      · exact f.trk a z
      · rw [ha]; exact nofun
  have r0 : RepG K ⟨H, F', f1⟩ [] σ H (emptyE (g.set b none)) [(vb, bag), (vc, tc), (.ref a1, .node false .lst (us.map .leaf))] :=
    ⟨F', [], _, envIs_empty en, .cons pb' (.cons (fp := []) pc' (.cons (fp := []) pv' .nil)), ff, fun _ z => nomatch z⟩
  have ee : emptyE (g.set b none) = emptyE g := by
    unfold emptyE
    rw [List.map_set]
    apply List.ext_getElem?
    intro i
    by_cases e : b = i
    · subst e
      by_cases hlt : b < g.length
      · rw [List.getElem?_set_self (by rw [List.length_map]; exact hlt), List.getElem?_map, List.getElem?_eq_getElem hlt]
        rfl
      · rw [List.getElem?_eq_none (by simpa using hlt), List.getElem?_eq_none (by simpa using hlt)]
    · rw [List.getElem?_set_ne e]
  rw [ee] at r0
  refine ⟨⟨H, F', f1⟩, ((r0.back hv).back hvc).back hk, fun H1 g1 bag' v τ r1 hb' hp hpt => ?_⟩
  obtain ⟨vb', hv', r2⟩ := r1.move hb'
  rw [hv] at hv'
  cases hv'
  obtain ⟨F1, zs1, fp1, en1, oz1, fn, _⟩ := r2
  obtain ⟨g3, g2, rfl, oa, ob⟩ := oz1.split
  obtain ⟨h1, h2, rfl, pw, pn⟩ := ob.uncons
  obtain ⟨h3, h4, rfl, pv, pn⟩ := pn.uncons
  have e2 : h4 = [] := by cases pn; rfl
  subst e2
  rw [List.nil_append] at fn
  have kp : ∀ a u, H a = some u → a ∉ f1 → H1 a = some u := fun a u e n => fn.keep a u e n
  have k1 : H1 a1 = some (.lst us) := kp a1 _ ha a1f
  let F2 : Addr → Prop := fun a => F1 a ∧ a ≠ a1
  have FF2 : ∀ a, F a → F2 a := fun a z => ⟨fn.inc a (.inl z), fun e => a1F (by rw [← e]; exact z)⟩
  have inh : ∀ a ∈ h1 ++ (h3 ++ []), a ∈ f1 ∨ H a = none := fun a ha => fn.newO a (List.mem_append_right _ ha)
  have o6 : OwnZ K F2 H1 ((vb, bag') :: [(v, τ)]) (h1 ++ (h3 ++ [])) := .cons (bag_off pw hp k1 hu fun a z e => ⟨z, e⟩) (.cons (pv.anyF τ hpt) .nil)
  have ndh : (h1 ++ (h3 ++ [])).Nodup := (List.nodup_append.mp fn.nd).2.1
  have o7 : OwnZ K F2 H1 (zs ++ Φ) f2 := o2.mono FF2 (fun a ha u e => kp a u e (fun z => by
    rcases ha with y | y
    · exact f1F a z y
    · exact n12 a z y)) fun a vs e => fn.keepT a vs e
  have trkl : ∀ a ∈ a1 :: lim, H1 a = H a := fun a ha => by
    cases q : H a with
    | none => exact absurd q (hl a ha)
    | some u => exact kp a u q fun z => n1l a z ha
  have fF1 : ∀ a, F1 a → F a ∨ a = a1 ∨ a ∈ f1 ∨ H a = none := fun a z => by
    rcases fn.newF a z with q | q | q
    · exact q.elim .inl fun e => .inr (.inl e)
    · exact .inr (.inr (.inl q))
    · exact .inr (.inr (.inr q))
  refine ⟨?_, k1⟩
  have o8 : OwnZ K F2 H1 (((vb, bag') :: [(v, τ)]) ++ (zs ++ Φ)) ((h1 ++ (h3 ++ [])) ++ f2) := o6.append o7
  have b0 : ∀ a, a ∈ f1 ∨ H a = none → a ∈ B.fp0 ∨ B.H0 a = none := fun a z => by
    rcases z with y | y
    · exact f.newO a (List.mem_append_right _ (List.mem_append_left _ y))
    · by_cases hq : a ∈ B.fp0
      · exact .inl hq
      · refine .inr ?_
        cases w : B.H0 a with
        | none => rfl
        | some u =>
          have := f.keep a u w hq
          rw [y] at this; cases this
  have f5 : Fine B F2 H1 ((a1 :: lim) ++ ((h1 ++ (h3 ++ [])) ++ f2)) := by
    have dis : ∀ a ∈ h1 ++ (h3 ++ []), a ∉ f2 ∧ a ∉ a1 :: lim ∧ ¬ F2 a := fun a ha => by
      have hF : ¬ F2 a := fun z => fn.off a (List.mem_append_right _ ha) z.1
      rcases inh a ha with z | z
      · exact ⟨n12 a z, n1l a z, hF⟩
      · exact ⟨fun y => trk2 a y z, fun y => hl a y z, hF⟩
    refine ⟨?_, fun a z => ?_, fun a z => ?_, fun a z => FF2 a (f.inc a z), fun a u e n => ?_, fun a z => ?_, fun a z => ?_, fun a vs e => fn.keepT a vs (f.keepT a vs e)⟩
    · refine List.nodup_append.mpr ⟨nd.1, List.nodup_append.mpr ⟨ndh, nd2.2.1, fun x hx y hy e => ?_⟩, fun x hx y hy e => ?_⟩
      · subst e
        exact (dis x hx).1 hy
      · subst e
        rcases List.mem_append.mp hy with q | q
        · exact (dis x q).2.1 hx
        · exact n2l x q hx
    · have key : a ∈ a1 :: lim ∨ a ∈ f2 → ¬ F2 a := fun w q => by
        rcases fF1 a q.1 with y | y | y | y
        · exact w.elim (fun t => lF a t y) fun t => f2F a t y
        · exact q.2 y
        · exact w.elim (fun t => n1l a y t) fun t => n12 a y t
        · exact w.elim (fun t => hl a t y) fun t => trk2 a t y
      rcases List.mem_append.mp z with q | q
      · exact key (.inl q)
      · rcases List.mem_append.mp q with q | q
        · exact (dis a q).2.2
        · exact key (.inr q)
    · exact fn.trk a z.1
    · refine kp a u (f.keep a u e n) fun y => ?_
      rcases f.newO a (List.mem_append_right _ (List.mem_append_left _ y)) with q | q
      · exact n q
      · rw [e] at q; cases q
    · rcases fF1 a z.1 with y | y | y
      · exact f.newF a y
      · exact absurd y z.2
      · exact .inr (b0 a y)
    · rcases List.mem_append.mp z with q | q
      · exact f.newO a (List.mem_append_left _ q)
      · rcases List.mem_append.mp q with q | q
        · exact b0 a (inh a q)
        · exact f.newO a (List.mem_append_right _ (List.mem_append_right _ q))
  have r5 : RepG K B (a1 :: lim) σ H1 (g.set b none) ((vb, bag') :: (v, τ) :: Φ) := by
    refine rep_items (ds := []) en o8 f5 (fun a z => by rw [trkl a z]; exact hl a z) ?_
    rw [List.nil_append]
    show ((vb, bag') :: (v, τ) :: (zs ++ Φ)).Perm (zs ++ ((vb, bag') :: (v, τ) :: Φ))
    exact ((List.perm_middle (l₁ := zs) (a := (vb, bag')) (l₂ := (v, τ) :: Φ)).trans (List.Perm.cons _ (List.perm_middle (l₁ := zs) (a := (v, τ)) (l₂ := Φ)))).symm
  have r6 := r5.back hv
  rw [List.set_set] at r6
  exact r6
section
variable {X : Cx} {W : WX} {pos : Pos}
def xAppO (b k c : Nat) (tf te : DTE) : DTE := fun g Q _ => atSlot b g fun bag => atSlot k g fun t0 => atSlot c g fun tc => ownL t0 fun ts => frz tc = tc ∧ (b ≠ k ∧ b ≠ c ∧ k ≠ c) ∧ (∃ o s l r, ts = .node o s l :: r) ∧
  ∀ us : List V, us.length = ts.length → tf ((((emptyE g).set b (some bag)).set c (some tc)).set k (some (.node false .lst (us.map .leaf)))) (fun τ g1 => ∃ (i : Nat) (x : V) (l : List T) (bag' : T), us[i]? = some x ∧ τ = .leaf x ∧ ts[i]? = some (.node true .lst l) ∧ l.length < sizeLine ∧
    g1[b]? = some (some bag') ∧ bagOk bag' = true ∧
    te g1 (fun τ2 g2 => g2[b]? = some (some bag') ∧ pureT τ2 = true ∧ Q (.leaf .non) ((g.set b (some bag')).set k (some (.node true .lst (ts.set i (.node true .lst (l ++ [τ2]))))))) noX) noX
theorem d_appO {o e : Expr} {tf te : DTE} {apos cpos : Pos} (b k c : Nat) (ho : DE X W o tf) (he : DE X W e te) (hbase : attributeBase o "append" X.env (eval o X.env) = eval o X.env := by rfl)
    (hfew : ((backTo cpos (starEach [e] X.env)).all (fun x => !x.1) && (backToKw cpos (keywordEach [] X.env)).all (fun x => x.1.isSome) && decide ([e].length + ([] : List Keyword).length + (if ([] : List Keyword).isEmpty then 0 else 1) < 30)) = true := by rfl)
    (hline : (apos.endLine == cpos.line) = true := by rfl) (hs : starEach [e] X.env = (false, eval e X.env) :: starEach [] X.env := by rfl) (hplain : (backTo cpos (starEach [] X.env)).any (·.1) = false := by rfl) : DE X W (.Call (.Attribute o "append" apos) [e] [] cpos) (xAppO b k c tf te) := by
  refine ⟨fun B => ⟨fun pins s σ H Q I ⟨Φ, lim, g, E, r, hx, q⟩ => ?_⟩, fun g Q Q' E E' hq hE q => ?_⟩
  · obtain ⟨bag, hb, q⟩ := atSlot_of q
    obtain ⟨t0, h0, q⟩ := atSlot_of q
    obtain ⟨tc, h0c, q⟩ := atSlot_of q
    obtain ⟨ts, rfl, hfc, ⟨hbk, hbc, hkc⟩, hne, q⟩ := ownL_of q
    obtain ⟨v0, hv, rm⟩ := r.move h0
    obtain ⟨a1, us, rfl, hl, ha, r2⟩ := rm.open_
    have hb' : (g.set k none)[b]? = some (some bag) := by rw [List.getElem?_set_ne (fun e => hbk e.symm)]; exact hb
    have hc' : (g.set k none)[c]? = some (some tc) := by rw [List.getElem?_set_ne hkc]; exact h0c
    have hu : ∃ x r, us = V.ref x :: r := by
      obtain ⟨oo, ss, ll, rr, rfl⟩ := hne
      cases us with
      | nil => cases hl
      | cons u us =>
        have r3 : RepG X.K B (a1 :: lim) σ H (g.set k none) ((u, .node oo ss ll) :: (us.zip rr ++ Φ)) := r2
        obtain ⟨x, _, hx, _⟩ := r3.node
        exact ⟨x, us, by rw [hx]⟩
    obtain ⟨B', rv, back⟩ := bor_part r2 hb' hc' hbc hfc ha hv hu
    have eg : emptyE (g.set k none) = emptyE g := by
      unfold emptyE
      rw [List.map_set]
      apply List.ext_getElem?
      intro i
      by_cases e : k = i
      · subst e
        by_cases hlt : k < g.length
        · rw [List.getElem?_set_self (by rw [List.length_map]; exact hlt), List.getElem?_map, List.getElem?_eq_getElem hlt]
          rfl
        · rw [List.getElem?_eq_none (by simpa using hlt), List.getElem?_eq_none (by simpa using hlt)]
      · rw [List.getElem?_set_ne e]
    rw [eg] at rv
    refine (pe_bm PySem.F.plainAttrs_list PySem.F.slot_list_append PySem.F.type_list_append mt_append (ho.run B') (pa_cons (he.run B') pa_nil hs) hbase hfew hline hs hplain).run pins s σ H Q I ?_
    refine ⟨[], [], _, noX, rv, liftX0, ho.mono _ _ _ _ _ (fun τ g1 q1 v H1 r3 => ?_) (fun _ _ _ z => z) (q us hl)⟩
    obtain ⟨i, x, l, bag', hi, rfl, ht, hll, hg1, hp, q1⟩ := q1
    obtain rfl := r3.leaf
    have hz : (us.zip ts)[i]? = some (v, .node true .lst l) := by
      rw [List.getElem?_zip_eq_some]
      exact ⟨hi, ht⟩
    obtain ⟨rr, pr⟩ := perm_at hz
    obtain ⟨rb, _⟩ := back H1 g1 bag' v (.leaf v) r3 hg1 hp rfl
    have rc := rb.dropT.perm (List.Perm.append_right Φ pr)
    obtain ⟨a3, us3, rfl, hl3, ha3, _⟩ := RepG.open_ rc
    refine ⟨.inl ⟨rfl, us3, SqL.of ha3⟩, [(.ref a3, .leaf (.ref a3))], [], g1, noX, r3, liftX0, he.mono _ _ _ _ _ (fun τ2 g2 q2 w H2 r4 => ?_) (fun _ _ _ z => z) q1⟩
    obtain ⟨hg2, hp2, q2⟩ := q2
    have r5 : RepG X.K B' [] σ H2 g2 [(w, τ2)] := RepG.subs (zs := [(w, τ2), (V.ref a3, T.leaf (.ref a3))]) (ys := [(w, τ2)]) (Φ := []) (List.Sublist.cons_cons _ (List.nil_sublist _)) r4
    obtain ⟨rb2, kp2⟩ := back H2 g2 bag' w τ2 r5 hg2 hp hp2
    have k1 : H2 a1 = some (.lst us) := kp2
    have rd : RepG X.K B (a1 :: lim) σ H2 ((g.set k none).set b (some bag')) ((.ref a3, .node true .lst l) :: (w, τ2) :: (rr ++ Φ)) := by
      refine rb2.perm ?_
      exact (List.Perm.cons _ (List.Perm.append_right Φ pr)).trans (List.Perm.swap _ _ _)
    obtain ⟨b3, us4, e3, hl4, hb3, r6⟩ := RepG.open_ rd
    cases e3
    have nd := r6.limNd
    have n31 : a1 ≠ a3 := fun e => by subst e; simp at nd
    refine ⟨a3, us4, w, rfl, rfl, hb3, by omega, ?_⟩
    have r7 : RepG X.K B (a3 :: a1 :: lim) σ H2 ((g.set k none).set b (some bag')) ((us4.zip l ++ [(w, τ2)]) ++ (rr ++ Φ)) := r6.perm (by rw [List.append_assoc]; exact List.Perm.refl _)
    have f1 : ((us4.zip l ++ [(w, τ2)]).map (·.1)) = us4 ++ [w] := by
      rw [List.map_append, List.map_fst_zip (by omega)]
      rfl
    have f2 : ((us4.zip l ++ [(w, τ2)]).map (·.2)) = l ++ [τ2] := by
      rw [List.map_append, List.map_snd_zip (by omega)]
      rfl
    have r8 := r7.close (s := .lst) (fun vs e => nomatch (show HO.lst us4 = HO.tup vs from Option.some.inj (hb3.symm.trans e)))
    rw [f1, f2] at r8
    obtain ⟨r', p1, p2⟩ := set_perm (V.ref a3, T.node true .lst (l ++ [τ2])) hz
    have prr : rr.Perm r' := List.Perm.cons_inv (pr.symm.trans p1)
    have e6 : (us.zip ts).set i (V.ref a3, T.node true .lst (l ++ [τ2])) = us.zip (ts.set i (T.node true .lst (l ++ [τ2]))) := by rw [zip_set, set_at hi]
    rw [e6] at p2
    have r9 : RepG X.K B (a1 :: lim) σ (upd H2 a3 (.lst (us4 ++ [w]))) ((g.set k none).set b (some bag')) (us.zip (ts.set i (T.node true .lst (l ++ [τ2]))) ++ Φ) :=
      r8.perm (((List.Perm.cons _ (List.Perm.append_right _ prr))).trans (List.Perm.append_right Φ p2.symm))
    have k2 : (upd H2 a3 (.lst (us4 ++ [w]))) a1 = some (.lst us) := by rw [upd_ne n31]; exact k1
    have r10 := r9.close (s := .lst) (fun vs e => nomatch (show HO.lst us = HO.tup vs from Option.some.inj (k2.symm.trans e)))
    rw [List.map_fst_zip (by rw [List.length_set]; omega), List.map_snd_zip (by rw [List.length_set]; omega), show Sh.lst.mk a1 us = HO.lst us from rfl, upd_self k2] at r10
    have r11 := r10.back hv
    rw [List.set_comm _ _ (fun e => hbk e.symm), List.set_set] at r11
    exact q2 _ _ r11.addLeaf
  · exact atSlot_mono (fun _ q => atSlot_mono (fun _ q => atSlot_mono (fun _ q => ownL_mono (fun ts q => ⟨q.1, q.2.1, q.2.2.1, fun us hl => ho.mono _ _ _ _ _ (fun τ g1 ⟨i, x, l, bag', h1, h2, h3, h4, h5, h6, q2⟩ => ⟨i, x, l, bag', h1, h2, h3, h4, h5, h6, he.mono _ _ _ _ _ (fun τ2 g2 q3 => ⟨q3.1, q3.2.1, hq _ _ q3.2.2⟩) (fun _ _ _ z => z) q2⟩) (fun _ _ _ z => z) (q.2.2.2 us hl)⟩) q) q) q) q
end
end DL
set_option Elab.async false
set_option linter.all false
set_option maxRecDepth 100000
set_option maxHeartbeats 4000000
namespace DL
open PySem PySem.Spec PyProof.Rows L2 W
abbrev chrT (c : Nat) : T := .leaf (.str ⟨#[c]⟩)
def charsT (z : Str) : List T := z.cps.toList.map chrT
def iStrT (te : DTE) : DTI := fun g Q E => te g (fun τ g1 => match τ with | .leaf (.str z) => Q (charsT z) g1 | _ => False) E
section
variable {X : Cx} {W : WX} {tg e : Expr} {te : DTE}
theorem walks_str {K : PySem.W.Frag} {B : Bs} {lim : List Addr} {z : Str} : Walks K B lim (L2.Its z) [] (charsT z) := by
  intro σ H g Φ i r
  refine ⟨fun t ht => ?_, fun hi => ?_⟩
  · unfold charsT at ht
    rw [List.getElem?_map] at ht
    cases hc : z.cps.toList[i]? with
    | none => rw [hc] at ht; cases ht
    | some c =>
      rw [hc] at ht
      cases ht
      have hlt := (List.getElem?_eq_some_iff.mp hc).1
      refine ⟨show i < z.cps.size by simpa using hlt, fun x H' y => ?_⟩
      obtain ⟨rfl, c', hc', rfl⟩ := y
      have : c' = c := by
        rw [Array.getElem?_toList] at hc
        rw [hc] at hc'
        exact (Option.some.inj hc').symm
      subst this
      exact r.addLeaf
  · unfold charsT at hi
    rw [List.length_map] at hi
    show z.cps.size ≤ i
    simpa using hi
theorem di_str (he : DE X W e te) : DI X W tg e (iStrT te) := by
  refine ⟨fun B => PI.imp (pi_str (he.run B)) fun σ H R ⟨Φ, lim, g, E, r, hx, q⟩ => ?_, fun g Q Q' E E' hq hE q => he.mono _ _ _ _ _ (fun τ g1 q1 => ?_) hE q⟩
  · refine ⟨Φ, lim, g, E, r, hx, he.mono _ _ _ _ _ (fun τ g1 q1 v H1 r1 => ?_) (fun _ _ _ z => z) q⟩
    split at q1
    · rename_i z
      obtain rfl := r1.leaf
      exact ⟨z, rfl, q1 (L2.Its z) [] H1 r1.dropT walks_str⟩
    · exact q1.elim
  · split at q1
    · exact hq _ _ q1
    · exact q1.elim
end
section
variable {X : Cx} {W : WX} {a b : Expr} {ta tb : DTE} {pos : Pos}
def occIn (j i : Str) : Bool := !(Builtin.Str.occurrences j i 0 j.length 1).isEmpty
def rtInS (neg : Bool) : R2T := fun τ1 τ2 Q => match τ1, τ2 with
  | .leaf (.str i), .leaf (.str j) => Q (.leaf (.bl (if neg then !occIn j i else occIn j i)))
  | _, _ => False
theorem rtInS_mono {neg : Bool} : ∀ τ1 τ2 Q Q', (∀ τ, Q τ → Q' τ) → rtInS neg τ1 τ2 Q → rtInS neg τ1 τ2 Q' := by
  intro τ1 τ2 Q Q' hq q
  unfold rtInS at q ⊢
  split at q
  · exact hq _ q
  · exact q.elim
theorem op2_inS {K : PySem.W.Frag} : Op2 K (fun x y H Q => ∃ i j, x = .str i ∧ y = .str j ∧ Q (.bl (!(Builtin.Str.occurrences j i 0 j.length 1).isEmpty)) H) (rtInS false) := by
  refine ⟨fun B lim σ H g Φ v1 v2 τ1 τ2 Q r q => ?_, rtInS_mono⟩
  unfold rtInS at q
  split at q
  · obtain rfl := r.leaf
    obtain rfl := r.dropT.leaf
    exact ⟨_, _, rfl, rfl, q _ _ r.dropT.dropT.addLeaf⟩
  · exact q.elim
theorem op2_notinS {K : PySem.W.Frag} : Op2 K (fun x y H Q => ∃ i j, x = .str i ∧ y = .str j ∧ Q (.bl (!(!(Builtin.Str.occurrences j i 0 j.length 1).isEmpty))) H) (rtInS true) := by
  refine ⟨fun B lim σ H g Φ v1 v2 τ1 τ2 Q r q => ?_, rtInS_mono⟩
  unfold rtInS at q
  split at q
  · obtain rfl := r.leaf
    obtain rfl := r.dropT.leaf
    exact ⟨_, _, rfl, rfl, q _ _ r.dropT.dropT.addLeaf⟩
  · exact q.elim
theorem d_inS (hm : behindInMarks .In b = false) (ha : DE X W a ta) (hb : DE X W b tb) : DE X W (.Compare a [.In] [b] pos) (xOp (rtInS false) ta tb) := d_cmp op_in_str op2_inS ha hb hm
theorem d_notinS (hm : behindInMarks .NotIn b = false) (ha : DE X W a ta) (hb : DE X W b tb) : DE X W (.Compare a [.NotIn] [b] pos) (xOp (rtInS true) ta tb) := d_cmp op_notin_str op2_notinS ha hb hm
theorem dt_inS (hm : behindInMarks .In b = false) (ha : DE X W a ta) (hb : DE X W b tb) : DT X W (.Compare a [.In] [b] pos) (xB (xOp (rtInS false) ta tb)) := dt_cmp op_in_str op2_inS ha hb hm
theorem dt_notinS (hm : behindInMarks .NotIn b = false) (ha : DE X W a ta) (hb : DE X W b tb) : DT X W (.Compare a [.NotIn] [b] pos) (xB (xOp (rtInS true) ta tb)) := dt_cmp op_notin_str op2_notinS ha hb hm
end
section
variable {X : Cx}
theorem items_vals {z : Str} {acc : Array Value} (h : ItemsOf (SignAt z) acc z.cps.size) : Vals (z.cps.toList.map fun c => V.str ⟨#[c]⟩) acc.toList := by
  obtain ⟨h1, h2⟩ := h
  have key : ∀ (cs : List Nat) (vs : List Value), cs.length = vs.length → (∀ (j : Nat) (v : Value), vs[j]? = some v → ∃ c u, cs[j]? = some c ∧ v = .str ⟨#[c]⟩ u) → Vals (cs.map fun c => V.str ⟨#[c]⟩) vs := by
    intro cs
    induction cs with
    | nil =>
      intro vs e _
      cases vs with
      | nil => exact .nil
      | cons => cases e
    | cons c cs ih =>
      intro vs e h
      cases vs with
      | nil => cases e
      | cons v vs =>
        obtain ⟨c', u, hc, rfl⟩ := h 0 v rfl
        cases hc
        exact .cons ⟨u, rfl⟩ (ih vs (by simpa using e) fun j v hj => h (j + 1) v (by simpa using hj))
  refine key _ _ (by simp [h1]) fun j v hj => ?_
  obtain ⟨c, u, hc, e⟩ := h2 j v (by simpa using hj)
  exact ⟨c, u, by simpa using hc, e⟩
theorem cr_listS (hc : X.calm = true) : CallR X (.type "list") (fun xs H Q => ∃ z : Str, xs = [.str z] ∧ z.cps.size ≤ sizeLine ∧ ∀ l, H l = none → Q (.ref l) (upd H l (.lst (z.cps.toList.map fun c => V.str ⟨#[c]⟩)))) := by
  intro pins s σ H xs us Q I r h
  obtain ⟨z, rfl, hz, q⟩ := h
  obtain ⟨u, rfl, rx⟩ := vals1 r
  obtain ⟨t, rfl⟩ := rx
  refine call_list_str (I.ok.hd hc) z t (fun h' tk acc' c' hk hS' hacc => ?_) hz
  have hn : H s.heap.objs.size = none := I.hok.fresh (Nat.le_refl _)
  have hv := items_vals hacc
  exact ⟨.ref s.heap.objs.size, _, I.laid (t' := tk) hk (Nat.le_refl _) (show ObjOk X.prog X.w _ h' _ (.lst _) from ⟨by rw [List.length_map]; simpa using hz, acc'.toList, c', hv, by simpa using hS'⟩), rfl, q _ hn⟩
def rnListA : RNT := fun τs Q => match τs with
  | [.leaf (.str z)] => z.cps.size ≤ sizeLine ∧ Q (.node true .lst (charsT z))
  | _ => False
theorem n_listS (hc : X.calm = true) : CallN X (.type "list") (fun xs H Q => ∃ z : Str, xs = [.str z] ∧ z.cps.size ≤ sizeLine ∧ ∀ l, H l = none → Q (.ref l) (upd H l (.lst (z.cps.toList.map fun c => V.str ⟨#[c]⟩)))) rnListA := by
  refine ⟨cr_listS hc, fun B lim σ H g Φ vs τs Q hl r q => ?_, fun τs Q Q' h q => ?_⟩
  · unfold rnListA at q
    split at q
    · rename_i z
      match vs, hl with
      | [v], _ =>
        have r1 : RepG X.K B lim σ H g ((v, .leaf (.str z)) :: Φ) := r
        obtain rfl := r1.leaf
        refine ⟨z, rfl, q.1, fun l hl2 => q.2 _ _ ?_⟩
        have e : charsT z = (z.cps.toList.map fun c => V.str ⟨#[c]⟩).map T.leaf := by
          unfold charsT
          rw [List.map_map]
          rfl
        rw [e]
        exact make_of .lst (by simp) (leavesR r1.dropT _) hl2
    · exact q.elim
  · unfold rnListA at q ⊢
    split at q
    · exact ⟨q.1, h _ q.2⟩
    · exact q.elim
end
section
variable {X : Cx} {W : WX} {a e : Expr} {te : DTE} {cpos apos p1 : Pos} {z1 : Nat}
def xJoin (a : Str) (te : DTE) : DTE := fun g Q E => te g (fun τ g1 => match τ with
  | .node _ .lst ts => ∃ ys : List Str, ts = ys.map (fun y => .leaf (.str y)) ∧ (ys.map (·.length)).sum + ys.length * a.length ≤ 16777216 ∧ Q (.leaf (.str (Txt.join a ys))) g1
  | _ => False) E
theorem d_join {o : Expr} {a : Str} (ho : PE X o (tC (.str a))) (he : DE X W e te) (hbase : attributeBase o "join" X.env (eval o X.env) = eval o X.env := by rfl)
    (hfew : ((backTo cpos (starEach [e] X.env)).all (fun x => !x.1) && (backToKw cpos (keywordEach [] X.env)).all (fun x => x.1.isSome) && decide ([e].length + ([] : List Keyword).length + (if ([] : List Keyword).isEmpty then 0 else 1) < 30)) = true := by rfl)
    (hline : (apos.endLine == cpos.line) = true := by rfl) (hs : starEach [e] X.env = (false, eval e X.env) :: starEach [] X.env := by rfl) (hplain : (backTo cpos (starEach [] X.env)).any (·.1) = false := by rfl) :
    DE X W (.Call (.Attribute o "join" apos) [e] [] cpos) (xJoin a te) := by
  refine ⟨fun B => PE.imp (pe_bm PySem.F.plainAttrs_str PySem.F.slot_str_join PySem.F.type_str_join mt_join ho (pa_cons (he.run B) pa_nil hs) hbase hfew hline hs hplain) fun σ H Q ⟨Φ, lim, g, E, r, hx, q⟩ => ?_, fun g Q Q' E E' hq hE q => he.mono _ _ _ _ _ (fun τ g1 q1 => ?_) hE q⟩
  · refine ⟨rfl, Φ, lim, g, E, r, hx, he.mono _ _ _ _ _ (fun τ g1 q1 v H1 r1 => ?_) (fun _ _ _ z => z) q⟩
    split at q1
    · rename_i oo ts
      obtain ⟨ys, rfl, hz, q1⟩ := q1
      have r2 : RepG X.K B lim σ H1 g1 ((v, .node oo .lst ((ys.map V.str).map T.leaf)) :: Φ) := by
        rw [List.map_map]
        exact r1
      obtain ⟨ad, rfl, hr⟩ := r2.flats
      exact ⟨a, ad, ys, rfl, rfl, .inl (seqL hr), hz, q1 _ _ r1.dropT.addLeaf⟩
    · exact q1.elim
  · split at q1
    · obtain ⟨ys, e, hz, q1⟩ := q1
      exact ⟨ys, e, hz, hq _ _ q1⟩
    · exact q1.elim
end
section
variable {prog : Program} {w : World} {A : Around} {E : Value → Shared → Prop} {s : Shared}
theorem collect_tup {l : Addr} {vs : List Value} {o : Obj} {n : Nat} {Q : List Value → Shared → Prop} (ho : s.heap.get? l = some o) (hc : o.cls = .type "tuple") (hd : o.data = .seq vs.toArray n)
    (h : Q vs { s with heap := (s.heap.push (seqObj "list" #[] 0)).update s.heap.objs.size (Obj.mapSeq (· ++ vs.toArray)) }) (hsz : vs.length ≤ sizeLine) :
    wpAny (model prog w) A (collect (.ref l)) Q E s := by
  unfold collect
  refine wpAny_bind (wpAny_runValue (codeAny_builtin entry_proto_collect' ?_))
  show wpAny _ _ (do again (.builtin "list.__iadd__" ⟨[← newList [], .ref l], []⟩)) _ _ s
  refine wpAny_bind (wpAny_newList (wpAny_pure ⟨Code.quiet_builtin _ (by decide +kernel), codeAny_builtin entry_list_iadd' ?_⟩))
  show wpAny _ _ (Builtin.List.listExtendWith (.ref s.heap.objs.size) (.ref l) (.ref s.heap.objs.size)) _ _ { s with heap := s.heap.push (seqObj "list" #[] 0) }
  unfold Builtin.List.listExtendWith
  have ho' : (s.heap.push (seqObj "list" #[] 0)).get? l = some o := Heap.get?_push_of_some _ ho
  refine wpAny_bind (wpAny_typeOf (T := "tuple") ⟨o, ho', hc⟩ ?_)
  have ht : (Value.type "tuple" == Value.type "tuple") = true := by rfl
  rw [if_pos (by rw [ht]; simp)]
  refine wpAny_bind (listItems_at ho' hd ?_)
  refine wpAny_bind (listItems_at (xs := #[]) (n := 0) (Heap.get?_push_size _ rfl) rfl ?_)
  rw [if_neg (by simp)]
  refine wpAny_bind (listUpdate_at (xs := #[]) (n := 0) (Heap.get?_push_size _ rfl) rfl ?_ (Nat.zero_le _) (by show (#[] ++ vs.toArray).size ≤ sizeLine + 1; simp only [Array.size_append, List.size_toArray, List.length_nil]; omega))
  refine wpAny_pure ?_
  show wpAny (model prog w) A (do
      let o ← load s.heap.objs.size
      match o.data with
      | .seq xs _ => pure xs.toList
      | _ => unsupported "internal:collect") Q E { s with heap := (s.heap.push (seqObj "list" #[] 0)).update s.heap.objs.size (Obj.mapSeq (· ++ vs.toArray)) }
  refine wpAny_bind (wpAny_load (get?_update_seq (Heap.get?_push_size _ rfl) _) ?_)
  show wpAny _ _ (pure ((#[] : Array Value) ++ vs.toArray).toList) Q E _
  rw [show ((#[] : Array Value) ++ vs.toArray).toList = vs by simp]
  exact wpAny_pure h
theorem sorted_ordT {l : Addr} {vs : List Value} {o : Obj} {n : Nat} {ltv : Value → Value → Bool} {Q : Value → Shared → Prop} (O : SrtO.Swo ltv) (ho : s.heap.get? l = some o) (hc : o.cls = .type "tuple") (hd : o.data = .seq vs.toArray n) (hz : vs.length ≤ sizeLine)
    (hS : 2 ≤ vs.length → ∀ (h₁ : Heap) (a : Addr), h₁.get? a = some (seqObj "list" vs.toArray 0) → (∀ b o, s.heap.get? b = some o → b ≠ a ∧ h₁.get? b = some o) → SrtO.SortableO prog w A.in1.in1 { s with heap := h₁ } a vs ltv)
    (h : ∀ out : List Value, SrtO.Srtd ltv out → SrtO.Stb ltv out vs → Q (.ref (s.heap.objs.size + 1)) { s with heap := sortedAll s.heap vs out.toArray }) :
    wpAny (model prog w) A (call (.builtin "sorted") [.ref l]) Q E s := by
  refine Calls.call_function_entry kind_sorted plain_sorted entry_sorted (args_sorted1 _) ?_
  unfold Builtin.«sorted»
  refine wpAny_bind (m := checkCount "sorted" 1 1 _) (wpAny_pure ?_)
  refine wpAny_bind (collect_tup ho hc hd ?_ hz)
  refine wpAny_bind (wpAny_newList ?_ hz)
  have hsz : ((s.heap.push (seqObj "list" #[] 0)).update s.heap.objs.size (Obj.mapSeq (· ++ vs.toArray))).objs.size = s.heap.objs.size + 1 := by
    rw [Heap.size_update, size_push']
  have hoL : (((s.heap.push (seqObj "list" #[] 0)).update s.heap.objs.size (Obj.mapSeq (· ++ vs.toArray))).push (seqObj "list" vs.toArray 0)).get? (s.heap.objs.size + 1) = some (seqObj "list" vs.toArray 0) := by
    rw [← hsz]; exact Heap.get?_push_size _ rfl
  have keep : ∀ b o, s.heap.get? b = some o → b ≠ s.heap.objs.size + 1 ∧ (((s.heap.push (seqObj "list" #[] 0)).update s.heap.objs.size (Obj.mapSeq (· ++ vs.toArray))).push (seqObj "list" vs.toArray 0)).get? b = some o := fun b o q => by
    have hlt : b < s.heap.objs.size := Heap.lt_size q
    refine ⟨Nat.ne_of_lt (Nat.lt_succ_of_lt hlt), Heap.get?_push_of_some _ ?_⟩
    rw [Heap.get?_update_ne _ _ _ _ (Nat.ne_of_lt hlt)]
    exact Heap.get?_push_of_some _ q
  show wpAny _ _ _ _ _ { s with heap := ((s.heap.push (seqObj "list" #[] 0)).update s.heap.objs.size (Obj.mapSeq (· ++ vs.toArray))).push (seqObj "list" vs.toArray 0) }
  rw [hsz]
  refine wpAny_bind (wpAny_holding (wpAny_call_entry slot_list_sort ⟨_, hoL, rfl⟩ entry_list_sort (SrtO.list_sort_ord O hoL hz (fun h2 => hS h2 _ _ hoL keep) fun out hs hb => ⟨_, rfl, ?_⟩) (args_list_sort _)))
  exact wpAny_pure ⟨_, rfl, h out hs hb⟩
end
section
variable {X : Cx}
def rSortedIT (K : PySem.W.Frag) : List V → Hp → VK → Prop := fun vs H Q => ∃ (a : Addr) (ns : List Int), vs = [V.ref a] ∧ SqT K H a (ns.map V.int) ∧
  ∀ (ns' : List Int) (p : Addr), ns'.Perm ns → ns'.Pairwise (· ≤ ·) → H p = none → Q (.ref p) (upd H p (.lst (ns'.map V.int)))
theorem cr_sortedIT : CallR X (.builtin "sorted") (rSortedIT X.K) := by
  intro pins s σ H vs us Q I r h
  obtain ⟨a, ns, rfl, hs, q⟩ := h
  obtain ⟨its, rv, ⟨o, ho, hc, n, hd⟩, hz⟩ := I.tuple hs
  rw [Vals.ref1 r]
  have hi := rv.ints
  refine sorted_ordT SrtO.swo_int ho hc hd (by rw [← rv.length]; exact hz) (fun h2 h₁ a' _ _ => SrtO.ints_sortable hi h2) fun out h1 h2 => ?_
  obtain ⟨k1, k2, k3⟩ := SrtO.ints_out hi h1 h2
  obtain ⟨ep, he'⟩ := PyProof.Rows.sortedAll_at s.heap its out.toArray
  have hlen : ((out.map SrtO.iv).map V.int).length ≤ sizeLine := by
    rw [List.length_map, k2.length_eq]
    rw [List.length_map] at hz
    exact hz
  exact ⟨.ref _, upd H (s.heap.objs.size + 1) (.lst ((out.map SrtO.iv).map V.int)), I.laid (t' := s.toks) (fun _ _ => PyProof.Rows.sortedAll_old) (Nat.le_succ _) ⟨hlen, out, ep, vals_of_ints k1, he'⟩, rfl, q _ _ k2 k3 (I.hok.fresh (Nat.le_succ _))⟩
def rnSortedI2 : RNT := fun τs Q => match τs with
  | [.node _ .lst ts] => ∃ ns : List Int, ts = intsT ns ∧ ∀ ns' : List Int, ns'.Perm ns → ns'.Pairwise (· ≤ ·) → Q (.node true .lst (intsT ns'))
  | [.node _ .tup ts] => ∃ ns : List Int, ts = intsT ns ∧ ∀ ns' : List Int, ns'.Perm ns → ns'.Pairwise (· ≤ ·) → Q (.node true .lst (intsT ns'))
  | _ => False
theorem n_sortedI2 : CallN X (.builtin "sorted") (fun xs H Q => rSortedI X.K xs H Q ∨ rSortedIT X.K xs H Q) rnSortedI2 := by
  refine ⟨CallR.or cr_sortedI cr_sortedIT, fun B lim σ H g Φ vs τs Q hl r q => ?_, fun τs Q Q' h q => ?_⟩
  · unfold rnSortedI2 at q
    split at q
    · obtain ⟨ns, rfl, q⟩ := q
      match vs, hl with
      | [v], _ =>
        rename_i o _
        have r2 : RepG X.K B lim σ H g ((v, .node o .lst ((ns.map V.int).map T.leaf)) :: Φ) := by
          rw [← intsT_eq]
          exact r
        obtain ⟨a, rfl, hr⟩ := r2.flats
        refine .inl ⟨a, ns, rfl, seqL hr, fun ns' p hp1 hp2 hp => q ns' hp1 hp2 _ _ ?_⟩
        rw [intsT_eq]
        exact make_of .lst (by simp) (leavesR r2.dropT (ns'.map V.int)) hp
    · obtain ⟨ns, rfl, q⟩ := q
      match vs, hl with
      | [v], _ =>
        rename_i o _
        have r2 : RepG X.K B lim σ H g ((v, .node o .tup ((ns.map V.int).map T.leaf)) :: Φ) := by
          rw [← intsT_eq]
          exact r
        obtain ⟨a, rfl, hr⟩ := r2.flats
        refine .inr ⟨a, ns, rfl, seqT hr, fun ns' p hp1 hp2 hp => q ns' hp1 hp2 _ _ ?_⟩
        rw [intsT_eq]
        exact make_of .lst (by simp) (leavesR r2.dropT (ns'.map V.int)) hp
    · exact q.elim
  · unfold rnSortedI2 at q ⊢
    split at q
    · obtain ⟨ns, e, q⟩ := q
      exact ⟨ns, e, fun ns' h1 h2 => h _ (q ns' h1 h2)⟩
    · obtain ⟨ns, e, q⟩ := q
      exact ⟨ns, e, fun ns' h1 h2 => h _ (q ns' h1 h2)⟩
    · exact q.elim
end
end DL
set_option Elab.async false
set_option linter.all false
set_option maxRecDepth 100000
set_option maxHeartbeats 4000000
namespace DL
open PySem PySem.Spec PyProof.Rows L2 W
section
variable {X : Cx} {W : WX} {bs : List (Option Nat)} {t : DTA} {fe e : Expr} {es : List Expr} {pos : Pos}
structure CalN (X : Cx) (fl : List Bool) (f : Addr) (sp : DSp) : Prop where
  ex : ∃ (k : Nat) (fd : FuncData) (ps : List Str), FnG X.prog X.w X.K X.mg X.base k f fd ps (spD X.K X.mg fl sp) ∧ MonoD sp ∧ Room k X.A ∧ PySem.W.keepIn X.K (.ref f) = true ∧ Binds X.K fd ps []
def tCallE (tf : TE) (C : Addr → DSp → Prop) (fl : List Bool) (K : PySem.W.Frag) (mg : Str → Option Value) (E : L2.St → XK) (t : TA) : TE := fun σ H Q => tf σ H fun v H1 => ∃ f sp, v = .ref f ∧ C f sp ∧ tCallS (spD K mg fl sp) E t σ H1 Q
theorem pe_callE {tf : TE} {tt : TA} {C : Addr → DSp → Prop} {fl : List Bool} {E : L2.St → XK} (hf : PE X fe tf) (hC : ∀ f sp, C f sp → CalN X fl f sp) (hgd : X.A.guards = some [])
    (hx : ∀ σ, PassesAt (L2.CX X.prog X.w) X σ (E σ)) (ha : PA X (e :: es) tt) (hsh : eval (.Call fe (e :: es) [] pos) X.env = (do callWith pos (← eval fe X.env) [] (backTo pos (starEach (e :: es) X.env)) (backToKw pos (keywordEach [] X.env))) := by rfl)
    (he : starEach (e :: es) X.env = (false, eval e X.env) :: starEach es X.env := by rfl)
    (hpl : (backTo pos (starEach es X.env)).any (·.1) = false := by rfl) : PE X (.Call fe (e :: es) [] pos) (tCallE tf C fl X.K X.mg E tt) := by
  refine ⟨fun pins s σ H Q I h => ?_⟩
  rw [hsh]
  refine wpAny_bind (thn (hf.run pins s σ H _ I h) fun u s1 ⟨v, H1, I1, r, f, sp, hv, hc, q⟩ => ?_)
  subst hv
  cases r
  obtain ⟨k, fd, ps, F, _, hr, hk, hb⟩ := (hC f sp hc).ex
  exact PySem.W.callWith_K (h₀ := X.base) I1.ok.mod.kin hk (thn (ha.run pos pins s1 σ H1 _ I1 q) fun us s2 ⟨vs, H2, I2, r, q⟩ => ⟨I2.kIn, run_fnG F hr hgd hb (hx σ) I2 r q⟩) he hpl
def xCallE (tf : DTE) (C : Addr → DSp → Prop) (bs : List (Option Nat)) (t : DTA) : DTE := fun g Q E => tf g (fun τ g1 => ∃ f sp, τ = .leaf (.ref f) ∧ C f sp ∧ xCall sp bs t g1 Q E) E
theorem d_callE {tf : DTE} {C : Addr → DSp → Prop} (hf : DE X W fe tf) (hC : ∀ f sp, C f sp → CalN X (bs.map Option.isSome) f sp) (hgd : X.A.guards = some []) (tk : Takes X (upW X.mg W)) (ha : DA X W (e :: es) bs t)
    (hsh : eval (.Call fe (e :: es) [] pos) X.env = (do callWith pos (← eval fe X.env) [] (backTo pos (starEach (e :: es) X.env)) (backToKw pos (keywordEach [] X.env))) := by rfl)
    (he : starEach (e :: es) X.env = (false, eval e X.env) :: starEach es X.env := by rfl) (hpl : (backTo pos (starEach es X.env)).any (·.1) = false := by rfl) : DE X W (.Call fe (e :: es) [] pos) (xCallE tf C bs t) := by
  have hm : ∀ f sp, C f sp → MonoD sp := fun f sp c => by
    obtain ⟨k, fd, ps, F, hm, _⟩ := (hC f sp c).ex
    exact hm
  refine ⟨fun B => PE.imp (pe_callE (hf.run B) hC hgd (fun σ => passAt tk σ) (ha.run B) hsh he hpl) fun σ H Q ⟨Φ, lim, g, E, r, hx, q⟩ => ?_, fun g Q Q' E E' hq hE q => hf.mono _ _ _ _ _ (fun τ g1 ⟨f, sp, h1, h2, q1⟩ => ⟨f, sp, h1, h2, xCall_mono (hm f sp h2) ha.mono _ _ _ _ _ hq hE q1⟩) hE q⟩
  refine ⟨Φ, lim, g, E, r, hx, hf.mono _ _ _ _ _ (fun τ g1 ⟨f, sp, h1, h2, q1⟩ v H1 r1 => ?_) (fun _ _ _ z => z) q⟩
  subst h1
  obtain rfl := r1.leaf
  exact ⟨f, sp, rfl, h2, Φ, lim, g1, E, r1.dropT, hx, ha.mono _ _ _ _ _ (fun τs g2 q2 vs H2 hl hb r2 => call_sp (hm f sp h2) hx hl hb r2 (hm f sp h2 _ _ _ _ _ (fun τ us z => z) (fun _ _ _ z => z) q2)) (fun _ _ _ z => z) q1⟩
def xCallL (sps : List DSp) (ti : DTE) (bs : List (Option Nat)) (t : DTA) : DTE := fun g Q E => ti g (fun τ g1 => isI τ fun k => ∃ sp, atI sps k = some sp ∧ xCall sp bs t g1 Q E) E
end
section
variable {X : Cx} {W : WX} {bs : List (Option Nat)} {t : DTA} {ix e : Expr} {es es0 : List Expr} {pos lp sp1 : Pos} {ti : DTE} {fl : List Bool}
inductive FnsL (X : Cx) (fl : List Bool) : List Expr → List Addr → List DSp → Prop
  | nil : FnsL X fl [] [] []
  | cons {x : Str} {p : Pos} {f : Addr} {sp : DSp} {es : List Expr} {fs : List Addr} {sps : List DSp} : Gl X x → X.mg x = some (.ref f) → (x == ("__debug__" : Str)) = false → CalN X fl f sp → FnsL X fl es fs sps → FnsL X fl (.Name x p :: es) (f :: fs) (sp :: sps)
def aRefs : List Addr → DTA
  | [] => aNil
  | f :: fs => aCons (xC (.ref f)) (aRefs fs)
theorem FnsL.da {es : List Expr} {fs : List Addr} {sps : List DSp} (h : FnsL X fl es fs sps) : ∃ bs0, DA X W es bs0 (aRefs fs) := by
  induction h with
  | nil => exact ⟨_, da_nil⟩
  | cons hg hm hd _ _ ih =>
    obtain ⟨bs0, ih⟩ := ih
    exact ⟨_, da_cons (d_c (pe_glob hg hm rfl hd)) ih⟩
theorem aRefs_run {Q : List T → Ev → Prop} {E : XP} {g : Ev} : ∀ {fs : List Addr}, Q (fs.map fun f => .leaf (.ref f)) g → aRefs fs g Q E
  | [], q => q
  | f :: fs, q => aRefs_run (fs := fs) (Q := fun τs g2 => Q (.leaf (.ref f) :: τs) g2) q
theorem FnsL.at {es : List Expr} {fs : List Addr} {sps : List DSp} (h : FnsL X fl es fs sps) : fs.length = sps.length ∧ ∀ (j : Nat) (sp : DSp), sps[j]? = some sp → ∃ f : Addr, fs[j]? = some f ∧ CalN X fl f sp := by
  induction h with
  | nil => exact ⟨rfl, nofun⟩
  | cons _ _ _ c _ ih =>
    refine ⟨by rw [List.length_cons, List.length_cons, ih.1], fun j sp hj => ?_⟩
    cases j with
    | zero =>
      cases hj
      exact ⟨_, rfl, c⟩
    | succ j => exact ih.2 j sp hj
theorem d_callL {fs : List Addr} {sps : List DSp} (L : FnsL X (bs.map Option.isSome) es0 fs sps) (hz : sps.length ≤ 16777216) (hi : DE X W ix ti) (hgd : X.A.guards = some []) (tk : Takes X (upW X.mg W)) (ha : DA X W (e :: es) bs t) (hs : PlainIx ix := by intro _ _; rfl)
    (hsh : eval (.Call (.Subscript (.List es0 lp) ix sp1) (e :: es) [] pos) X.env = (do callWith pos (← eval (.Subscript (.List es0 lp) ix sp1) X.env) [] (backTo pos (starEach (e :: es) X.env)) (backToKw pos (keywordEach [] X.env))) := by rfl)
    (he : starEach (e :: es) X.env = (false, eval e X.env) :: starEach es X.env := by rfl) (hpl : (backTo pos (starEach es X.env)).any (·.1) = false := by rfl) : DE X W (.Call (.Subscript (.List es0 lp) ix sp1) (e :: es) [] pos) (xCallL sps ti bs t) := by
  obtain ⟨bs0, hl⟩ := L.da (W := W)
  have key := d_callE (pos := pos) (d_ix (pos := sp1) (d_lst (pos := lp) hl) hi hs) (C := CalN X (bs.map Option.isSome)) (fun _ _ z => z) hgd tk ha hsh he hpl
  have hmono : ∀ k sp, atI sps k = some sp → MonoD sp := fun k sp h => by
    unfold atI at h
    cases e : ixN sps.length k with
    | none => rw [e] at h; cases h
    | some j =>
      rw [e] at h
      obtain ⟨f, _, c⟩ := L.at.2 j sp h
      obtain ⟨_, _, _, _, hm, _⟩ := c.ex
      exact hm
  have go : ∀ g Q E, xCallL sps ti bs t g Q E → xCallE (xOp rtIx (xLst (aRefs fs)) ti) (CalN X (bs.map Option.isSome)) bs t g Q E := fun g Q E q => by
    unfold xCallE xOp xLst
    refine aRefs_run ⟨by rw [List.length_map, L.at.1]; exact hz, hi.mono _ _ _ _ _ (fun τ g1 q1 => ?_) (fun _ _ _ z => z) q⟩
    obtain ⟨k, rfl, sp, hk, q2⟩ := isI_of q1
    unfold atI at hk
    cases e : ixN sps.length k with
    | none => rw [e] at hk; cases hk
    | some j =>
      rw [e] at hk
      obtain ⟨f, hf, c⟩ := L.at.2 j sp hk
      refine ⟨.leaf (.ref f), ?_, f, sp, rfl, c, q2⟩
      unfold atI
      rw [List.length_map, L.at.1, e]
      show (fs.map _)[j]? = _
      rw [List.getElem?_map, hf]
      rfl
  refine ⟨fun B => PE.imp (key.run B) fun σ H Q ⟨Φ, lim, g, E, r, hx, q⟩ => ⟨Φ, lim, g, E, r, hx, go _ _ _ q⟩, fun g Q Q' E E' hq hE q => hi.mono _ _ _ _ _ (fun τ g1 q1 => isI_mono (fun k ⟨sp, hk, q2⟩ => ⟨sp, hk, xCall_mono (hmono k sp hk) ha.mono _ _ _ _ _ hq hE q2⟩) q1) hE q⟩
end
section
variable {X : Cx} {W : WX} {a b : Expr} {ta tb : DTE} {pos : Pos}
theorem dt_inT (hu : X.A.units + 65 < cLine) (hm : behindInMarks .In b = false) (ha : DE X W a ta) (hb : DE X W b tb) : DT X W (.Compare a [.In] [b] pos) (xB (xOp (rtInT false) ta tb)) := dt_cmp (op_inTD hu) op2_inT ha hb hm
theorem dt_notinT (hu : X.A.units + 65 < cLine) (hm : behindInMarks .NotIn b = false) (ha : DE X W a ta) (hb : DE X W b tb) : DT X W (.Compare a [.NotIn] [b] pos) (xB (xOp (rtInT true) ta tb)) := dt_cmp (op_notInTD hu) op2_inT ha hb hm
end
end DL
set_option Elab.async false
set_option linter.all false
set_option maxRecDepth 100000
set_option maxHeartbeats 4000000
namespace DL
open PySem PySem.Spec PyProof.Rows L2 W
section
variable {K : PySem.W.Frag} {B : Bs} {lim : List Addr} {σ : L2.St} {H : Hp} {g : Ev} {Φ : Its}
theorem RepG.lockO {v : V} {s : Sh} {ts : List T} (h : RepG K B lim σ H g ((v, .node true s ts) :: Φ)) (hs : s ≠ .tup) :
    ∃ a us, v = .ref a ∧ us.length = ts.length ∧ H a = some (s.mk a us) ∧ ∀ od, RepG K B lim σ (upd H a (.frz od (s.mk a us))) g (((.ref a, .node false (.lk od s) (us.map .leaf)) :: us.zip (frzL ts)) ++ Φ) := by
  obtain ⟨F, zs, fp, en, o, f, hl⟩ := h
  obtain ⟨fp', pf, o'⟩ := o.perm (List.perm_middle (a := (v, T.node true s ts)))
  obtain ⟨f1, f2, rfl, p1, o2⟩ := OwnZ.uncons (zs := zs ++ Φ) o'
  have f' := f.perm (List.Perm.append_left lim pf)
  cases p1 with
  | @own a _ us _ fk ha hk =>
    refine ⟨a, us, rfl, hk.length, ha, fun od => ?_⟩
    obtain ⟨H1, eH⟩ : ∃ H1, H1 = upd H a (.frz od (s.mk a us)) := ⟨_, rfl⟩
    rw [← eH]
    have h1 : H1 a = some (.frz od (s.mk a us)) := by rw [eH]; exact upd_same
    have ne1 : ∀ b, b ≠ a → H1 b = H b := fun b hb => by rw [eH]; exact upd_ne hb
    have hnt : ∀ b vs, H b = some (.tup vs) → H1 b = some (.tup vs) := fun b vs e => by
      rw [ne1 b (fun z => by rw [z, ha] at e; exact hs (Sh.mk_tup (Option.some.inj e)).1)]
      exact e
    have nd := f'.nd
    have nF : ¬ F a := f'.off a (List.mem_append_right _ (List.mem_append_left _ List.mem_cons_self))
    have nd2 := (List.nodup_append.mp nd).2.1
    have nk : a ∉ fk := (List.nodup_cons.mp (List.nodup_append.mp nd2).1).1
    have n2 : a ∉ f2 := fun z => (List.nodup_append.mp nd2).2.2 a List.mem_cons_self a z rfl
    have nl : a ∉ lim := fun z => (List.nodup_append.mp nd).2.2 a z a (List.mem_append_left _ List.mem_cons_self) rfl
    have some1 : ∀ b, H b ≠ none → H1 b ≠ none := fun b q => by
      by_cases e : b = a
      · rw [e, h1]; exact nofun
      · rw [ne1 b e]; exact q
    have hk1 : OwnL K F H1 us ts fk := OwnL.mono (fun _ z => z) ts hk (fun b hb u e => by
      rw [ne1 b (fun z => by subst z; exact hb.elim nF nk)]
      exact e) hnt
    have hk2 : OwnL K (fun b => F b ∨ b ∈ a :: fk) H1 us (frzL ts) [] := OwnL.freeze (fun b z => .inl z) ts hk1 fun b z => .inr (List.mem_cons_of_mem _ z)
    have o3 : OwnZ K (fun b => F b ∨ b ∈ a :: fk) H1 (zs ++ Φ) f2 := o2.mono (fun b z => .inl z) (fun b hb u e => by
      rw [ne1 b (fun z => by subst z; exact hb.elim nF n2)]
      exact e) hnt
    have px : OwnP K (fun b => F b ∨ b ∈ a :: fk) H1 (.ref a) (.node false (.lk od s) (us.map .leaf)) [] := .fz (.inr List.mem_cons_self) h1 (ownL_leaves us)
    have hz : OwnZ K (fun b => F b ∨ b ∈ a :: fk) H1 ((V.ref a, T.node false (.lk od s) (us.map .leaf)) :: (us.zip (frzL ts) ++ (zs ++ Φ))) ([] ++ ([] ++ f2)) := .cons px (hk2.zip.append o3)
    have sub : (lim ++ f2).Sublist (lim ++ ((a :: fk) ++ f2)) := List.Sublist.append (List.Sublist.refl _) (List.sublist_append_right _ _)
    have fin : Fine B (fun b => F b ∨ b ∈ a :: fk) H1 (lim ++ f2) := by
      refine ⟨nd.sublist sub, fun b z => ?_, fun b z => ?_, fun b z => .inl (f.inc b z), fun b u e n => ?_, fun b z => ?_, fun b z => f'.newO b (sub.subset z), fun b vs e => hnt b vs (f.keepT b vs e)⟩
      · rintro (k | k)
        · exact f'.off b (sub.subset z) k
        · rcases List.mem_append.mp z with z | z
          · exact (List.nodup_append.mp nd).2.2 b z b (List.mem_append_left _ k) rfl
          · exact (List.nodup_append.mp nd2).2.2 b k b z rfl
      · rcases z with z | z
        · exact some1 b (f.trk b z)
        · rcases List.mem_cons.mp z with rfl | z
          · rw [h1]; exact nofun
          · exact some1 b (hk.tracked b z)
      · have hb : b ≠ a := fun q => by
          subst q
          rcases f'.newO b (List.mem_append_right _ (List.mem_append_left _ List.mem_cons_self)) with q | q
          · exact n q
          · rw [q] at e; cases e
        rw [ne1 b hb]
        exact f.keep b u e n
      · rcases z with z | z
        · exact f.newF b z
        · exact .inr (f'.newO b (List.mem_append_right _ (List.mem_append_left _ z)))
    refine rep_items (ds := []) en hz fin (fun b z => some1 b (hl b z)) ?_
    rw [List.nil_append]
    show ((V.ref a, T.node false (.lk od s) (us.map .leaf)) :: (us.zip (frzL ts) ++ (zs ++ Φ))).Perm (zs ++ ((V.ref a, T.node false (.lk od s) (us.map .leaf)) :: (us.zip (frzL ts) ++ Φ)))
    refine List.Perm.trans (List.Perm.cons _ ?_) List.perm_middle.symm
    rw [← List.append_assoc, ← List.append_assoc]
    exact List.Perm.append_right _ List.perm_append_comm
theorem RepG.lkAt {a : Addr} {od : Obj} {s : Sh} {us : List V} (h : RepG K B lim σ H g ((.ref a, .node false (.lk od s) (us.map .leaf)) :: Φ)) : H a = some (.frz od (s.mk a us)) := by
  obtain ⟨F, zs, fp, en, oz, f, hl⟩ := h
  obtain ⟨fp', pf, o'⟩ := oz.perm (List.perm_middle (a := (V.ref a, T.node false (.lk od s) (us.map .leaf))))
  obtain ⟨f1, f2, rfl, p1, o2⟩ := OwnZ.uncons (zs := zs ++ Φ) o'
  cases p1 with
  | fz hf hr hk =>
    obtain rfl := ownL_flat hk
    exact hr
theorem walks_vals {a : Addr} {od : Obj} {ks : List Key} {us : List V} {ts : List T} (hl : us.length = ts.length) (hk : ts.length = ks.length) (hf : ∀ (i : Nat) (t : T), ts[i]? = some t → frz t = t) :
    Walks K B lim (Itd a od (ks.zip us)) ((.ref a, .node false (.lk od (.dK ks)) (us.map .leaf)) :: us.zip ts) ts := by
  intro σ H g Φ i r
  have hH : H a = some (.frz od (.dK (ks.zip us))) := RepG.lkAt (Φ := us.zip ts ++ Φ) r
  have hz : (ks.zip us).length = ts.length := by rw [List.length_zip]; omega
  refine ⟨fun t ht => ?_, fun hi => ⟨hH, by omega⟩⟩
  have hi := (List.getElem?_eq_some_iff.mp ht).1
  refine ⟨⟨hH, by omega⟩, fun x H' y => ?_⟩
  obtain ⟨rfl, k, e1⟩ := y
  obtain ⟨v, hv, hz⟩ := zip_get hl ht
  rw [List.getElem?_zip_eq_some] at e1
  have e2 := e1.2
  rw [hv] at e2
  cases e2
  exact RepG.dupAt (zs := (.ref a, .node false (.lk od (.dK ks)) (us.map .leaf)) :: us.zip ts) (i := i + 1) r (by simpa using hz) (hf i t ht)
abbrev itmT (z : Key × T) : T := .node true .tup [.leaf (kV z.1), z.2]
theorem walks_items {a : Addr} {od : Obj} {ks : List Key} {us : List V} {ts : List T} (hl : us.length = ts.length) (hk : ts.length = ks.length) (hf : ∀ (i : Nat) (t : T), ts[i]? = some t → frz t = t) :
    Walks K B lim (Iti a od (ks.zip us)) ((.ref a, .node false (.lk od (.dK ks)) (us.map .leaf)) :: us.zip ts) ((ks.zip ts).map itmT) := by
  intro σ H g Φ i r
  have hH : H a = some (.frz od (.dK (ks.zip us))) := RepG.lkAt (Φ := us.zip ts ++ Φ) r
  have hz : (ks.zip us).length = ts.length := by rw [List.length_zip]; omega
  refine ⟨fun t ht => ?_, fun hi => ⟨hH, by rw [List.length_map, List.length_zip] at hi; omega⟩⟩
  rw [List.getElem?_map] at ht
  cases ez : (ks.zip ts)[i]? with
  | none => rw [ez] at ht; cases ht
  | some z =>
    rw [ez] at ht
    cases ht
    obtain ⟨z1, z2⟩ := List.getElem?_zip_eq_some.mp ez
    have hi := (List.getElem?_eq_some_iff.mp z2).1
    refine ⟨⟨hH, by omega⟩, fun x H' y => ?_⟩
    obtain ⟨p, k, v, e1, rfl, hp, rfl⟩ := y
    obtain ⟨w, hw, hzz⟩ := zip_get hl z2
    obtain ⟨e2, e3⟩ := List.getElem?_zip_eq_some.mp e1
    have e2 : ks[i]? = some k := e2
    have e3 : us[i]? = some v := e3
    rw [hw] at e3
    cases e3
    rw [z1] at e2
    cases e2
    have r2 := RepG.dupAt (zs := (.ref a, .node false (.lk od (.dK ks)) (us.map .leaf)) :: us.zip ts) (i := i + 1) r (by simpa using hzz) (hf i z.2 z2)
    exact RepG.make (s := .tup) (zs := [(kV z.1, .leaf (kV z.1)), (v, z.2)]) (RepG.addLeaf (v := kV z.1) r2) hp
end
section
variable {X : Cx} {W : WX} {m : Nat → Bool} {tg e a b : Expr} {te ta tb : DTE} {pos p apos cpos : Pos}
theorem pe_locked {td : TE} (he : PE X e td) : PE X e (fun σ H Q => td σ H fun x H1 => ∃ d u, x = .ref d ∧ H1 d = some u ∧ Mut (some u) ∧ ∀ od, Q x (upd H1 d (.frz od u))) := by
  refine ⟨fun pins s σ H Q I h => thn (he.run pins s σ H _ I h) fun v s1 ⟨x, H1, I1, r1, d, u, ex, hd, mu, q⟩ => ?_⟩
  obtain ⟨od, I2⟩ := I1.lock hd mu
  exact ⟨x, _, I2, r1, q od⟩
def iValT (te : DTE) : DTI := fun g Q E => te g (fun τ g1 => ∃ (ks : List Key) (ts : List T), τ = .node true (.dK ks) ts ∧ ts.length = ks.length ∧ Q (frzL ts) g1) E
theorem di_values (he : DE X W e te) (hbase : attributeBase e "values" X.env (eval e X.env) = eval e X.env := by rfl) (hline : (apos.endLine == cpos.line) = true := by rfl) : DI X W tg (.Call (.Attribute e "values" apos) [] [] cpos) (iValT te) := by
  refine ⟨fun B => PI.imp (pi_values (pe_locked (he.run B)) hbase hline) fun σ H R ⟨Φ, lim, g, E, r, hx, q⟩ => ?_, fun g Q Q' E E' hq hE q => he.mono _ _ _ _ _ (fun τ g1 ⟨ks, ts, h1, h2, z⟩ => ⟨ks, ts, h1, h2, hq _ _ z⟩) hE q⟩
  refine ⟨Φ, lim, g, E, r, hx, he.mono _ _ _ _ _ (fun τ g1 ⟨ks, ts, e1, hk, q1⟩ v H1 r1 => ?_) (fun _ _ _ z => z) q⟩
  subst e1
  obtain ⟨d, us, rfl, hl, hd, k⟩ := r1.lockO (fun z => by cases z)
  refine ⟨d, _, rfl, hd, trivial, fun od => ⟨d, od, ks.zip us, rfl, upd_same, ?_⟩⟩
  exact q1 _ _ _ (k od) (walks_vals (by rw [hl, frzL_length]) (by rw [frzL_length]; exact hk) fun i t ht => frzL_get ht)
def iItT (te : DTE) : DTI := fun g Q E => te g (fun τ g1 => ∃ (ks : List Key) (ts : List T), τ = .node true (.dK ks) ts ∧ ts.length = ks.length ∧ Q ((ks.zip (frzL ts)).map itmT) g1) E
theorem di_items {elts : List Expr} {kk : Nat} {tpos : Pos} (he : DE X W e te) (hbase : attributeBase e "items" X.env (eval e X.env) = eval e X.env := by rfl) (hline : (apos.endLine == cpos.line) = true := by rfl) : DI X W (.Tuple elts kk tpos) (.Call (.Attribute e "items" apos) [] [] cpos) (iItT te) := by
  refine ⟨fun B => PI.imp (pi_items (pe_locked (he.run B)) hbase hline) fun σ H R ⟨Φ, lim, g, E, r, hx, q⟩ => ?_, fun g Q Q' E E' hq hE q => he.mono _ _ _ _ _ (fun τ g1 ⟨ks, ts, h1, h2, z⟩ => ⟨ks, ts, h1, h2, hq _ _ z⟩) hE q⟩
  refine ⟨Φ, lim, g, E, r, hx, he.mono _ _ _ _ _ (fun τ g1 ⟨ks, ts, e1, hk, q1⟩ v H1 r1 => ?_) (fun _ _ _ z => z) q⟩
  subst e1
  obtain ⟨d, us, rfl, hl, hd, k⟩ := r1.lockO (fun z => by cases z)
  refine ⟨d, _, rfl, hd, trivial, fun od => ⟨d, od, ks.zip us, rfl, upd_same, ?_⟩⟩
  exact q1 _ _ _ (k od) (walks_items (by rw [hl, frzL_length]) (by rw [frzL_length]; exact hk) fun i t ht => frzL_get ht)
def rtInL (neg : Bool) : R2T := fun τ1 τ2 Q => ∃ d ds, toP τ1 = some d ∧ toP τ2 = some (.list ds) ∧ SeqAt.shaped d = true ∧ SeqAt.shaped (.list ds) = true ∧ Q (.leaf (.bl (if neg then !(ds.any fun z => PyData.eqv z d) else ds.any fun z => PyData.eqv z d)))
theorem op2_inL {K : PySem.W.Frag} : Op2 K (rInD K) (rtInL false) := by
  refine ⟨fun B lim σ H g Φ v1 v2 τ1 τ2 Q r q => ?_, fun τ1 τ2 Q Q' hq ⟨d, ds, h1, h2, h3, h4, q⟩ => ⟨d, ds, h1, h2, h3, h4, hq _ q⟩⟩
  obtain ⟨d, ds, h1, h2, h3, h4, q⟩ := q
  exact ⟨d, ds, r.dropT.dp h1, r.dp h2, h3, h4, q _ _ r.dropT.dropT.addLeaf⟩
theorem op2_ninL {K : PySem.W.Frag} : Op2 K (rNotInD K) (rtInL true) := by
  refine ⟨fun B lim σ H g Φ v1 v2 τ1 τ2 Q r q => ?_, fun τ1 τ2 Q Q' hq ⟨d, ds, h1, h2, h3, h4, q⟩ => ⟨d, ds, h1, h2, h3, h4, hq _ q⟩⟩
  obtain ⟨d, ds, h1, h2, h3, h4, q⟩ := q
  exact ⟨d, ds, r.dropT.dp h1, r.dp h2, h3, h4, q _ _ r.dropT.dropT.addLeaf⟩
theorem d_inL (hu : X.A.units + 65 < cLine) (hm : behindInMarks .In b = false) (ha : DE X W a ta) (hb : DE X W b tb) : DE X W (.Compare a [.In] [b] pos) (xOp (rtInL false) ta tb) := d_cmp (op_inD hu) op2_inL ha hb hm
theorem d_notinL (hu : X.A.units + 65 < cLine) (hm : behindInMarks .NotIn b = false) (ha : DE X W a ta) (hb : DE X W b tb) : DE X W (.Compare a [.NotIn] [b] pos) (xOp (rtInL true) ta tb) := d_cmp (op_notInD hu) op2_ninL ha hb hm
theorem dt_inL (hu : X.A.units + 65 < cLine) (hm : behindInMarks .In b = false) (ha : DE X W a ta) (hb : DE X W b tb) : DT X W (.Compare a [.In] [b] pos) (xB (xOp (rtInL false) ta tb)) := dt_cmp (op_inD hu) op2_inL ha hb hm
theorem dt_notinL (hu : X.A.units + 65 < cLine) (hm : behindInMarks .NotIn b = false) (ha : DE X W a ta) (hb : DE X W b tb) : DT X W (.Compare a [.NotIn] [b] pos) (xB (xOp (rtInL true) ta tb)) := dt_cmp (op_notInD hu) op2_ninL ha hb hm
end
end DL
set_option Elab.async false
set_option linter.all false
set_option maxRecDepth 100000
set_option maxHeartbeats 4000000
namespace DL
open PySem PySem.Spec PyProof.Rows L2 W
section
variable {K : PySem.W.Frag} {B : Bs} {lim : List Addr} {σ : L2.St} {H : Hp} {g : Ev} {Φ : Its}
theorem RepG.appChild {i c n : Nat} {s : Sh} {ts l : List T} {tc : T} (r : RepG K B lim σ H g Φ) (h0 : g[i]? = some (some (.node true s ts))) (hs : s ≠ .tup) (hn : ts[n]? = some (.node true .lst l)) (hc : g[c]? = some (some tc)) (hf : frz tc = tc) :
    ∃ a us a3 us3 w, σ[i]? = some (some (.ref a)) ∧ us.length = ts.length ∧ H a = some (s.mk a us) ∧ us[n]? = some (.ref a3) ∧ H a3 = some (.lst us3) ∧ us3.length = l.length ∧ σ[c]? = some (some w) ∧ (∀ ds, toPL l = some ds → Dp K H (.ref a3) (.list ds)) ∧ (∀ d, toP tc = some d → Dp K H w d) ∧
      RepG K B lim σ (upd H a3 (.lst (us3 ++ [w]))) (g.set i (some (.node true s (ts.set n (.node true .lst (l ++ [tc])))))) Φ := by
  obtain ⟨w, hw, r0⟩ := r.look hc hf
  obtain ⟨v0, hv, rm⟩ := RepG.move r0 h0
  obtain ⟨a, us, rfl, hl, ha, r2⟩ := rm.open_
  obtain ⟨u, hu, hz⟩ := zip_get (l := us) (r := ts) hl hn
  obtain ⟨rr, pr, pn⟩ := set_perm (u, T.node true .lst (l ++ [tc])) hz
  have rc : RepG K B (a :: lim) σ H (g.set i none) ((u, .node true .lst l) :: (rr ++ ((w, tc) :: Φ))) := r2.perm (List.Perm.append_right _ pr)
  have hdp : ∀ ds, toPL l = some ds → Dp K H u (.list ds) := fun ds e => rc.dp (by simp only [toP, e]; rfl)
  have hdc : ∀ d, toP tc = some d → Dp K H w d := fun d e => r0.dp e
  obtain ⟨a3, us3, rfl, hl3, ha3, r6⟩ := rc.open_
  have nd := r6.limNd
  have n31 : a ≠ a3 := fun e => by subst e; simp at nd
  have r7 : RepG K B (a3 :: a :: lim) σ H (g.set i none) ((us3.zip l ++ [(w, tc)]) ++ (rr ++ Φ)) := r6.perm (by
    rw [List.append_assoc]
    exact List.Perm.append_left _ List.perm_middle)
  have f1 : ((us3.zip l ++ [(w, tc)]).map (·.1)) = us3 ++ [w] := by
    rw [List.map_append, List.map_fst_zip (by omega)]
    rfl
  have f2 : ((us3.zip l ++ [(w, tc)]).map (·.2)) = l ++ [tc] := by
    rw [List.map_append, List.map_snd_zip (by omega)]
    rfl
  have r8 := r7.close (s := .lst) (fun vs e => nomatch (show HO.lst us3 = HO.tup vs from Option.some.inj (ha3.symm.trans e)))
  rw [f1, f2] at r8
  have e6 : (us.zip ts).set n (V.ref a3, T.node true .lst (l ++ [tc])) = us.zip (ts.set n (T.node true .lst (l ++ [tc]))) := by rw [zip_set, set_at hu]
  rw [e6] at pn
  have r9 : RepG K B (a :: lim) σ (upd H a3 (.lst (us3 ++ [w]))) (g.set i none) (us.zip (ts.set n (T.node true .lst (l ++ [tc]))) ++ Φ) := r8.perm (List.Perm.append_right Φ pn.symm)
  have k2 : (upd H a3 (.lst (us3 ++ [w]))) a = some (s.mk a us) := by rw [upd_ne n31]; exact ha
  have r10 := r9.close (s := s) (fun vs e => absurd (Sh.mk_tup (Option.some.inj (k2.symm.trans e))).1 hs)
  rw [List.map_fst_zip (by rw [List.length_set]; omega), List.map_snd_zip (by rw [List.length_set]; omega), upd_self k2] at r10
  have r11 := r10.back hv
  rw [List.set_set] at r11
  exact ⟨a, us, a3, us3, w, hv, hl, ha, hu, ha3, hl3, hw, hdp, hdc, r11⟩
end
def sSetd (i c j : Nat) (tk : DTE) : DTS := fun D g => atSlot i g fun t00 => isDctO t00 ∧ tk g (fun τk g1 => ∃ (k : Int) (ks : List Key) (ts : List T) (tc : T) (d : PyData), τk = .leaf (.int k) ∧ g1[i]? = some (some (.node true (.dK ks) ts)) ∧ g1[c]? = some (some tc) ∧ frz tc = tc ∧ (c ≠ i ∧ c ≠ j ∧ i ≠ j ∧ j < g1.length) ∧
  toP tc = some d ∧ SeqAt.shaped d = true ∧ ks.Nodup ∧ ts.length = ks.length ∧ ks.length < sizeLine ∧
  (ixK ks (.inl k) = none → D.nx ((g1.set i (some (.node true (.dK (ks ++ [.inl k])) (ts ++ [.node true .lst [tc]])))).set j none)) ∧
  ∀ n, ixK ks (.inl k) = some n → ∃ l ds, ts[n]? = some (.node true .lst l) ∧ toPL l = some ds ∧ SeqAt.shaped (.list ds) = true ∧ l.length < sizeLine ∧
    D.nx ((g1.set i (some (.node true (.dK ks) (ts.set n (.node true .lst (if (ds.any fun z => PyData.eqv z d) = true then l else l ++ [tc])))))).set j none)) D.ex
section
variable {X : Cx} {W : WX} {m : Nat → Bool} {o ke x1 v1 x2 v2 : Expr} {tk : DTE} {rest : List Stmt} {u : DTS} {y : Str} {py ap cp lp pos1 pos2 pos3 pos4 ap2 cp2 : Pos}
theorem dss_setd {i c j : Nat} (hrest : DSs X W m rest u) (hu1 : X.A.units + 65 < cLine) (hN : X.N.Nodup) (hj : X.N[j]? = some y) (hy : Loc X.env.scope y) (hm : m j = false) (ho : PE X o (tVar i)) (hk : DE X W ke tk) (m2 : M2 X o "setdefault" ap ke (.List [] lp) cp)
    (hx1 : PE X x1 (tVar c)) (hv1 : PE X v1 (tVar j)) (hx2 : PE X x2 (tVar c)) (hv2 : PE X v2 (tVar j)) (hs1 : swapsWith (.Call (.Attribute o "setdefault" ap) [ke, .List [] lp] [] cp) (some (.Name y py)) pos1.line X.env = pure false := by rfl)
    (hf : X.fn y = true ∨ X.env.scope.names.lookup y = some .local := by first | exact .inl rfl | exact .inr rfl | assumption) (hmk : behindInMarks .NotIn v1 = false := by with_unfolding_all rfl)
    (hbase : attributeBase v2 "append" X.env (eval v2 X.env) = eval v2 X.env := by rfl)
    (hfew : ((backTo cp2 (starEach [x2] X.env)).all (fun x => !x.1) && (backToKw cp2 (keywordEach [] X.env)).all (fun x => x.1.isSome) && decide ([x2].length + ([] : List Keyword).length + (if ([] : List Keyword).isEmpty then 0 else 1) < 30)) = true := by rfl)
    (hline : (ap2.endLine == cp2.line) = true := by rfl) (hs : starEach [x2] X.env = (false, eval x2 X.env) :: starEach [] X.env := by rfl) (hplain : (backTo cp2 (starEach [] X.env)).any (·.1) = false := by rfl)
    (hs2 : swapsWith (.Call (.Attribute v2 "append" ap2) [x2] [] cp2) none pos3.line X.env = pure false := by rfl) :
    DSs X W m (.Assign [.Name y py] (.Call (.Attribute o "setdefault" ap) [ke, .List [] lp] [] cp) pos1 :: .If (.Compare x1 [.NotIn] [v1] pos4) [.Expr (.Call (.Attribute v2 "append" ap2) [x2] [] cp2) pos3] [] pos2 :: rest) (sSeq (sSetd i c j tk) u) := by
  refine ⟨fun B σ0 => PSs.imp (pss_cons (ps_set hN hj hy (pe_dsetd ho (hk.run B) (pe_lst pa_nil) m2) hs1 hf) (pss_cons (ps_if (pt_cmpR (op_notInD hu1) hx1 hv1 hmk) (pss_one (ps_expr (pe_bm PySem.F.plainAttrs_list PySem.F.slot_list_append PySem.F.type_list_append mt_append hv2 (pa_cons hx2 pa_nil hs) hbase hfew hline hs hplain) hs2)) pss_nil) (hrest.run B σ0)))
    fun D σ H ⟨Φ, lim, g, E, r, hkp, hX, q⟩ => ?_, fun D D' g h q => ?_⟩
  · obtain ⟨t00, h00, hd00, q⟩ := atSlot_of q
    obtain ⟨s0, ts0, rfl, hs0, hI⟩ := isDctO_of hd00
    obtain ⟨a0, us0, hv0, _, ha0, _⟩ := r.renew (s' := s0) h00 hs0
    refine ⟨_, hv0, a0, rfl, hI _ _ _ (.inl ha0), Φ, lim, g, E, r, hX σ hkp, hk.mono _ _ _ _ _ (fun τk g1 q1 yv H1 r1 => ?_) (fun _ _ _ z => z) q⟩
    obtain ⟨k, ks, ts, tc, d, rfl, h1, hc, hfc, ⟨hci, hcj, hij, hjl⟩, hd, hsd, hnd, hlt, hsz, qn, qs⟩ := q1
    obtain rfl := r1.leaf
    refine ⟨Nat.zero_le _, fun p hp => ?_⟩
    have r2 : RepG X.K B lim σ (upd H1 p (.lst [])) g1 ((.ref p, .node true .lst []) :: Φ) := make_of .lst (vs := []) (τs := []) rfl r1.dropT hp
    have hjs : j < σ.length := by rw [r2.len]; exact hjl
    have sj : ∀ v, (σ.set j (some v))[j]? = some (some v) := fun v => List.getElem?_set_self hjs
    have sc : ∀ v, (σ.set j (some v))[c]? = σ[c]? := fun v => List.getElem?_set_ne (fun e => hcj e.symm)
    cases e : ixK ks (.inl k) with
    | some n =>
      obtain ⟨l, ds, hn, hl, hsl, hll, q3⟩ := qs n e
      obtain ⟨a, us, a3, us3, w, hv, hlu, ha, hun, ha3, hl3, hw, hdl, hdc, r3⟩ := RepG.appChild r2.dropT h1 (fun z => by cases z) hn hc hfc
      rw [hv0] at hv
      cases hv
      have ev := val_ix (k := (.inl k : Key)) (ks := ks) (vs := us) (by rw [hlu, hlt])
      rw [e] at ev
      have ev : valV (ks.zip us) (.inl k : Key) = us[n]? := ev
      refine ⟨_, .inl k, ha, rfl, by rw [List.length_zip]; omega, fun v hv => ?_, fun hv => by rw [ev, hun] at hv; cases hv⟩
      rw [ev, hun] at hv
      cases hv
      refine ⟨w, by rw [sc]; exact hw, _, sj _, d, ds, hdc d hd, hdl ds hl, hsd, hsl, _, rfl, ?_⟩
      cases ea : (ds.any fun z => PyData.eqv z d) with
      | true =>
        rw [ea, if_pos rfl] at q3
        have hset : ts.set n (.node true .lst l) = ts := set_at hn
        rw [hset] at q3
        have hg : g1.set i (some (.node true (.dK ks) ts)) = g1 := set_at h1
        rw [hg] at q3
        rw [if_neg (by simp)]
        exact ⟨Φ, lim, _, E, r2.dropT.clear j _, hkp.set hm, hX, q3.out⟩
      | false =>
        rw [ea, if_neg (by simp)] at q3
        rw [if_pos (by simp)]
        refine ⟨_, sj _, .inl ⟨rfl, us3, SqL.of ha3⟩, w, by rw [sc]; exact hw, _, us3, w, rfl, rfl, ha3, by omega, ?_⟩
        exact ⟨Φ, lim, _, E, r3.clear j _, hkp.set hm, hX, q3.out⟩
    | none =>
      have q3 := qn e
      obtain ⟨a1, us1, hv1', hlu1, hH1, rp⟩ := put_slot (hk := HO.dK) (mk := Sh.dK) (k := (.inl k : Key)) (fun _ _ _ => rfl) (fun _ z => by cases z) r2 h1 hnd hlt
      rw [hv0] at hv1'
      cases hv1'
      have ep : putT Sh.dK ks ts (.inl k : Key) (.node true .lst []) = .node true (.dK (ks ++ [.inl k])) (ts ++ [.node true .lst []]) := by
        unfold putT
        rw [e]
      rw [ep] at rp
      have hi : i < g1.length := (List.getElem?_eq_some_iff.mp h1).1
      have hn2 : (ts ++ [T.node true .lst []])[ts.length]? = some (.node true .lst []) := by simp
      obtain ⟨a, us, a3, us3, w, hv, hlu, ha, hun, ha3, hl3, hw, hdl, hdc, r3⟩ := RepG.appChild (c := c) (tc := tc) rp (List.getElem?_set_self hi) (fun z => by cases z) hn2 (by rw [List.getElem?_set_ne (fun z => hci z.symm)]; exact hc) hfc
      rw [hv0] at hv
      cases hv
      have ea3 : a3 = p := by
        rw [upd_same] at ha
        have e2 : putK (ks.zip us1) (.inl k : Key) (.ref p) = (ks ++ [(.inl k : Key)]).zip us := HO.dK.inj (Option.some.inj ha)
        rw [put_ix hlu1 hnd, e] at e2
        have e2 : (ks ++ [(.inl k : Key)]).zip (us1 ++ [.ref p]) = (ks ++ [(.inl k : Key)]).zip us := e2
        have e3 := congrArg (List.map Prod.snd) e2
        rw [List.map_snd_zip (by simp; omega), List.map_snd_zip (by rw [hlu]; simp; omega)] at e3
        rw [← e3] at hun
        have : (us1 ++ [V.ref p])[ts.length]? = some (.ref p) := by
          rw [List.getElem?_append_right (by omega)]
          have : ts.length - us1.length = 0 := by omega
          rw [this]
          rfl
        rw [this] at hun
        cases hun
        rfl
      subst ea3
      have hv : valV (ks.zip us1) (.inl k : Key) = none := by
        rw [val_ix (k := (.inl k : Key)) hlu1, e]
        rfl
      refine ⟨_, .inl k, hH1, rfl, by rw [List.length_zip]; omega, fun v hv' => (by rw [hv] at hv'; cases hv'), fun _ => ?_⟩
      refine ⟨w, by rw [sc]; exact hw, _, sj _, d, [], hdc d hd, hdl [] (by simp [toPL]), hsd, by decide +kernel, _, rfl, ?_⟩
      dsimp only
      rw [if_pos (show (!([] : List PyData).any fun z => PyData.eqv z d) = true from rfl)]
      refine ⟨_, sj _, .inl ⟨rfl, us3, SqL.of ha3⟩, w, by rw [sc]; exact hw, _, us3, w, rfl, rfl, ha3, ?_, ?_⟩
      · have : us3.length = 0 := hl3
        rw [this]
        decide
      · have e5 : (ts ++ [T.node true .lst []]).set ts.length (T.node true .lst ([] ++ [tc])) = ts ++ [.node true .lst [tc]] := by
          rw [List.set_append_right _ _ (Nat.le_refl _)]
          simp
        rw [e5, List.set_set] at r3
        exact ⟨Φ, lim, _, E, r3.clear j _, hkp.set hm, hX, q3.out⟩
  · exact atSlot_mono (fun t0 q => ⟨q.1, hk.mono _ _ _ _ _ (fun τk g1 ⟨k, ks, ts, tc, d, h1, h2, h3, h4, h5, h6, h7, h8, h9, h10, h11, h12⟩ => ⟨k, ks, ts, tc, d, h1, h2, h3, h4, h5, h6, h7, h8, h9, h10, fun z => ⟨hrest.mono _ _ _ h (h11 z).out⟩, fun n z => by
      obtain ⟨l, ds, k1, k2, k3, k4, k5⟩ := h12 n z
      exact ⟨l, ds, k1, k2, k3, k4, ⟨hrest.mono _ _ _ h k5.out⟩⟩⟩) h.ex q.2⟩) q
end
end DL
set_option Elab.async false
set_option linter.all false
set_option maxRecDepth 100000
set_option maxHeartbeats 4000000
namespace DL
open PySem PySem.Spec PyProof.Rows L2 W
section
variable {X : Cx}
theorem each_ints : ∀ {vs : List Value} {ns : List Int}, IntsAre vs ns → EachIs (fun v (n : Int) => ∃ t, v = Value.int n t) vs ns
  | _, _, .nil => .nil
  | _, _, .cons n t h => .cons ⟨t, rfl⟩ (each_ints h)
theorem ints_each2 : ∀ {vs : List Value} {ns : List Int}, EachIs (fun v (n : Int) => ∃ t, v = Value.int n t) vs ns → IntsAre vs ns
  | _, _, .nil => .nil
  | _, _, .cons ⟨t, e⟩ h => by
    subst e
    exact .cons _ t (ints_each2 h)
theorem cr_sortKI (hc : X.calm = true) (hu : X.A.units + 64 < cLine) : CallR X (.builtin "sorted") (fun xs H Q => ∃ (a : Addr) (kvs : List (Key × V)) (ks : List Int), xs = [.ref a] ∧ Rd H a (.dK kvs) ∧ kvs.map (·.1) = ks.map Sum.inl ∧
    ∀ p, H p = none → Q (.ref p) (upd H p (.lst ((ks.mergeSort fun x y => decide (x ≤ y)).map V.int)))) := by
  intro pins s σ H xs us Q I r q
  obtain ⟨a, kvs, ks, rfl, hd, hks, q⟩ := q
  obtain rfl := Vals.ref1 r
  obtain ⟨z, lo, vs, rel, dd⟩ := dk_rd I.hok hd
  obtain ⟨ep, hat⟩ := dd.dictAt
  have hkeys : vs.map (·.1) = ks.map Sum.inl := rel.keys.symm.trans hks
  have hl : vs.length = ks.length := by
    have := congrArg List.length hkeys
    simpa using this
  have hlk : kvs.length = ks.length := by
    have := congrArg List.length hks
    simpa using this
  refine Calls.call_function_entry PyProof.Rows.kind_sorted PyProof.Rows.plain_sorted PyProof.Rows.entry_sorted (PyProof.Rows.args_sorted1 _) ?_
  unfold Builtin.«sorted»
  refine wpAny_bind (m := checkCount "sorted" 1 1 _) (wpAny_pure ?_)
  refine wpAny_bind (PySem.W.kdu_collect (A := X.A.in1) (PySem.W.kdl_dict (knd := mixKind X.prog X.w) (kvs := vs) (ep := ep) lo) (I.ok.hd hc) hat (by omega) fun h' tk acc hk hacc => ?_)
  have hal : acc.toList.length = ks.length := by rw [Array.length_toList, hacc.1, hl]
  have each : EachIs (fun v (n : Int) => ∃ t, v = Value.int n t) acc.toList ks := by
    have go : ∀ (l : List Value) (m : List Int), l.length = m.length → (∀ (j : Nat) (v : Value) (n : Int), l[j]? = some v → m[j]? = some n → ∃ t, v = Value.int n t) → EachIs (fun v (n : Int) => ∃ t, v = Value.int n t) l m := by
      intro l
      induction l with
      | nil =>
        intro m hm _
        cases m with
        | nil => exact .nil
        | cons _ _ => cases hm
      | cons v l ih =>
        intro m hm h
        cases m with
        | nil => cases hm
        | cons n m => exact .cons (h 0 v n rfl rfl) (ih m (by simpa using hm) fun j v n h1 h2 => h (j + 1) v n (by simpa using h1) (by simpa using h2))
    refine go _ _ hal fun j v n hv hn => ?_
    obtain ⟨k, x, e1, e2⟩ := hacc.2 j v (by rw [← Array.getElem?_toList]; exact hv)
    have e3 : (vs.map (·.1))[j]? = some k := by rw [List.getElem?_map, e1]; rfl
    rw [hkeys, List.getElem?_map, hn] at e3
    obtain rfl : Sum.inl n = k := Option.some.inj e3
    rcases keyIs_shape (show keyIs (Sum.inl n) v = true from e2) with ⟨i, t, ek, ev⟩ | ⟨y, t, ek, ev⟩
    · cases ek
      exact ⟨t, ev⟩
    · cases ek
  have I1 : Inv X pins σ H { s with heap := h', toks := tk } := I.kept hk
  refine wpAny_bind (wpAny_newList ?_ (by omega))
  have hoL : (h'.push (seqObj "list" acc.toList.toArray 0)).get? h'.objs.size = some (seqObj "list" acc.toList.toArray 0) := Heap.get?_push_size _ rfl
  show wpAny _ _ _ _ _ { s with heap := h'.push (seqObj "list" acc.toList.toArray 0), toks := tk }
  refine wpAny_bind (wpAny_holding (list_sort_data2 (s := { s with heap := h'.push (seqObj "list" acc.toList.toArray 0), toks := tk }) (enc := fun n : Int => PyData.int n) (bs := ks) (n := 0) hoL each (each.mono fun v n ⟨t, e⟩ => ⟨[], e ▸ .int _ _, fun z => nomatch z⟩) ?_ ?_ (by omega) (fun n hn => ?_) fun out ho he => ?_))
  · intro d hd d' hd'
    obtain ⟨x, hx, rfl⟩ := List.mem_map.mp hd
    obtain ⟨y, hy, rfl⟩ := List.mem_map.mp hd'
    rfl
  · exact .inr fun d hd => by
      obtain ⟨x, hx, rfl⟩ := List.mem_map.mp hd
      exact ⟨nofun, nofun⟩
  · show X.A.in1.units + 1 + (PyData.int n).depth < cLine
    have : X.A.in1.units = X.A.units + 1 := rfl
    simp only [PyData.depth]
    omega
  · obtain ⟨n, heF⟩ := PyProof.Rows.sortedHeap_at (vs := acc.toList) (out := out.toArray) hoL
    have hle : (W.dataLe false fun n : Int => PyData.int n) = fun x y => decide (x ≤ y) := W.dataLe_int id
    rw [hle] at he
    have hv := ints_each2 he
    have hlen : ((ks.mergeSort fun x y => decide (x ≤ y)).map V.int).length ≤ sizeLine := by
      rw [List.length_map, List.length_mergeSort]
      omega
    refine wpAny_pure ⟨_, rfl, .ref h'.objs.size, upd H h'.objs.size (.lst ((ks.mergeSort fun x y => decide (x ≤ y)).map V.int)), I1.laid (t' := tk) (fun b u e => ?_) (Nat.le_refl _)
      (show ObjOk X.prog X.w _ _ _ (.lst ((ks.mergeSort fun x y => decide (x ≤ y)).map V.int)) from ⟨hlen, out, n, vals_of_ints hv, heF⟩), rfl, q _ (I1.hok.fresh (Nat.le_refl _))⟩
    have hb : b < h'.objs.size := Heap.lt_size e
    rw [PyProof.Rows.sortedHeap_old (Nat.ne_of_lt hb) (by rw [size_push']; exact Nat.lt_succ_of_lt hb)]
    exact Heap.get?_push_of_some _ e
end
section
variable {X : Cx} {W : WX} {e : Expr} {td : DTE} {pos p : Pos}
theorem RepG.addLs {K : PySem.W.Frag} {B : Bs} {lim : List Addr} {σ : L2.St} {H : Hp} {g : Ev} {Φ : Its} (h : RepG K B lim σ H g Φ) : ∀ {vs : List V}, RepG K B lim σ H g (vs.zip (vs.map .leaf) ++ Φ)
  | [] => h
  | v :: vs => RepG.addLeaf (v := v) (RepG.addLs h (vs := vs))
def xSortKI (td : DTE) : DTE := fun g Q E => td g (fun τ g1 => ∃ (ks : List Int) (ts : List T), frz τ = .node false (.dK (ks.map Sum.inl)) ts ∧ ts.length = ks.length ∧ Q (.node true .lst (intsT (ks.mergeSort fun x y => decide (x ≤ y)))) g1) E
theorem d_sortKI (hc : X.calm = true) (hu : X.A.units + 64 < cLine) (hg : Gl X "sorted") (hm : X.mg "sorted" = none) (he : DE X W e td)
    (hs : starEach [e] X.env = (false, eval e X.env) :: starEach [] X.env := by rfl) : DE X W (.Call (.Name "sorted" p) [e] [] pos) (xSortKI td) := by
  refine ⟨fun B => PE.imp (pe_callB (cr_sortKI hc hu) hg hm (by decide +kernel) (pa_cons (he.run B) pa_nil hs) (he := hs)) fun σ H Q ⟨Φ, lim, g, E, r, hx, q⟩ => ?_, fun g Q Q' E E' hq hE q => he.mono _ _ _ _ _ (fun τ g1 ⟨k, ts, e, h, z⟩ => ⟨k, ts, e, h, hq _ _ z⟩) hE q⟩
  refine ⟨Φ, lim, g, E, r, hx, he.mono _ _ _ _ _ (fun τ g1 ⟨ks, ts, e1, hl, q1⟩ v H1 r1 => ?_) (fun _ _ _ z => z) q⟩
  have r2 := r1.freezeT
  rw [e1] at r2
  obtain ⟨a, us, rfl, hlu, ha⟩ := RepG.nodeH r2 (fun z => by cases z)
  refine ⟨a, _, ks, rfl, .inl ha, ?_, fun p hp => ?_⟩
  · rw [List.map_fst_zip (by rw [List.length_map]; omega)]
  · refine q1 _ _ (make_of .lst (vs := (ks.mergeSort fun x y => decide (x ≤ y)).map V.int) (by simp) ?_ hp)
    rw [intsT_eq]
    exact RepG.addLs r2.dropT
end
end DL
set_option Elab.async false
set_option linter.all false
set_option maxRecDepth 100000
set_option maxHeartbeats 4000000
namespace DL
open PySem PySem.Spec PyProof.Rows L2 W
def Grow (H H' : Hp) : Prop := ∀ b o, H b = some o → H' b = some o
theorem Grow.rd {H H' : Hp} (h : Grow H H') {a : Addr} {o : HO} (r : Rd H a o) : Rd H' a o := r.elim (fun e => .inl (h _ _ e)) fun ⟨k, e⟩ => .inr ⟨k, h _ _ e⟩
section
variable {K : PySem.W.Frag} {H H' : Hp}
theorem Grow.sqL (h : Grow H H') {a : Addr} {vs : List V} (r : SqL K H a vs) : SqL K H' a vs := r.elim (fun e => .inl (h.rd e)) .inr
theorem Grow.sqT (h : Grow H H') {a : Addr} {vs : List V} (r : SqT K H a vs) : SqT K H' a vs := r.elim (fun e => .inl (h.rd e)) .inr
mutual
theorem Grow.dp (h : Grow H H') : ∀ (d : PyData) {v : V}, Dp K H v d → Dp K H' v d
  | .none, _, q => by cases q; exact .non
  | .bool _, _, q => by cases q; exact .bl _
  | .int _, _, q => by cases q; exact .int _
  | .str _, _, q => by cases q; exact .str _
  | .list ds, _, q => by
    cases q with
    | lst hs ha => exact .lst (h.sqL hs) (Grow.dps h ds ha)
  | .tuple ds, _, q => by
    cases q with
    | tup hs ha => exact .tup (h.sqT hs) (Grow.dps h ds ha)
  | .dict _, _, q => by cases q
theorem Grow.dps (h : Grow H H') : ∀ (ds : List PyData) {vs : List V}, DpAll K H vs ds → DpAll K H' vs ds
  | [], _, q => by cases q; exact .nil
  | d :: ds, _, q => by
    cases q with
    | cons a b => exact .cons (Grow.dp h d a) (Grow.dps h ds b)
end
theorem dps_snoc : ∀ {vs : List V} {ds : List PyData} {v : V} {d : PyData}, DpAll K H vs ds → Dp K H v d → DpAll K H (vs ++ [v]) (ds ++ [d])
  | _, _, _, _, .nil, h => .cons h .nil
  | _, _, _, _, .cons a b, h => .cons a (dps_snoc b h)
theorem vals_snoc : ∀ {vs : List V} {us : List Value} {v : V} {u : Value}, Vals vs us → RelV v u → Vals (vs ++ [v]) (us ++ [u])
  | _, _, _, _, .nil, h => .cons h .nil
  | _, _, _, _, .cons a b, h => .cons a (vals_snoc b h)
end
section
variable {X : Cx} {k : Nat} {f : Addr} {fd : FuncData} {ps : List Str} {sp : Sp}
theorem fp_at {pins : List (Addr × Obj)} {H H' : Hp} {b : Addr} (h : FpOk X pins H b) (hn : H' b = none) : FpOk X pins H' b := ⟨hn, h.2⟩
theorem fp_more {pins : List (Addr × Obj)} {H : Hp} {b c : Addr} {o : Obj} (h : FpOk X pins H b) (hn : c ≠ b) : FpOk X (pins ++ [(c, o)]) H b := by
  obtain ⟨h1, h2, h3, h4, h5, h6⟩ := h
  refine ⟨h1, h2, h3, h4, h5, fun p hp => ?_⟩
  rw [← List.append_assoc] at hp
  rcases List.mem_append.mp hp with z | z
  · exact h6 p z
  · rw [List.mem_singleton.mp z]
    exact hn
theorem pin_one {pins : List (Addr × Obj)} {σ : L2.St} {H : Hp} {s : Shared} {b : Addr} {o : Obj} (I : Inv X pins σ H s) (h : FpOk X pins H b) (e : s.heap.get? b = some o) (hd : ∀ v, o.data ≠ .cell v) : Inv X (pins ++ [(b, o)]) σ H s :=
  I.pins_of fun p hp => (List.mem_append.mp hp).elim (fun z => I.pin p (List.mem_append_right _ z)) fun z => by
    rw [List.mem_singleton.mp z]
    exact ⟨e, h.1, h.2.1, h.2.2.1, hd⟩
theorem unpin_one {pins : List (Addr × Obj)} {σ : L2.St} {H : Hp} {s : Shared} {b : Addr} {o : Obj} (I : Inv X (pins ++ [(b, o)]) σ H s) : Inv X pins σ H s ∧ s.heap.get? b = some o ∧ H b = none :=
  ⟨I.unpinned, (I.pin (b, o) (List.mem_append_right _ (List.mem_append_right _ (List.mem_singleton.mpr rfl)))).1, (I.pin (b, o) (List.mem_append_right _ (List.mem_append_right _ (List.mem_singleton.mpr rfl)))).2.1⟩
theorem key_turn {pins : List (Addr × Obj)} {σ : L2.St} {H : Hp} {s : Shared} {u : V} {w : Value} {Q : VK} {E : Value → Shared → Prop} (F : FnG X.prog X.w X.K X.mg X.base k f fd ps sp) (hr : Room (k + 2) X.A) (hgd : X.A.guards = some []) (hb : Binds X.K fd ps []) (I : Inv X pins σ H s) (r : RelV u w)
    (h : sp [u] H Q (fun _ _ _ => False)) : wpAny (model X.prog X.w) X.A.in1.in1 (call (.ref f) [w]) (EP X pins σ Q) E s := by
  have b := hb s [w] I.kIn (by rw [List.append_nil]; exact F.len _ _ _ _ h)
  rw [List.append_nil] at b
  refine wpAny_call (codeAny_mono (F.run X.A.in1.in1 X.stack s H ⟨[w], []⟩ [w] [u] Q (fun _ _ _ => False) hr.in1.in1 hgd I.env0.in1.in1 b (.cons r .nil) h) fun rr s' z => ?_)
  match rr, z with
  | .error e, z =>
    obtain ⟨_, _, _, _, _, _, _, _, _, _, _, _, q⟩ := z
    exact q.elim
  | .ok (.ret v), z => exact I.after z
theorem key_rest {pins : List (Addr × Obj)} {σ : L2.St} {H : Hp} {s : Shared} {a kS : Addr} {vs : List Value} {us : List V} {ds : List PyData} {e1 : Nat} {P : PySem.Fin → Shared → Prop} {E : Value → Shared → Prop} (F : FnG X.prog X.w X.K X.mg X.base k f fd ps sp) (hr : Room (k + 2) X.A) (hgd : X.A.guards = some []) (hb : Binds X.K fd ps []) (I : Inv X pins σ H s)
    (fa : FpOk X pins H a) (fk : FpOk X pins H kS) (hne : a ≠ kS) (nk : s.heap.get? kS = some (seqObj "list" #[] 0)) (na : s.heap.get? a = some (seqObj "list" #[] e1)) (rv : Vals us vs) (hlen : ds.length = us.length) (hz : us.length ≤ sizeLine) (hal : AllAlike ds) (hsk : Sortable2 ds) (hu : ∀ d, d ∈ ds → X.A.in1.in1.units + d.depth < cLine)
    (turn : ∀ (i : Nat) (u : V) (d : PyData), us[i]? = some u → ds[i]? = some d → ∀ H', Grow H H' → sp [u] H' (fun v H2 => Grow H' H2 ∧ Dp X.K H2 v d) (fun _ _ _ => False))
    (h : ∀ H' s' out c, Inv X pins σ H' s' → Grow H H' → FpOk X pins H' a → s'.heap.get? a = some (seqObj "list" (List.toArray out) c) → KeyedOut false ds vs out → P (.done (.ret .none)) s') :
    wpAny (model X.prog X.w) X.A.in1.in1 (ksk_rest a (.ref f) false vs.toArray e1 (.ref kS)) P E s := by
  have hvl : us.length = vs.length := rv.length
  unfold ksk_rest
  refine wpAny_bind (wpAny_rule ?_)
  first
    | rw [List.forIn_toArray]
    | (rw [← Array.forIn_toList]; simp only [List.toList_toArray])
  refine wpAny_bind (ksk_fold (fun i s' => ∃ H1 kA e ws, Inv X (pins ++ [(a, seqObj "list" #[] e1)] ++ [(kS, seqObj "list" kA e)]) σ H1 s' ∧ Grow H H1 ∧ Vals ws kA.toList ∧ DpAll X.K H1 ws (ds.take i)) vs 0 s ?start ?step ?done)
  case start => exact ⟨H, #[], 0, [], pin_one (pin_one I fa na nofun) (fp_more fk hne) nk nofun, fun _ _ z => z, .nil, by rw [List.take_zero]; exact .nil⟩
  case step =>
    rintro j x s1 hx ⟨H1, kA, e, ws, I1, hg, hw, hd⟩
    simp only [Nat.zero_add] at hd ⊢
    have hj : j < vs.length := (List.getElem?_eq_some_iff.mp hx).1
    obtain ⟨d, hdj⟩ : ∃ d, ds[j]? = some d := ⟨_, List.getElem?_eq_getElem (by omega)⟩
    obtain ⟨u, huj, hux⟩ : ∃ u, us[j]? = some u ∧ RelV u x := by
      have go : ∀ {us : List V} {vs : List Value}, Vals us vs → ∀ (j : Nat) (x : Value), vs[j]? = some x → ∃ u, us[j]? = some u ∧ RelV u x := by
        intro us vs h
        induction h with
        | nil => intro j x h; simp at h
        | cons h1 _ ih =>
          intro j x h
          cases j with
          | zero =>
            cases h
            exact ⟨_, rfl, h1⟩
          | succ j => exact ih j x (by simpa using h)
      exact go rv j x hx
    have hwl : kA.size ≤ vs.length := by
      have h1 := hw.length
      have h2 := dpAll_len hd
      have h3 : kA.toList.length = kA.size := Array.length_toList
      rw [List.length_take] at h2
      have h4 := Nat.min_le_left j ds.length
      omega
    refine wpAny_bind (wpAny_attempt (wpAny_mono (key_turn (Q := fun v H2 => Grow H1 H2 ∧ Dp X.K H2 v d) F hr hgd hb I1 hux (turn j u d huj hdj H1 hg)) (fun v s2 he => ?_) fun _ _ z => z))
    obtain ⟨y, H2, I2, ry, hg2, hdy⟩ := he
    try dsimp only
    obtain ⟨I3, nk2, hk2⟩ := unpin_one I2
    have fk2 : FpOk X (pins ++ [(a, seqObj "list" #[] e1)]) H2 kS := fp_at (fp_more fk hne) hk2
    obtain ⟨c2, hc2⟩ : ∃ c2, (s2.heap.update kS (Obj.mapSeq (·.push v))).get? kS = some (seqObj "list" (kA.push v) c2) := ⟨_, get?_update_seq nk2 (·.push v)⟩
    have sb := Heap.SameBut.update s2.heap kS (Obj.mapSeq (·.push v))
    refine wpAny_bind (listUpdate_at nk2 rfl ?_ (by omega) (by rw [Array.size_push]; omega))
    refine wpAny_pure ⟨rfl, H2, kA.push v, c2, ws ++ [y], ?_, fun b o z => hg2 b o (hg b o z), ?_, ?_⟩
    · refine pin_one ?_ fk2 hc2 nofun
      exact I3.turnedL (ch := [kS]) (t' := s2.toks) (fun b o hb e => (sb.2 b (fun z => hb (by simp [z]))).trans e) fun b hb => by
        rw [List.mem_singleton.mp hb]
        exact fk2
    · rw [Array.toList_push]
      exact vals_snoc hw ry
    · have ek : ds.take (j + 1) = ds.take j ++ [d] := by rw [List.take_add_one, hdj]; rfl
      rw [ek]
      exact dps_snoc (hg2.dps _ hd) hdy
  case done =>
    rintro s1 ⟨H1, kA, e, ws, I1, hg, hw, hd⟩
    obtain ⟨I2, nk2, hk2⟩ := unpin_one I1
    obtain ⟨I3, na2, ha2⟩ := unpin_one I2
    have e3 : ds.take (0 + vs.length) = ds := List.take_of_length_le (by omega)
    rw [e3] at hd
    have hk' : EachIs (fun v d => ∃ as, Reads s1.heap v d as) kA.toList ds := by
      have go : ∀ {ws : List V} {ds : List PyData}, DpAll X.K H1 ws ds → ∀ {vs : List Value}, Vals ws vs → EachIs (fun v d => ∃ as, Reads s1.heap v d as) vs ds := by
        intro ws ds h
        induction ws generalizing ds with
        | nil =>
          intro vs r
          cases h
          cases r
          exact .nil
        | cons w ws ih =>
          intro vs r
          cases h with
          | cons h1 h2 =>
            cases r with
            | cons r1 r2 => exact .cons (Dp.reads I3 _ _ _ h1 r1) (ih h2 r2)
      exact go hd hw
    have hsz : kA.size = vs.length := by
      have h1 := hk'.length
      rw [Array.length_toList] at h1
      omega
    try dsimp only
    refine wpAny_bind (listItems_at nk2 rfl ?_)
    obtain ⟨G, g1, g2⟩ := L2.restrict s1.heap fun b => b != kS
    have kp : KeepsBut a G s1.heap := fun b o hb e => by
      by_cases z : b = kS
      · rw [g2 b (by simp [z])] at e
        cases e
      · rw [← g1 b (by simpa using z)]
        exact e
    refine keyH_end (κ := dataKind s1.heap ds) (h₁ := G) kp (g2 kS (by simp)) nk2 na2 hne.symm (sortsAt2 hk' hal hsk hu) hsz (by omega) fun h3 tk c k3 n3 => ?_
    refine h H1 { s1 with heap := h3, toks := tk } _ c ?_ hg (fp_at fa ha2) n3 ⟨s1.heap, kA.toList, hal, rfl, hk'⟩
    refine I3.turnedL (ch := [kS, a]) (fun b o hb e => ?_) fun b hb => ?_
    · have n1 : b ≠ kS := fun z => hb (by simp [z])
      have n2 : b ≠ a := fun z => hb (by simp [z])
      exact k3 b o n2 (by rw [g1 b (by simpa using n1)]; exact e)
    · simp only [List.mem_cons, List.not_mem_nil, or_false] at hb
      rcases hb with rfl | rfl
      · exact fp_at fk hk2
      · exact fp_at fa ha2
theorem key_tree {pins : List (Addr × Obj)} {σ : L2.St} {H : Hp} {s : Shared} {a : Addr} {vs : List Value} {us : List V} {ds : List PyData} {n : Nat} {P : PySem.Fin → Shared → Prop} {E : Value → Shared → Prop} (F : FnG X.prog X.w X.K X.mg X.base k f fd ps sp) (hr : Room (k + 2) X.A) (hgd : X.A.guards = some []) (hb : Binds X.K fd ps []) (I : Inv X pins σ H s)
    (fa : FpOk X pins H a) (na : s.heap.get? a = some (seqObj "list" vs.toArray n)) (rv : Vals us vs) (hlen : ds.length = us.length) (hz : us.length ≤ sizeLine) (hal : AllAlike ds) (hsk : Sortable2 ds) (hu : ∀ d, d ∈ ds → X.A.in1.in1.units + d.depth < cLine)
    (turn : ∀ (i : Nat) (u : V) (d : PyData), us[i]? = some u → ds[i]? = some d → ∀ H', Grow H H' → sp [u] H' (fun v H2 => Grow H' H2 ∧ Dp X.K H2 v d) (fun _ _ _ => False))
    (h : ∀ H' s' out c, Inv X pins σ H' s' → Grow H H' → FpOk X pins H' a → s'.heap.get? a = some (seqObj "list" (List.toArray out) c) → KeyedOut false ds vs out → P (.done (.ret .none)) s') :
    wpAny (model X.prog X.w) X.A.in1.in1 (ksk_tree a (.ref f) false) P E s := by
  have hvl : us.length = vs.length := rv.length
  have lta : a < s.heap.objs.size := Heap.lt_size na
  obtain ⟨e1, he1⟩ : ∃ e1, (s.heap.update a (Obj.mapSeq fun _ => (#[] : Array Value))).get? a = some (seqObj "list" #[] e1) := ⟨_, get?_update_seq na fun _ => #[]⟩
  have sz1 : ((s.heap.update a (Obj.mapSeq fun _ => (#[] : Array Value))).push (seqObj "tuple" vs.toArray 0)).objs.size = s.heap.objs.size + 1 := by rw [size_push', Heap.size_update]
  have sb := Heap.SameBut.update s.heap a (Obj.mapSeq fun _ => (#[] : Array Value))
  unfold ksk_tree
  refine wpAny_bind (listItems_at na rfl ?_)
  refine wpAny_bind (listUpdate_at na rfl ?_ (by rw [List.size_toArray]; omega) (Nat.zero_le _))
  refine wpAny_bind (seqEpoch_at he1 rfl ?_)
  refine wpAny_bind (wpAny_newTuple ?_ (by show vs.length ≤ _; omega))
  refine wpAny_bind (wpAny_newList ?_ (Nat.zero_le _))
  refine wpAny_holding ?_
  have I1 : Inv X pins σ H { s with heap := ((s.heap.update a (Obj.mapSeq fun _ => (#[] : Array Value))).push (seqObj "tuple" vs.toArray 0)).push (seqObj "list" #[] 0), toks := s.toks } :=
    I.turnedL (ch := [a]) (fun b o hb' e => Heap.get?_push_of_some _ (Heap.get?_push_of_some _ ((sb.2 b (fun z => hb' (by simp [z]))).trans e))) fun b hb' => by
      rw [List.mem_singleton.mp hb']
      exact fa
  refine key_rest (kS := ((s.heap.update a (Obj.mapSeq fun _ => (#[] : Array Value))).push (seqObj "tuple" vs.toArray 0)).objs.size) F hr hgd hb I1 fa (I.fpOk (by rw [sz1]; omega) (I.hok.fresh (by rw [sz1]; omega))) (Nat.ne_of_lt (by rw [sz1]; exact Nat.lt_succ_of_lt lta))
    (Heap.get?_push_size _ rfl) (Heap.get?_push_of_some _ (Heap.get?_push_of_some _ he1)) rv hlen hz hal hsk hu turn h
theorem cr_sortKey (F : FnG X.prog X.w X.K X.mg X.base k f fd ps sp) (hr : Room (k + 2) X.A) (hgd : X.A.guards = some []) (hb : Binds X.K fd ps []) : CallRK X (.builtin "sorted") [Str.ofString "key"] (fun xs zs H Q => ∃ (a : Addr) (us : List V) (ds : List PyData), xs = [.ref a] ∧ zs = [.ref f] ∧ SqL X.K H a us ∧
    ds.length = us.length ∧ AllAlike ds ∧ Sortable2 ds ∧ (∀ d ∈ ds, d.depth ≤ 40) ∧ (∀ (i : Nat) (u : V) (d : PyData), us[i]? = some u → ds[i]? = some d → ∀ H', Grow H H' → sp [u] H' (fun v H2 => Grow H' H2 ∧ Dp X.K H2 v d) (fun _ _ _ => False)) ∧
    ∀ p H', Grow H H' → H' p = none → Q (.ref p) (upd H' p (.lst (((us.zip ds).mergeSort (dataLe false fun z => z.2)).map (·.1))))) := by
  intro pins s σ H xs zs us0 ws0 Q I r1 r2 h
  obtain ⟨a, us, ds, rfl, rfl, hs, hlen, hal, hsk, hdp, turn, q⟩ := h
  obtain rfl := Vals.ref1 r1
  obtain rfl := Vals.ref1 r2
  obtain ⟨its, rv, hl, hz⟩ := I.list hs
  have hvl : us.length = its.length := rv.length
  refine sorted_of_sort hl.isList (by omega) (ksk_s1 _ _) (fun _ => ksk_l1 _ _) fun E' => ?_
  have ht : Builtin.«list.sort» ⟨[.ref (s.heap.objs.size + 1)], [(Str.ofString "key", .ref f)]⟩ = ksk_tree (s.heap.objs.size + 1) (.ref f) false := ksk_t1 _ _
  show wpAny _ _ (Builtin.«list.sort» ⟨[.ref (s.heap.objs.size + 1)], [(Str.ofString "key", .ref f)]⟩) _ _ _
  rw [ht]
  have hn : H (s.heap.objs.size + 1) = none := I.hok.fresh (Nat.le_succ _)
  have fp0 : FpOk X pins H (s.heap.objs.size + 1) := I.fpOk (Nat.le_succ _) hn
  have un : X.A.in1.in1.units = X.A.units + 2 := rfl
  have hrn := hr.un
  refine key_tree (s := { s with heap := copyHeap s.heap its, toks := s.toks }) F hr hgd hb (I.kept fun b o e => copyHeap_old e) fp0 (copyHeap_at s.heap its) rv hlen hz hal hsk (fun d hd => by have := hdp d hd; omega) turn fun H' s' out c I' hg fa ho ko => ⟨rfl, ?_⟩
  have em : (us.zip ds).map (·.2) = ds := List.map_snd_zip (by omega)
  have e1 : EachIs (fun v (z : V × PyData) => RelV z.1 v) its (us.zip ds) := by
    have go : ∀ {us : List V} {vs : List Value}, Vals us vs → ∀ {ds : List PyData}, ds.length = us.length → EachIs (fun v (z : V × PyData) => RelV z.1 v) vs (us.zip ds) := by
      intro us vs h
      induction h with
      | nil => intro ds _; exact .nil
      | cons h1 _ ih =>
        intro ds hd
        cases ds with
        | nil => cases hd
        | cons d ds => exact .cons h1 (ih (by simpa using hd))
    exact go rv hlen
  rw [← em] at ko
  have ho2 := vals_each (keyedOut_each (fun z : V × PyData => z.2) ko e1)
  have hol : (((us.zip ds).mergeSort (dataLe false fun z : V × PyData => z.2)).map (·.1)).length ≤ sizeLine := by
    rw [List.length_map, List.length_mergeSort, List.length_zip]
    omega
  exact ⟨.ref _, upd H' (s.heap.objs.size + 1) (.lst (((us.zip ds).mergeSort (dataLe false fun z : V × PyData => z.2)).map (·.1))), I'.take (t' := s'.toks) (fun _ _ _ e => e) fa ⟨hol, out, c, ho2, ho⟩, rfl, q _ H' hg fa.1⟩
end
end DL
set_option Elab.async false
set_option linter.all false
set_option maxRecDepth 100000
set_option maxHeartbeats 4000000
namespace DL
open PySem PySem.Spec PyProof.Rows L2 W
section
variable {X : Cx} {W : WX} {e : Expr} {te : DTE} {pos p p2 kp : Pos} {x : Str}
theorem RepG.arg {K : PySem.W.Frag} {B : Bs} {lim : List Addr} {σ : L2.St} {H : Hp} {g : Ev} {Φ : Its} {u : V} {t : T} (r : RepG K B lim σ H g ((u, t) :: Φ)) (hf : frz t = t) : ∃ F : Addr → Prop, OwnP K F H u t [] ∧ ∀ a, F a → H a ≠ none := by
  obtain ⟨F, zs, fp, en, o, f, hl⟩ := r
  obtain ⟨fp', pf, o'⟩ := o.perm (List.perm_middle (a := (u, t)))
  obtain ⟨f1, f2, rfl, p1, o2⟩ := OwnZ.uncons (zs := zs ++ Φ) o'
  obtain rfl := p1.nofp _ hf
  exact ⟨F, p1, f.trk⟩
def xSortKey (sp : DSp) (te : DTE) : DTE := fun g Q E => te g (fun τ g1 => ∃ (o : Bool) (ts : List T) (β : Type) (bs : List β) (enc key : β → T) (dat : β → PyData) (le : β → β → Bool), τ = .node o .lst ts ∧ frzL ts = bs.map enc ∧
  (∀ b ∈ bs, toP (key b) = some (dat b) ∧ ∀ Q' : T → List T → Prop, Q' (key b) [] → sp [enc b] Q' (fun _ _ _ => False)) ∧ AllAlike (bs.map dat) ∧ Sortable2 (bs.map dat) ∧ (∀ b ∈ bs, (dat b).depth ≤ 40) ∧ (∀ a ∈ bs, ∀ b ∈ bs, dataLe false dat a b = le a b) ∧
  Q (.node true .lst ((bs.mergeSort le).map enc)) g1) E
theorem d_sortKey {k : Nat} {f : Addr} {fd : FuncData} {ps : List Str} {sp : DSp} (F : FnG X.prog X.w X.K X.mg X.base k f fd ps (spD X.K X.mg [false] sp)) (hm : MonoD sp) (hr : Room (k + 2) X.A) (hgd : X.A.guards = some []) (hb : Binds X.K fd ps []) (hg : Gl X "sorted") (hs0 : X.mg "sorted" = none) (hgf : Gl X x) (hmf : X.mg x = some (.ref f)) (he : DE X W e te)
    (hs : starEach [e] X.env = (false, eval e X.env) :: starEach [] X.env := by rfl) (hdb : (x == ("__debug__" : Str)) = false := by decide)
    (hb1 : backTo pos (starEach [e] X.env) = (false, eval e X.env) :: backTo pos (starEach [] X.env) := by rfl) (hb2 : (backTo pos (starEach [e] X.env)).any (·.1) = false := by rfl) : DE X W (.Call (.Name "sorted" p) [e] [⟨some "key", .Name x p2, kp⟩] pos) (xSortKey sp te) := by
  refine ⟨fun B => PE.imp (pe_callBK (cr_sortKey F hr hgd hb) hg hs0 (by decide +kernel) (pa_cons (he.run B) pa_nil hs) (pk_cons (pe_glob (v := .ref f) hgf hmf rfl hdb) pk_nil) (he := hb1) (hpl := hb2)) fun σ H Q ⟨Φ, lim, g, E, r, hx, q⟩ => ?_,
    fun g Q Q' E E' hq hE q => he.mono _ _ _ _ _ (fun τ g1 ⟨o, ts, β, bs, enc, key, dat, le, h1, h2, h3, h4, h5, h6, h7, z⟩ => ⟨o, ts, β, bs, enc, key, dat, le, h1, h2, h3, h4, h5, h6, h7, hq _ _ z⟩) hE q⟩
  refine ⟨Φ, lim, g, E, r, hx, he.mono _ _ _ _ _ (fun τ g1 q1 v H1 r1 => ?_) (fun _ _ _ z => z) q⟩
  obtain ⟨o, ts, β, bs, enc, key, dat, le, rfl, e1, e2, e3, e4, e5, e6, q2⟩ := q1
  have r1' : RepG X.K B lim σ H1 g1 ((v, frz (.node o .lst ts)) :: Φ) := RepG.freezeT r1
  have r2 : RepG X.K B lim σ H1 g1 ((v, .node false .lst (bs.map enc)) :: Φ) := by
    rw [frz_node, e1] at r1'
    exact r1'
  have efz : ∀ (i : Nat) (b : β), bs[i]? = some b → frz (enc b) = enc b := fun i b hb => by
    have : (frzL ts)[i]? = some (enc b) := by rw [e1, List.getElem?_map, hb]; rfl
    exact frzL_get this
  obtain ⟨a, us, rfl, hl2, hr2, r3⟩ := r2.kids
  have hlb : us.length = bs.length := by rw [hl2, List.length_map]
  refine ⟨a, us, bs.map dat, rfl, rfl, seqL hr2, by rw [List.length_map]; omega, e3, e4, fun d hd => ?_, fun i u d hu hd H2 gr => ?_, fun p H2 gr hp => q2 _ _ ?_⟩
  · obtain ⟨b, hb, rfl⟩ := List.mem_map.mp hd
    exact e5 b hb
  · rw [List.getElem?_map] at hd
    cases hb : bs[i]? with
    | none => rw [hb] at hd; cases hd
    | some b =>
      rw [hb] at hd
      cases hd
      have hz : (us.zip (bs.map enc))[i]? = some (u, enc b) := by
        rw [List.getElem?_zip_eq_some]
        exact ⟨hu, by rw [List.getElem?_map, hb]; rfl⟩
      have r4 : RepG X.K B lim σ H2 g1 ((u, enc b) :: ((V.ref a, T.node false .lst (bs.map enc)) :: Φ)) := ((r3.grow gr).one hz)
      obtain ⟨F0, p0, trk⟩ := r4.arg (efz i b hb)
      obtain ⟨k1, k2⟩ := e2 b (List.mem_of_getElem? hb)
      refine ⟨[enc b], F0, [], .cons (fp := []) p0 .nil, .nil, nofun, trk, rfl, ?_⟩
      refine hm _ _ _ _ _ (fun _ _ z => z) (fun _ _ _ z => z.elim) (k2 _ fun v H3 aft => ?_)
      obtain ⟨F', f', _, oz, fn⟩ := aft
      refine ⟨fun b o e => fn.keep b o e nofun, ?_⟩
      obtain ⟨f1, f2, _, pv, _⟩ := OwnZ.uncons (zs := []) oz
      exact OwnP.dp _ pv k1
  · have hz1 : (us.zip bs).map (·.1) = us := List.map_fst_zip (by omega)
    have hz2 : (us.zip bs).map (·.2) = bs := List.map_snd_zip (by omega)
    obtain ⟨zs, hzs⟩ : ∃ zs : List (V × β), zs = us.zip bs := ⟨_, rfl⟩
    rw [← hzs] at hz1 hz2
    have hmz : ∀ z ∈ zs, z.2 ∈ bs := fun z h => by
      rw [← hz2]
      exact List.mem_map_of_mem h
    have ed2 : us.zip (bs.map dat) = zs.map fun z => (z.1, dat z.2) := by
      rw [← hz1, ← hz2, List.map_map, zip_maps]
      rfl
    have et2 : us.zip (bs.map enc) = zs.map fun z => (z.1, enc z.2) := by
      rw [← hz1, ← hz2, List.map_map, zip_maps]
      rfl
    have s1 : (zs.mergeSort fun x y => le x.2 y.2).map (fun z => (z.1, dat z.2)) = (us.zip (bs.map dat)).mergeSort (dataLe false fun z => z.2) := by
      rw [ed2]
      exact sort_maps _ fun x hx y hy => (e6 _ (hmz x hx) _ (hmz y hy)).symm
    have s2 : (zs.mergeSort fun x y => le x.2 y.2).map (·.2) = bs.mergeSort le := by
      rw [← hz2]
      exact sort_maps _ fun x hx y hy => rfl
    rw [← s1, ← s2, List.map_map, List.map_map]
    have e7 : ((fun z : V × PyData => z.1) ∘ fun z : V × β => (z.1, dat z.2)) = fun z : V × β => z.1 := rfl
    rw [e7]
    refine make_of .lst (by simp) ?_ hp
    have e8 : ((zs.mergeSort fun x y => le x.2 y.2).map (fun z : V × β => z.1)).zip ((zs.mergeSort fun x y => le x.2 y.2).map (enc ∘ fun z : V × β => z.2)) = (zs.mergeSort fun x y => le x.2 y.2).map fun z => (z.1, enc z.2) := by
      rw [zip_maps]
      rfl
    rw [e8]
    have r4 : RepG X.K B lim σ H2 g1 (us.zip (bs.map enc) ++ Φ) := ((r3.grow gr).perm List.perm_middle).dropT
    rw [et2] at r4
    exact r4.perm (List.Perm.append_right _ ((List.mergeSort_perm _ _).map _).symm)
end
end DL
namespace DL
open PySem PySem.Spec PyProof.Rows L2 W
def xFz (te : DTE) : DTE := fun g Q E => te g (fun τ g1 => Q (frz τ) g1) E
theorem d_fz {X : Cx} {W : WX} {e : Expr} {te : DTE} (he : DE X W e te) : DE X W e (xFz te) :=
  ⟨fun B => PE.imp (he.run B) fun σ H Q ⟨Φ, lim, g, E, r, hx, q⟩ => ⟨Φ, lim, g, E, r, hx, he.mono _ _ _ _ _ (fun τ g1 q1 v H1 r1 => q1 v H1 r1.freezeT) (fun _ _ _ z => z) q⟩, fun g Q Q' E E' hq hE q => he.mono _ _ _ _ _ (fun τ g1 q1 => hq _ _ q1) hE q⟩
end DL
set_option Elab.async false
set_option linter.all false
set_option maxRecDepth 100000
set_option maxHeartbeats 4000000
namespace L31
open PySem L2 DL
def top (i : Nat) : Stmt := PySem.Challenge.pw_wholepoll_k31_tellings_that_stand.main.body.getD i (.Pass ⟨0, 0, 0, 0⟩)
abbrev s_telling_key : Stmt := top 1
def N_telling_key : List Str := ["telling"]
theorem sc_telling_key : FnScope N_telling_key ["telling"] (defScope s_telling_key) := ⟨rfl, rfl, rfl, by decide +kernel, rfl, by decide +kernel, by decide +kernel⟩
abbrev s_by_numbers : Stmt := top 2
def N_by_numbers : List Str := ["things", "found", "thing", "alike"]
theorem sc_by_numbers : FnScope N_by_numbers ["things"] (defScope s_by_numbers) := ⟨rfl, rfl, rfl, by decide +kernel, rfl, by decide +kernel, by decide +kernel⟩
abbrev s_alone : Stmt := top 3
def N_alone : List Str := ["things", "some"]
theorem sc_alone : FnScope N_alone ["things"] (defScope s_alone) := ⟨rfl, rfl, rfl, by decide +kernel, rfl, by decide +kernel, by decide +kernel⟩
abbrev s_standing : Stmt := top 4
def N_standing : List Str := ["tellings"]
theorem sc_standing : FnScope N_standing ["tellings"] (defScope s_standing) := ⟨rfl, rfl, rfl, by decide +kernel, rfl, by decide +kernel, by decide +kernel⟩
abbrev s_clashing : Stmt := top 5
def N_clashing : List Str := ["tellings", "number", "some"]
theorem sc_clashing : FnScope N_clashing ["tellings"] (defScope s_clashing) := ⟨rfl, rfl, rfl, by decide +kernel, rfl, by decide +kernel, by decide +kernel⟩
abbrev s__law_bag : Stmt := top 7
def N__law_bag : List Str := ["_law_script", "_law_cell"]
theorem sc__law_bag : FnScope N__law_bag ["_law_script"] (defScope s__law_bag) := ⟨rfl, rfl, rfl, by decide +kernel, rfl, by decide +kernel, by decide +kernel⟩
abbrev s__law_take : Stmt := top 8
def N__law_take : List Str := ["_law_bag_here", "_law_many", "_law_early", "_law_second", "_law_cell", "_law_mixed_here", "_law_drawn"]
theorem sc__law_take : FnScope N__law_take ["_law_bag_here", "_law_many"] (defScope s__law_take) := ⟨rfl, rfl, rfl, by decide +kernel, rfl, by decide +kernel, by decide +kernel⟩
abbrev s__law_one : Stmt := top 9
def N__law_one : List Str := ["_law_bag_here", "_law_some"]
theorem sc__law_one : FnScope N__law_one ["_law_bag_here", "_law_some"] (defScope s__law_one) := ⟨rfl, rfl, rfl, by decide +kernel, rfl, by decide +kernel, by decide +kernel⟩
abbrev s__law_mixed : Stmt := top 10
def N__law_mixed : List Str := ["_law_bag_here", "_law_things", "_law_found", "_law_thing"]
theorem sc__law_mixed : FnScope N__law_mixed ["_law_bag_here", "_law_things"] (defScope s__law_mixed) := ⟨rfl, rfl, rfl, by decide +kernel, rfl, by decide +kernel, by decide +kernel⟩
abbrev s__law_alike : Stmt := top 11
def N__law_alike : List Str := ["_law_found", "_law_due"]
theorem sc__law_alike : FnScope N__law_alike ["_law_found", "_law_due"] (defScope s__law_alike) := ⟨rfl, rfl, rfl, by decide +kernel, rfl, by decide +kernel, by decide +kernel⟩
abbrev s__law_voters : Stmt := top 12
def N__law_voters : List Str := ["_law_bag_here", "_law_many", "_law_menu"]
theorem sc__law_voters : FnScope N__law_voters ["_law_bag_here", "_law_many"] (defScope s__law_voters) := ⟨rfl, rfl, rfl, by decide +kernel, rfl, by decide +kernel, by decide +kernel⟩
abbrev s__law_day : Stmt := top 13
def N__law_day : List Str := ["_law_bag_here", "_law_way"]
theorem sc__law_day : FnScope N__law_day ["_law_bag_here"] (defScope s__law_day) := ⟨rfl, rfl, rfl, by decide +kernel, rfl, by decide +kernel, by decide +kernel⟩
abbrev s__law_telling : Stmt := top 14
def N__law_telling : List Str := ["_law_bag_here", "_law_number_here", "_law_voters_here", "_law_areas", "_law_word", "_law_area"]
theorem sc__law_telling : FnScope N__law_telling ["_law_bag_here", "_law_number_here", "_law_voters_here", "_law_areas"] (defScope s__law_telling) := ⟨rfl, rfl, rfl, by decide +kernel, rfl, by decide +kernel, by decide +kernel⟩
abbrev s__law_number : Stmt := top 15
def N__law_number : List Str := ["_law_bag_here", "_law_k"]
theorem sc__law_number : FnScope N__law_number ["_law_bag_here", "_law_k"] (defScope s__law_number) := ⟨rfl, rfl, rfl, by decide +kernel, rfl, by decide +kernel, by decide +kernel⟩
abbrev s__law_tellings : Stmt := top 16
def N__law_tellings : List Str := ["_law_bag_here", "_law_voters_here", "_law_areas", "_law_many", "_law_found", "_law_k"]
theorem sc__law_tellings : FnScope N__law_tellings ["_law_bag_here", "_law_voters_here", "_law_areas", "_law_many"] (defScope s__law_tellings) := ⟨rfl, rfl, rfl, by decide +kernel, rfl, by decide +kernel, by decide +kernel⟩
abbrev s__law_kept : Stmt := top 17
def N__law_kept : List Str := ["_law_things", "_law_at", "_law_kept_here", "_law_thing", "_law_some"]
theorem sc__law_kept : FnScope N__law_kept ["_law_things", "_law_at"] (defScope s__law_kept) := ⟨rfl, rfl, rfl, by decide +kernel, rfl, by decide +kernel, by decide +kernel⟩
abbrev s__law_alone : Stmt := top 18
def N__law_alone : List Str := ["_law_things", "_law_at", "_law_kept_here", "_law_number_here"]
theorem sc__law_alone : FnScope N__law_alone ["_law_things", "_law_at"] (defScope s__law_alone) := ⟨rfl, rfl, rfl, by decide +kernel, rfl, by decide +kernel, by decide +kernel⟩
abbrev s__law_clashing : Stmt := top 19
def N__law_clashing : List Str := ["_law_things", "_law_at", "_law_kept_here", "_law_number_here"]
theorem sc__law_clashing : FnScope N__law_clashing ["_law_things", "_law_at"] (defScope s__law_clashing) := ⟨rfl, rfl, rfl, by decide +kernel, rfl, by decide +kernel, by decide +kernel⟩
abbrev s__law_by_day : Stmt := top 20
def N__law_by_day : List Str := ["_law_things", "_law_at", "_law_rows", "_law_row", "_law_k", "_law_thing"]
theorem sc__law_by_day : FnScope N__law_by_day ["_law_things", "_law_at"] (defScope s__law_by_day) := ⟨rfl, rfl, rfl, by decide +kernel, rfl, by decide +kernel, by decide +kernel⟩
abbrev s__law_stand : Stmt := top 21
def N__law_stand : List Str := ["_law_tellings_here"]
theorem sc__law_stand : FnScope N__law_stand ["_law_tellings_here"] (defScope s__law_stand) := ⟨rfl, rfl, rfl, by decide +kernel, rfl, by decide +kernel, by decide +kernel⟩
abbrev s_law : Stmt := top 22
def N_law : List Str := ["_law_script", "_law_bag_here", "_law_turn", "_law_voters_here", "_law_many", "_law_tellings_here", "_law_said", "_law_due", "_law_some", "_law_found"]
theorem sc_law : FnScope N_law ["_law_script"] (defScope s_law) := ⟨rfl, rfl, rfl, by decide +kernel, rfl, by decide +kernel, by decide +kernel⟩
theorem bo_abs : bootBuiltins "abs" = some (.builtin "abs") := by decide +kernel
theorem bo_enumerate : bootBuiltins "enumerate" = some (.type "enumerate") := by decide +kernel
theorem bo_int : bootBuiltins "int" = some (.type "int") := by decide +kernel
theorem bo_len : bootBuiltins "len" = some (.builtin "len") := by decide +kernel
theorem bo_range : bootBuiltins "range" = some (.type "range") := by decide +kernel
theorem bo_repr : bootBuiltins "repr" = some (.builtin "repr") := by decide +kernel
theorem bo_sorted : bootBuiltins "sorted" = some (.builtin "sorted") := by decide +kernel
structure Txt (K : PySem.W.Frag) (mg : Str → Option Value) where
  a_telling_key : Addr
  d_telling_key : FuncData
  F_telling_key : Fun K "telling_key" "telling_key" s_telling_key a_telling_key d_telling_key
  b_telling_key : Binds K d_telling_key ["telling"] []
  g_telling_key : mg "telling_key" = some (.ref a_telling_key)
  a_by_numbers : Addr
  d_by_numbers : FuncData
  F_by_numbers : Fun K "by_numbers" "by_numbers" s_by_numbers a_by_numbers d_by_numbers
  b_by_numbers : Binds K d_by_numbers ["things"] []
  g_by_numbers : mg "by_numbers" = some (.ref a_by_numbers)
  a_alone : Addr
  d_alone : FuncData
  F_alone : Fun K "alone" "alone" s_alone a_alone d_alone
  b_alone : Binds K d_alone ["things"] []
  g_alone : mg "alone" = some (.ref a_alone)
  a_standing : Addr
  d_standing : FuncData
  F_standing : Fun K "standing" "standing" s_standing a_standing d_standing
  b_standing : Binds K d_standing ["tellings"] []
  g_standing : mg "standing" = some (.ref a_standing)
  a_clashing : Addr
  d_clashing : FuncData
  F_clashing : Fun K "clashing" "clashing" s_clashing a_clashing d_clashing
  b_clashing : Binds K d_clashing ["tellings"] []
  g_clashing : mg "clashing" = some (.ref a_clashing)
  a__law_bag : Addr
  d__law_bag : FuncData
  F__law_bag : Fun K "_law_bag" "_law_bag" s__law_bag a__law_bag d__law_bag
  b__law_bag : Binds K d__law_bag ["_law_script"] []
  g__law_bag : mg "_law_bag" = some (.ref a__law_bag)
  a__law_take : Addr
  d__law_take : FuncData
  F__law_take : Fun K "_law_take" "_law_take" s__law_take a__law_take d__law_take
  b__law_take : Binds K d__law_take ["_law_bag_here", "_law_many"] []
  g__law_take : mg "_law_take" = some (.ref a__law_take)
  a__law_one : Addr
  d__law_one : FuncData
  F__law_one : Fun K "_law_one" "_law_one" s__law_one a__law_one d__law_one
  b__law_one : Binds K d__law_one ["_law_bag_here", "_law_some"] []
  g__law_one : mg "_law_one" = some (.ref a__law_one)
  a__law_mixed : Addr
  d__law_mixed : FuncData
  F__law_mixed : Fun K "_law_mixed" "_law_mixed" s__law_mixed a__law_mixed d__law_mixed
  b__law_mixed : Binds K d__law_mixed ["_law_bag_here", "_law_things"] []
  g__law_mixed : mg "_law_mixed" = some (.ref a__law_mixed)
  a__law_alike : Addr
  d__law_alike : FuncData
  F__law_alike : Fun K "_law_alike" "_law_alike" s__law_alike a__law_alike d__law_alike
  b__law_alike : Binds K d__law_alike ["_law_found", "_law_due"] []
  g__law_alike : mg "_law_alike" = some (.ref a__law_alike)
  a__law_voters : Addr
  d__law_voters : FuncData
  F__law_voters : Fun K "_law_voters" "_law_voters" s__law_voters a__law_voters d__law_voters
  b__law_voters : Binds K d__law_voters ["_law_bag_here", "_law_many"] []
  g__law_voters : mg "_law_voters" = some (.ref a__law_voters)
  a__law_day : Addr
  d__law_day : FuncData
  F__law_day : Fun K "_law_day" "_law_day" s__law_day a__law_day d__law_day
  b__law_day : Binds K d__law_day ["_law_bag_here"] []
  g__law_day : mg "_law_day" = some (.ref a__law_day)
  a__law_telling : Addr
  d__law_telling : FuncData
  F__law_telling : Fun K "_law_telling" "_law_telling" s__law_telling a__law_telling d__law_telling
  b__law_telling : Binds K d__law_telling ["_law_bag_here", "_law_number_here", "_law_voters_here", "_law_areas"] []
  g__law_telling : mg "_law_telling" = some (.ref a__law_telling)
  a__law_number : Addr
  d__law_number : FuncData
  F__law_number : Fun K "_law_number" "_law_number" s__law_number a__law_number d__law_number
  b__law_number : Binds K d__law_number ["_law_bag_here", "_law_k"] []
  g__law_number : mg "_law_number" = some (.ref a__law_number)
  a__law_tellings : Addr
  d__law_tellings : FuncData
  F__law_tellings : Fun K "_law_tellings" "_law_tellings" s__law_tellings a__law_tellings d__law_tellings
  b__law_tellings : Binds K d__law_tellings ["_law_bag_here", "_law_voters_here", "_law_areas", "_law_many"] []
  g__law_tellings : mg "_law_tellings" = some (.ref a__law_tellings)
  a__law_kept : Addr
  d__law_kept : FuncData
  F__law_kept : Fun K "_law_kept" "_law_kept" s__law_kept a__law_kept d__law_kept
  b__law_kept : Binds K d__law_kept ["_law_things", "_law_at"] []
  g__law_kept : mg "_law_kept" = some (.ref a__law_kept)
  a__law_alone : Addr
  d__law_alone : FuncData
  F__law_alone : Fun K "_law_alone" "_law_alone" s__law_alone a__law_alone d__law_alone
  b__law_alone : Binds K d__law_alone ["_law_things", "_law_at"] []
  g__law_alone : mg "_law_alone" = some (.ref a__law_alone)
  a__law_clashing : Addr
  d__law_clashing : FuncData
  F__law_clashing : Fun K "_law_clashing" "_law_clashing" s__law_clashing a__law_clashing d__law_clashing
  b__law_clashing : Binds K d__law_clashing ["_law_things", "_law_at"] []
  g__law_clashing : mg "_law_clashing" = some (.ref a__law_clashing)
  a__law_by_day : Addr
  d__law_by_day : FuncData
  F__law_by_day : Fun K "_law_by_day" "_law_by_day" s__law_by_day a__law_by_day d__law_by_day
  b__law_by_day : Binds K d__law_by_day ["_law_things", "_law_at"] []
  g__law_by_day : mg "_law_by_day" = some (.ref a__law_by_day)
  a__law_stand : Addr
  d__law_stand : FuncData
  F__law_stand : Fun K "_law_stand" "_law_stand" s__law_stand a__law_stand d__law_stand
  b__law_stand : Binds K d__law_stand ["_law_tellings_here"] []
  g__law_stand : mg "_law_stand" = some (.ref a__law_stand)
  a_law : Addr
  d_law : FuncData
  F_law : Fun K "law" "law" s_law a_law d_law
  b_law : Binds K d_law ["_law_script"] []
  g_law : mg "law" = some (.ref a_law)
  n_abs : mg "abs" = none
  n_enumerate : mg "enumerate" = none
  n_int : mg "int" = none
  n_len : mg "len" = none
  n_range : mg "range" = none
  n_repr : mg "repr" = none
  n_sorted : mg "sorted" = none
def IsBag (t : T) : Prop := ∃ (a b c : Int) (o : Bool) (cells : List Int), t = .node true .lst [.leaf (.int a), .leaf (.int b), .leaf (.int c), .node o .lst (intsT cells)] ∧ 0 ≤ a ∧ 0 ≤ b ∧ b < 2147483647 ∧ 0 ≤ c ∧ cells.length ≤ 63 ∧ ∀ x ∈ cells, 0 ≤ x
def sp__law_bag : DSp := fun ts Q _ => ∃ ns : List Int, ts = [.pin .lst (ns.map V.int)] ∧ ns.length ≤ 63 ∧ ∀ bag, IsBag bag → Q bag []
def sp__law_take : DSp := fun ts Q _ => ∃ (bag : T) (many : Int), ts = [bag, .leaf (.int many)] ∧ IsBag bag ∧ 0 < many ∧ (many < 2 ^ 62 ∨ many.natAbs.log2 < 9000) ∧ ∀ (r : Int) (bag' : T), 0 ≤ r → r < many → IsBag bag' → Q (.leaf (.int r)) [bag']
theorem mono__law_bag : MonoD sp__law_bag := fun ts Q Q' E E' hq he ⟨ns, e, h, q⟩ => ⟨ns, e, h, fun b hb => hq _ _ (q b hb)⟩
theorem mono__law_take : MonoD sp__law_take := fun ts Q Q' E E' hq he ⟨b, n, e, h1, h2, h3, q⟩ => ⟨b, n, e, h1, h2, h3, fun r b' a1 a2 a3 => hq _ _ (q r b' a1 a2 a3)⟩
def sp__law_alike : DSp := fun ts Q _ => ∃ (a b : T) (d : PyData), ts = [a, b] ∧ toP a = some d ∧ toP b = some d ∧ GoodD d ∧ Q (.leaf (.bl true)) []
theorem mono__law_alike : MonoD sp__law_alike := fun ts Q Q' E E' hq he ⟨a, b, d, e, h1, h2, h3, q⟩ => ⟨a, b, d, e, h1, h2, h3, hq _ _ q⟩
def sp__law_one : DSp := fun ts Q _ => ∃ (bag : T) (o : Bool) (its : List T), ts = [bag, .node o .lst its] ∧ IsBag bag ∧ its ≠ [] ∧ its.length < 1000000 ∧ ∀ (t : T) (bag' : T), t ∈ its → IsBag bag' → Q (frz t) [bag']
theorem mono__law_one : MonoD sp__law_one := fun ts Q Q' E E' hq he ⟨b, o, its, e, h1, h2, h3, q⟩ => ⟨b, o, its, e, h1, h2, h3, fun t b' a1 a2 => hq _ _ (q t b' a1 a2)⟩
def sp_law : DSp := spLaw
theorem mono_law : MonoD sp_law := spLaw_mono
theorem law_sp (ns : List Int) (h : ns.length ≤ 63) : sp_law [.pin .lst (ns.map V.int)] (fun t _ => t = .leaf (.bl true)) fun _ _ _ => False := ⟨ns, rfl, h, rfl⟩
def bit (m : Int) (k : Nat) : Prop := m / 2 ^ k % 2 = 1
instance (m : Int) (k : Nat) : Decidable (bit m k) := inferInstanceAs (Decidable (_ = _))
def maskN (p : Nat → Bool) : Nat → Nat
  | 0 => 0
  | n + 1 => if p n then 2 ^ n + maskN p n else maskN p n
def sp__law_mixed : DSp := fun ts Q _ => ∃ (bag : T) (o : Bool) (its : List T), ts = [bag, .node o .lst its] ∧ IsBag bag ∧ its.length ≤ 10000 ∧ ∀ its' bag', its'.Perm (frzL its) → IsBag bag' → Q (.node true .lst its') [bag']
theorem mono__law_mixed : MonoD sp__law_mixed := fun ts Q Q' E E' hq he ⟨b, o, its, e, h1, h2, q⟩ => ⟨b, o, its, e, h1, h2, fun x y h h' => hq _ _ (q x y h h')⟩
section
variable {β : Type} [DecidableEq β]
def insG (num : β → Int) : List (Int × List β) → β → List (Int × List β)
  | [], b => [(num b, [b])]
  | p :: r, b => if p.1 = num b then (p.1, if b ∈ p.2 then p.2 else p.2 ++ [b]) :: r else p :: insG num r b
def grp (num : β → Int) (bs : List β) : List (Int × List β) := bs.foldl (insG num) []
def only1 : List β → Option β
  | [x] => some x
  | _ => none
def aloneG (G : List (Int × List β)) : List β := G.filterMap fun p => only1 p.2
abbrev leI2 (x y : Int) : Bool := decide (x ≤ y)
def clashG (G : List (Int × List β)) : List Int := ((G.filter fun p => decide (1 < p.2.length)).map (·.1)).mergeSort leI2
abbrev leDN (day num : β → Int) (a b : β) : Bool := decide (day a < day b ∨ (day a = day b ∧ num a ≤ num b))
def standB (num day : β → Int) (bs : List β) : List β := (aloneG (grp num bs)).mergeSort (leDN day num)
def getG (G : List (Int × List β)) (n : Int) : List β := ((G.find? fun p => decide (p.1 = n)).map (·.2)).getD []
def alnL (G : List (Int × List β)) : List β := ((G.map (·.1)).mergeSort leI2).filterMap fun n => only1 (getG G n)
def clashL (G : List (Int × List β)) : List Int := ((G.map (·.1)).mergeSort leI2).filter fun n => decide (1 < (getG G n).length)
def byDay (num day : β → Int) (bs : List β) : List β := (bs.zipIdx.mergeSort fun z w => leL [day z.1, num z.1, (z.2 : Int)] [day w.1, num w.1, (w.2 : Int)]).map (·.1)
structure Ths (bs : List β) (enc : β → T) (num : β → Int) (dat : β → PyData) : Prop where
  fz : ∀ b ∈ bs, frz (enc b) = enc b
  hd : ∀ b ∈ bs, ∃ r, enc b = .node false .tup (.leaf (.int (num b)) :: r)
  to : ∀ b ∈ bs, toP (enc b) = some (dat b)
  gd : ∀ b ∈ bs, smallD (dat b) ∧ PyData.depth (dat b) ≤ 10
  eq : ∀ a ∈ bs, ∀ b ∈ bs, PyData.eqv (dat a) (dat b) = decide (a = b)
  len : bs.length ≤ 1000000
end
def keysG {β : Type} (G : List (Int × List β)) : List Key := G.map fun p => Sum.inl p.1
def kidsG {β : Type} (o : Bool) (enc : β → T) (G : List (Int × List β)) : List T := G.map fun p => .node o .lst (p.2.map enc)
def ThT {β : Type} (τ : T) (bs : List β) (enc : β → T) : Prop := ∃ o xs, τ = .node o .lst xs ∧ frzL xs = bs.map enc
def At {β : Type} (bs : List β) (enc : β → T) (at_ : Nat) (f : β → Int) : Prop := ∀ b ∈ bs, ∃ l, enc b = .node false .tup l ∧ l[at_]? = some (.leaf (.int (f b)))
def sp_telling_key : DSp := fun ts Q _ => ∃ (o : Bool) (n d : Int) (r : List T), ts = [.node o .tup (.leaf (.int n) :: .leaf (.int d) :: r)] ∧ Q (.node true .tup [.leaf (.int d), .leaf (.int n)]) []
theorem mono_telling_key : MonoD sp_telling_key := fun ts Q Q' E E' hq he ⟨o, n, d, r, e, q⟩ => ⟨o, n, d, r, e, hq _ _ q⟩
def sp_by_numbers : DSp := fun ts Q _ => ∃ (τ : T) (β : Type) (_ : DecidableEq β) (bs : List β) (enc : β → T) (num : β → Int) (dat : β → PyData), ts = [τ] ∧ ThT τ bs enc ∧ Ths bs enc num dat ∧ Q (.node true (.dK (keysG (grp num bs))) (kidsG true enc (grp num bs))) []
theorem mono_by_numbers : MonoD sp_by_numbers := fun ts Q Q' E E' hq he ⟨τ, β, i, bs, enc, num, dat, e, h1, h2, q⟩ => ⟨τ, β, i, bs, enc, num, dat, e, h1, h2, hq _ _ q⟩
def sp_alone : DSp := fun ts Q _ => ∃ (τ : T) (β : Type) (_ : DecidableEq β) (bs : List β) (enc : β → T) (num : β → Int) (dat : β → PyData), ts = [τ] ∧ ThT τ bs enc ∧ Ths bs enc num dat ∧ Q (.node true .lst ((aloneG (grp num bs)).map enc)) []
theorem mono_alone : MonoD sp_alone := fun ts Q Q' E E' hq he ⟨τ, β, i, bs, enc, num, dat, e, h1, h2, q⟩ => ⟨τ, β, i, bs, enc, num, dat, e, h1, h2, hq _ _ q⟩
def sp_clashing : DSp := fun ts Q _ => ∃ (τ : T) (β : Type) (_ : DecidableEq β) (bs : List β) (enc : β → T) (num : β → Int) (dat : β → PyData), ts = [τ] ∧ ThT τ bs enc ∧ Ths bs enc num dat ∧ Q (.node true .lst (intsT (clashG (grp num bs)))) []
theorem mono_clashing : MonoD sp_clashing := fun ts Q Q' E E' hq he ⟨τ, β, i, bs, enc, num, dat, e, h1, h2, q⟩ => ⟨τ, β, i, bs, enc, num, dat, e, h1, h2, hq _ _ q⟩
def Hd2 {β : Type} (bs : List β) (enc : β → T) (num day : β → Int) : Prop := ∀ b ∈ bs, ∃ r, enc b = .node false .tup (.leaf (.int (num b)) :: .leaf (.int (day b)) :: r)
def sp_standing : DSp := fun ts Q _ => ∃ (τ : T) (β : Type) (_ : DecidableEq β) (bs : List β) (enc : β → T) (num day : β → Int) (dat : β → PyData), ts = [τ] ∧ ThT τ bs enc ∧ Ths bs enc num dat ∧ Hd2 bs enc num day ∧ Q (.node true .lst ((standB num day bs).map enc)) []
theorem mono_standing : MonoD sp_standing := fun ts Q Q' E E' hq he ⟨τ, β, i, bs, enc, num, day, dat, e, h1, h2, h3, q⟩ => ⟨τ, β, i, bs, enc, num, day, dat, e, h1, h2, h3, hq _ _ q⟩
def sp__law_kept : DSp := fun ts Q _ => ∃ (τ : T) (at_ : Nat) (β : Type) (_ : DecidableEq β) (bs : List β) (enc : β → T) (num : β → Int) (dat : β → PyData), ts = [τ, .leaf (.int (at_ : Nat))] ∧ ThT τ bs enc ∧ Ths bs enc num dat ∧ At bs enc at_ num ∧ Q (.node true (.dK (keysG (grp num bs))) (kidsG false enc (grp num bs))) []
theorem mono__law_kept : MonoD sp__law_kept := fun ts Q Q' E E' hq he ⟨τ, a, β, i, bs, enc, num, dat, e, h1, h2, h3, q⟩ => ⟨τ, a, β, i, bs, enc, num, dat, e, h1, h2, h3, hq _ _ q⟩
def sp__law_alone : DSp := fun ts Q _ => ∃ (τ : T) (at_ : Nat) (β : Type) (_ : DecidableEq β) (bs : List β) (enc : β → T) (num : β → Int) (dat : β → PyData), ts = [τ, .leaf (.int (at_ : Nat))] ∧ ThT τ bs enc ∧ Ths bs enc num dat ∧ At bs enc at_ num ∧ Q (.node true .lst ((alnL (grp num bs)).map enc)) []
theorem mono__law_alone : MonoD sp__law_alone := fun ts Q Q' E E' hq he ⟨τ, a, β, i, bs, enc, num, dat, e, h1, h2, h3, q⟩ => ⟨τ, a, β, i, bs, enc, num, dat, e, h1, h2, h3, hq _ _ q⟩
def sp__law_clashing : DSp := fun ts Q _ => ∃ (τ : T) (at_ : Nat) (β : Type) (_ : DecidableEq β) (bs : List β) (enc : β → T) (num : β → Int) (dat : β → PyData), ts = [τ, .leaf (.int (at_ : Nat))] ∧ ThT τ bs enc ∧ Ths bs enc num dat ∧ At bs enc at_ num ∧ Q (.node true .lst (intsT (clashL (grp num bs)))) []
theorem mono__law_clashing : MonoD sp__law_clashing := fun ts Q Q' E E' hq he ⟨τ, a, β, i, bs, enc, num, dat, e, h1, h2, h3, q⟩ => ⟨τ, a, β, i, bs, enc, num, dat, e, h1, h2, h3, hq _ _ q⟩
def sp__law_by_day : DSp := fun ts Q _ => ∃ (τ : T) (at_ : Nat) (β : Type) (bs : List β) (enc : β → T) (num day : β → Int), ts = [τ, .leaf (.int (at_ : Nat))] ∧ ThT τ bs enc ∧ bs.length ≤ 1000000 ∧ (∀ b ∈ bs, frz (enc b) = enc b) ∧ At bs enc 0 num ∧ At bs enc at_ day ∧ Q (.node true .lst ((byDay num day bs).map enc)) []
theorem mono__law_by_day : MonoD sp__law_by_day := fun ts Q Q' E E' hq he ⟨τ, a, β, bs, enc, num, day, e, h1, h2, h3, h4, h5, q⟩ => ⟨τ, a, β, bs, enc, num, day, e, h1, h2, h3, h4, h5, hq _ _ q⟩
def sp__law_stand : DSp := fun ts Q _ => ∃ (τ : T) (β : Type) (_ : DecidableEq β) (bs : List β) (enc : β → T) (num day : β → Int) (dat : β → PyData), ts = [τ] ∧ ThT τ bs enc ∧ Ths bs enc num dat ∧ Hd2 bs enc num day ∧ Q (.node true .lst ((byDay num day (alnL (grp num bs))).map enc)) []
theorem mono__law_stand : MonoD sp__law_stand := fun ts Q Q' E E' hq he ⟨τ, β, i, bs, enc, num, day, dat, e, h1, h2, h3, q⟩ => ⟨τ, β, i, bs, enc, num, day, dat, e, h1, h2, h3, hq _ _ q⟩
abbrev Tl := Int × Int × Str × Str × Option Int
def arT : Option Int → T
  | none => .leaf .non
  | some a => .leaf (.int a)
def arD : Option Int → PyData
  | none => .none
  | some a => .int a
def tlT (x : Tl) : T := .node false .tup [.leaf (.int x.1), .leaf (.int x.2.1), .leaf (.str x.2.2.1), .leaf (.str x.2.2.2.1), arT x.2.2.2.2]
def tlD (x : Tl) : PyData := .tuple [.int x.1, .int x.2.1, .str x.2.2.1, .str x.2.2.2.1, arD x.2.2.2.2]
def votersM : List Str := ["a", "b", "ab", "ba", "anna", "zzzzzzzz", "goes", "comes", "none", "barred", "zz", "aaaaaaaa", "x"]
def wordsM : List Str := ["comes", "goes", "barred", "cleared"]
structure TlOk (x : Tl) : Prop where
  n : 0 ≤ x.1 ∧ x.1 ≤ 1000000000
  d : 0 ≤ x.2.1 ∧ x.2.1 ≤ 1000000000
  v : x.2.2.1 ∈ votersM
  w : x.2.2.2.1 ∈ wordsM
  a : ∀ a, x.2.2.2.2 = some a → 0 ≤ a ∧ a ≤ 1000
def strsT (l : List Str) : List T := l.map fun s => .leaf (.str s)
def sp__law_voters : DSp := fun ts Q _ => ∃ (bag : T) (n : Nat), ts = [bag, .leaf (.int (n : Nat))] ∧ IsBag bag ∧ 1 ≤ n ∧ n ≤ 13 ∧ ∀ (vs : List Str) (bag' : T), vs.length = n → (∀ v ∈ vs, v ∈ votersM) → vs.Nodup → IsBag bag' → Q (.node true .lst (strsT vs)) [bag']
theorem mono__law_voters : MonoD sp__law_voters := fun ts Q Q' E E' hq he ⟨b, n, e, h1, h2, h3, q⟩ => ⟨b, n, e, h1, h2, h3, fun v b' a1 a2 a3 a4 => hq _ _ (q v b' a1 a2 a3 a4)⟩
def sp__law_day : DSp := fun ts Q _ => ∃ bag : T, ts = [bag] ∧ IsBag bag ∧ ∀ (d : Int) (bag' : T), 0 ≤ d → d ≤ 1000000000 → IsBag bag' → Q (.leaf (.int d)) [bag']
theorem mono__law_day : MonoD sp__law_day := fun ts Q Q' E E' hq he ⟨b, e, h1, q⟩ => ⟨b, e, h1, fun d b' a1 a2 a3 => hq _ _ (q d b' a1 a2 a3)⟩
def sp__law_telling : DSp := fun ts Q _ => ∃ (bag : T) (n : Int) (o : Bool) (vs : List Str) (m : Int), ts = [bag, .leaf (.int n), .node o .lst (strsT vs), .leaf (.int m)] ∧ IsBag bag ∧ 0 ≤ n ∧ n ≤ 1000000000 ∧ vs ≠ [] ∧ vs.length ≤ 20 ∧ (∀ v ∈ vs, v ∈ votersM) ∧ 1 ≤ m ∧ m ≤ 1000 ∧
  ∀ (x : Tl) (bag' : T) (τ : T), TlOk x → x.1 = n → x.2.2.1 ∈ vs → (∀ a, x.2.2.2.2 = some a → a < m) → frz τ = tlT x → IsBag bag' → Q τ [bag']
theorem mono__law_telling : MonoD sp__law_telling := fun ts Q Q' E E' hq he ⟨b, n, o, vs, m, e, h1, h2, h3, h4, h5, h6, h7, h8, q⟩ => ⟨b, n, o, vs, m, e, h1, h2, h3, h4, h5, h6, h7, h8, fun x b' τ a1 a2 a3 a4 a5 a6 => hq _ _ (q x b' τ a1 a2 a3 a4 a5 a6)⟩
def sp__law_number : DSp := fun ts Q _ => ∃ (bag : T) (k : Int), ts = [bag, .leaf (.int k)] ∧ IsBag bag ∧ 0 ≤ k ∧ k ≤ 1000 ∧ ∀ (n : Int) (bag' : T), 0 ≤ n → n ≤ 1000000000 → IsBag bag' → Q (.leaf (.int n)) [bag']
theorem mono__law_number : MonoD sp__law_number := fun ts Q Q' E E' hq he ⟨b, k, e, h1, h2, h3, q⟩ => ⟨b, k, e, h1, h2, h3, fun n b' a1 a2 a3 => hq _ _ (q n b' a1 a2 a3)⟩
theorem frz_strs (l : List Str) : frzL (strsT l) = strsT l := by
  unfold strsT
  rw [frzL_map, List.map_map]
  rfl
theorem tls_frz (xs : List Tl) : frzL (xs.map tlT) = xs.map tlT := by
  rw [frzL_map, List.map_map]
  refine List.map_congr_left fun x _ => ?_
  obtain ⟨n, d, v, w, a⟩ := x
  cases a <;> rfl
def unT : T → Option Tl
  | .node _ .tup [.leaf (.int n), .leaf (.int d), .leaf (.str v), .leaf (.str w), .leaf .non] => some (n, d, v, w, none)
  | .node _ .tup [.leaf (.int n), .leaf (.int d), .leaf (.str v), .leaf (.str w), .leaf (.int a)] => some (n, d, v, w, some a)
  | _ => none
def sp__law_tellings : DSp := fun ts Q _ => ∃ (bag : T) (o : Bool) (vs : List Str) (m k : Int), ts = [bag, .node o .lst (strsT vs), .leaf (.int m), .leaf (.int k)] ∧ IsBag bag ∧ vs ≠ [] ∧ vs.length ≤ 20 ∧ (∀ v ∈ vs, v ∈ votersM) ∧ 1 ≤ m ∧ m ≤ 1000 ∧ 0 ≤ k ∧ k ≤ 70 ∧
  ∀ (xs : List Tl) (τs : List T) (bag' : T), xs.length ≤ 140 → (∀ x ∈ xs, TlOk x) → frzL τs = xs.map tlT → IsBag bag' → Q (.node true .lst τs) [bag']
theorem mono__law_tellings : MonoD sp__law_tellings := fun ts Q Q' E E' hq he ⟨b, o, vs, m, k, e, h1, h2, h3, h4, h5, h6, h7, h8, q⟩ => ⟨b, o, vs, m, k, e, h1, h2, h3, h4, h5, h6, h7, h8, fun xs τs b' a1 a2 a3 a4 => hq _ _ (q xs τs b' a1 a2 a3 a4)⟩
def t_telling_key : DTS := (sRet (xTup (aCons (xOp rtIx (xVar 0) (xC (.int 1))) (aCons (xOp rtIx (xVar 0) (xC (.int 0))) aNil))))
def t_by_numbers_1 : DTS := (sSeq (sSetd 1 2 3 (xOp rtIx (xVar 2) (xC (.int 0))))
sNext)
def t_by_numbers_2 : DTS := (sFor (iSeq (xVar 0)) (gNm false 2)
 t_by_numbers_1)
def t_by_numbers_3 : DTS := (sRet (xMov 1))
def t_by_numbers_4 : DTS := (sSeq t_by_numbers_2
t_by_numbers_3)
def t_by_numbers : DTS := (sSeq (sSet true 1 xDict0)
t_by_numbers_4)
def t_alone : DTS := (sRet (xLc (iValT (xCall sp_by_numbers [none] (aCons (xVar 0) aNil))) (gNm false 1) (xB (xOp (rtEq false) (xCB rnLen (aCons (xVar 1) aNil)) (xC (.int 1)))) (xOp rtIx (xVar 1) (xC (.int 0))) [1]))
def t_standing : DTS := (sRet (xSortKey sp_telling_key (xCall sp_alone [none] (aCons (xVar 0) aNil))))
def t_clashing : DTS := (sRet (xCB rnSortedI (aCons (xLc (iItT (xCall sp_by_numbers [none] (aCons (xVar 0) aNil))) (gSq 2 (gCn (gNm false 1) (gCn (gNm false 2) gNl))) (xB (xOp oGt (xCB rnLen (aCons (xVar 2) aNil)) (xC (.int 1)))) (xVar 1) [1, 2]) aNil)))
def t__law_bag : DTS := (sRet (xLst (aCons (xC (.int 0)) (aCons (xC (.int 1234567891)) (aCons (xC (.int 0)) (aCons (xLc (iSeq (xSlA (xVar 0) xNoP (xPart (xC (.int 63))))) (gNm false 1) xYes (xCB rnAbs (aCons (xVar 1) aNil)) [1]) aNil))))))
def t__law_take_1 : DTS := (sRet (xOp oMod (xCB rnInt2 (aCons (xOp oDiv (xVar 3) (xC (.int 7))) aNil)) (xVar 1)))
def t__law_take_2 : DTS := (sSeq (sSet false 3 (xOp oMod (xCB rnInt2 (aCons (xOp rtMul (xOp oMod (xCB rnInt2 (aCons (xOp rtMul (xVar 2) (xVar 2)) aNil)) (xC (.int 998244353))) (xC (.int 30011))) aNil)) (xC (.int 998244353))))
t__law_take_1)
def t__law_take_3 : DTS := (sRet (xVar 6))
def t__law_take_4 : DTS := (sSeq (sAsg (xOp oDiv (xCB rnInt2 (aCons (xIxO 0 (xC (.int 0))) aNil)) (xVar 1)) (gSetI 0 (xC (.int 0))))
t__law_take_3)
def t__law_take_5 : DTS := (sIf (xB (xOp oGt (xIxO 0 (xC (.int 0))) (xC (.int 0))))
 (sSeq (sSet false 6 (xOp oMod (xCB rnInt2 (aCons (xIxO 0 (xC (.int 0))) aNil)) (xVar 1)))
t__law_take_4)
 sNext)
def t__law_take_6 : DTS := (sSeq (sSet false 2 (xOp oMod (xCB rnInt2 (aCons (xOp rtMul (xOp rtAdd (xIxO 0 (xC (.int 1))) (xC (.int 1))) (xC (.int 39373))) aNil)) (xC (.int 1000000007))))
t__law_take_2)
def t__law_take_7 : DTS := (sAsg (xOp oMod (xCB rnInt2 (aCons (xVar 5) aNil)) (xC (.int 2147483647))) (gSetI 0 (xC (.int 1))))
def t__law_take_8 : DTS := (sIf (xB (xOp oGe (xVar 4) (xC (.int 1000000000000000000))))
 (sAsg (xVar 4) (gSetI 0 (xC (.int 0))))
 sNext)
def t__law_take_9 : DTS := (sSeq (sSet false 5 (xOp rtAdd (xOp rtAdd (xOp rtMul (xIxO 0 (xC (.int 1))) (xC (.int 48271))) (xOp oMod (xCB rnInt2 (aCons (xVar 4) aNil)) (xC (.int 2147483647)))) (xOp rtMul (xC (.int 7919)) (xIxO 0 (xC (.int 2))))))
t__law_take_7)
def t__law_take_10 : DTS := (sSeq t__law_take_8
t__law_take_9)
def t__law_take_11 : DTS := (sIf (xB (xOp oLt (xIxO 0 (xC (.int 2))) (xCB rnLen (aCons (xIxO 0 (xC (.int 3))) aNil))))
 (sSet false 4 (xOp rtIx (xIxO 0 (xC (.int 3))) (xIxO 0 (xC (.int 2)))))
 sNext)
def t__law_take_12 : DTS := (sSeq (sAugI 0 (xC (.int 2)) (rtI0 fun i j => .int (i + j)) (xC (.int 1)))
t__law_take_10)
def t__law_take_13 : DTS := (sSeq t__law_take_11
t__law_take_12)
def t__law_take_14 : DTS := (sIf (xB (xOp (rtEq false) (xIxO 0 (xC (.int 0))) (xC (.int 0))))
 (sSeq (sSet false 4 (xC (.int 0)))
t__law_take_13)
 sNext)
def t__law_take_15 : DTS := (sSeq t__law_take_5
t__law_take_6)
def t__law_take : DTS := (sSeq t__law_take_14
t__law_take_15)
def t__law_one : DTS := (sRet (xOp rtIx (xVar 1) (xCall sp__law_take [some 0, none] (aLend 0 (aCons (xCB rnLen (aCons (xVar 1) aNil)) aNil)))))
def t__law_mixed_1 : DTS := (sDrop (xIns 2 (xCall sp__law_take [some 0, none] (aLend 0 (aCons (xBor (xOp rtAdd (xCB rnLen (aCons (xVar 2) aNil)) (xC (.int 1)))) aNil))) (xVar 3)))
def t__law_mixed_2 : DTS := (sFor (iSeq (xVar 1)) (gNm false 3)
 t__law_mixed_1)
def t__law_mixed_3 : DTS := (sRet (xMov 2))
def t__law_mixed_4 : DTS := (sSeq t__law_mixed_2
t__law_mixed_3)
def t__law_mixed : DTS := (sSeq (sSet true 2 (xLst aNil))
t__law_mixed_4)
def t__law_alike : DTS := (sRet (xAndV (xOp (rtEq false) (xVar 0) (xVar 1)) (xOp (rtEq false) (xCB rnRepr2 (aCons (xVar 0) aNil)) (xCB rnRepr2 (aCons (xVar 1) aNil)))))
def t__law_voters_1 : DTS := (sRet (xSlA (xCall sp__law_mixed [some 0, none] (aLend 0 (aCons (xVar 2) aNil))) xNoP (xPart (xVar 1))))
def t__law_voters : DTS := (sSeq (sSet false 2 (xLst (aCons (xC (.str "a")) (aCons (xC (.str "b")) (aCons (xC (.str "ab")) (aCons (xC (.str "ba")) (aCons (xC (.str "anna")) (aCons (xC (.str "zzzzzzzz")) (aCons (xC (.str "goes")) (aCons (xC (.str "comes")) (aCons (xC (.str "none")) (aCons (xC (.str "barred")) (aCons (xC (.str "zz")) (aCons (xC (.str "aaaaaaaa")) (aCons (xC (.str "x")) aNil)))))))))))))))
t__law_voters_1)
def t__law_day_1 : DTS := (sIf (xB (xOp (rtEq false) (xVar 1) (xC (.int 0))))
 (sRet (xOp oSub (xOp oPow (xC (.int 10)) (xC (.int 9))) (xCall sp__law_take [some 0, none] (aLend 0 (aCons (xC (.int 4)) aNil)))))
 sNext)
def t__law_day_2 : DTS := (sRet (xCall sp__law_take [some 0, none] (aLend 0 (aCons (xC (.int 9)) aNil))))
def t__law_day_3 : DTS := (sSeq t__law_day_1
t__law_day_2)
def t__law_day : DTS := (sSeq (sSet false 1 (xCall sp__law_take [some 0, none] (aLend 0 (aCons (xC (.int 7)) aNil))))
t__law_day_3)
def t__law_telling_1 : DTS := (sIf (xB (xOp (rtEq false) (xVar 4) (xC (.str "comes"))))
 (sSet false 5 (xCall sp__law_take [some 0, none] (aLend 0 (aCons (xVar 3) aNil))))
 sNext)
def t__law_telling_2 : DTS := (sRet (xTup (aCons (xVar 1) (aCons (xCall sp__law_day [some 0] (aLend 0 aNil)) (aCons (xCall sp__law_one [some 0, none] (aLend 0 (aCons (xVar 2) aNil))) (aCons (xVar 4) (aCons (xVar 5) aNil)))))))
def t__law_telling_3 : DTS := (sSeq t__law_telling_1
t__law_telling_2)
def t__law_telling : DTS := (sSeq (sPar 4 5 (aCons (xCall sp__law_one [some 0, none] (aLend 0 (aCons (xLst (aCons (xC (.str "comes")) (aCons (xC (.str "comes")) (aCons (xC (.str "comes")) (aCons (xC (.str "goes")) (aCons (xC (.str "barred")) (aCons (xC (.str "cleared")) aNil))))))) aNil))) (aCons (xC .non) aNil)))
t__law_telling_3)
def t__law_number : DTS := (sRet (xOp rtIx (xLst (aCons (xVar 1) (aCons (xVar 1) (aCons (xVar 1) (aCons (xVar 1) (aCons (xCall sp__law_take [some 0, none] (aLend 0 (aCons (xOp rtAdd (xVar 1) (xC (.int 1))) aNil))) (aCons (xOp oSub (xOp oPow (xC (.int 10)) (xC (.int 9))) (xCall sp__law_take [some 0, none] (aLend 0 (aCons (xC (.int 3)) aNil)))) aNil))))))) (xCall sp__law_take [some 0, none] (aLend 0 (aCons (xC (.int 6)) aNil)))))
def t__law_tellings_1 : DTS := (sIf (xB (xOp (rtEq false) (xCall sp__law_take [some 0, none] (aLend 0 (aCons (xC (.int 8)) aNil))) (xC (.int 0))))
 (sDrop (xApp 4 (xIxO 4 (xCall sp__law_take [some 0, none] (aLend 0 (aCons (xBor (xCB rnLen (aCons (xVar 4) aNil))) aNil))))))
 sNext)
def t__law_tellings_2 : DTS := t__law_tellings_1
def t__law_tellings_3 : DTS := (sSeq (sDrop (xApp 4 (xCall sp__law_telling [some 0, none, none, none] (aLend 0 (aCons (xCall sp__law_number [some 0, none] (aLend 0 (aCons (xVar 5) aNil))) (aCons (xVar 1) (aCons (xVar 2) aNil)))))))
t__law_tellings_2)
def t__law_tellings_4 : DTS := (sFor (iRange1 (aCons (xVar 3) aNil)) (gNm false 5)
 t__law_tellings_3)
def t__law_tellings_5 : DTS := (sRet (xCall sp__law_mixed [some 0, none] (aLend 0 (aCons (xFrz 4) aNil))))
def t__law_tellings_6 : DTS := (sSeq t__law_tellings_4
t__law_tellings_5)
def t__law_tellings : DTS := (sSeq (sSet true 4 (xLst aNil))
t__law_tellings_6)
def t__law_kept_1 : DTS := (sDPutO 2 (xOp rtIx (xVar 3) (xVar 1)) (xFz (xOp rtAdd (xVar 4) (xOp rtMul (xLst (aCons (xVar 3) aNil)) (xCB rnInt2 (aCons (xOp (rtInL true) (xVar 3) (xVar 4)) aNil))))))
def t__law_kept_2 : DTS := (sSeq (sSet false 4 (xDGet2O 2 (xOp rtIx (xVar 3) (xVar 1)) (xLst aNil)))
t__law_kept_1)
def t__law_kept_3 : DTS := (sFor (iSeq (xVar 0)) (gNm false 3)
 t__law_kept_2)
def t__law_kept_4 : DTS := (sRet (xMov 2))
def t__law_kept_5 : DTS := (sSeq t__law_kept_3
t__law_kept_4)
def t__law_kept : DTS := (sSeq (sSet true 2 xDict0)
t__law_kept_5)
def t__law_alone_1 : DTS := (sRet (xLc (iSeq (xSortKI (xVar 2))) (gNm false 3) (xB (xOp (rtEq false) (xCB rnLen (aCons (xDGet (xVar 2) (xVar 3)) aNil)) (xC (.int 1)))) (xOp rtIx (xDGet (xVar 2) (xVar 3)) (xC (.int 0))) [3]))
def t__law_alone : DTS := (sSeq (sSet false 2 (xCall sp__law_kept [none, none] (aCons (xVar 0) (aCons (xVar 1) aNil))))
t__law_alone_1)
def t__law_clashing_1 : DTS := (sRet (xLc (iSeq (xSortKI (xVar 2))) (gNm false 3) (xB (xOp oGt (xCB rnLen (aCons (xDGet (xVar 2) (xVar 3)) aNil)) (xC (.int 1)))) (xVar 3) [3]))
def t__law_clashing : DTS := (sSeq (sSet false 2 (xCall sp__law_kept [none, none] (aCons (xVar 0) (aCons (xVar 1) aNil))))
t__law_clashing_1)
def t__law_by_day_1 : DTS := (sRet (xLc (iSeq (xVar 2)) (gNm false 3) xYes (xOp rtIx (xVar 0) (xOp rtIx (xVar 3) (xC (.int 2)))) [3]))
def t__law_by_day : DTS := (sSeq (sSet false 2 (xCB rnSortedB (aCons (xLc (iEn (aCons (xVar 0) aNil)) (gSq 2 (gCn (gNm false 4) (gCn (gNm false 5) gNl))) xYes (xTup (aCons (xOp rtIx (xVar 5) (xVar 1)) (aCons (xOp rtIx (xVar 5) (xC (.int 0))) (aCons (xVar 4) aNil)))) [4, 5]) aNil)))
t__law_by_day_1)
def t__law_stand : DTS := (sRet (xCall sp__law_by_day [none, none] (aCons (xCall sp__law_alone [none, none] (aCons (xVar 0) (aCons (xC (.int 0)) aNil))) (aCons (xC (.int 1)) aNil))))
def t_law_1 : DTS := (sIf (xOr (xB (xOp (rtEq true) (xCB rnRepr2 (aCons (xVar 5) aNil)) (xVar 6))) (xNot (xTru (xCall sp__law_alike [none, none] (aCons (xLst (aCons (xCall sp_standing [none] (aCons (xVar 5) aNil)) (aCons (xCall sp_clashing [none] (aCons (xVar 5) aNil)) aNil))) (aCons (xVar 7) aNil))))))
 (sRet (xC (.bl false)))
 sNext)
def t_law_2 : DTS := (sDrop (xAppI 9 (xC (.int 1)) (xC .non)))
def t_law_3 : DTS := (sIf (xBorT (xNot (xTru (xCall sp__law_alike [none, none] (aCons (xVar 9) (aCons (xVar 7) aNil))))))
 (sRet (xC (.bl false)))
 sNext)
def t_law_4 : DTS := (sSeq (sDrop (xAppI 9 (xC (.int 0)) (xC .non)))
t_law_2)
def t_law_5 : DTS := (sSeq t_law_3
t_law_4)
def t_law_6 : DTS := (sSeq (sSet true 9 (xLst (aCons (xCall sp_standing [none] (aCons (xVar 8) aNil)) (aCons (xCall sp_clashing [none] (aCons (xVar 8) aNil)) aNil))))
t_law_5)
def t_law_7 : DTS := (sFor (iSeq (xTup (aCons (xVar 5) (aCons (xRev (xVar 5)) (aCons (xCall sp__law_mixed [some 1, none] (aLend 1 (aCons (xOp rtAdd (xVar 5) (xVar 5)) aNil))) (aCons (xOp rtAdd (xVar 5) (xSlA (xVar 5) xNoP (xPart (xC (.int 2))))) aNil)))))) (gNm false 8)
 t_law_6)
def t_law_8 : DTS := t_law_1
def t_law_9 : DTS := (sSeq t_law_7
t_law_8)
def t_law_10 : DTS := (sSeq (sPar 6 7 (aCons (xCB rnRepr2 (aCons (xVar 5) aNil)) (aCons (xLst (aCons (xCall sp__law_stand [none] (aCons (xVar 5) aNil)) (aCons (xCall sp__law_clashing [none, none] (aCons (xVar 5) (aCons (xC (.int 0)) aNil))) aNil))) aNil)))
t_law_9)
def t_law_11 : DTS := (sSeq (sSet false 5 (xCall sp__law_tellings [some 1, none, none, none] (aLend 1 (aCons (xVar 3) (aCons (xOp rtAdd (xC (.int 1)) (xCall sp__law_take [some 1, none] (aLend 1 (aCons (xC (.int 6)) aNil)))) (aCons (xVar 4) aNil))))))
t_law_10)
def t_law_12 : DTS := (sSeq (sSet false 4 (xIte (xAnd (xB (xOp (rtEq false) (xVar 2) (xC (.int 0)))) (xB (xOp (rtEq false) (xCall sp__law_take [some 1, none] (aLend 1 (aCons (xC (.int 8)) aNil))) (xC (.int 0))))) (xC (.int 70)) (xCall sp__law_take [some 1, none] (aLend 1 (aCons (xC (.int 12)) aNil)))))
t_law_11)
def t_law_13 : DTS := (sSeq (sSet false 3 (xCall sp__law_voters [some 1, none] (aLend 1 (aCons (xOp rtAdd (xC (.int 1)) (xCall sp__law_take [some 1, none] (aLend 1 (aCons (xC (.int 4)) aNil)))) aNil))))
t_law_12)
def t_law_14 : DTS := (sFor (iRange1 (aCons (xC (.int 8)) aNil)) (gNm false 2)
 t_law_13)
def t_law_15 : DTS := (sRet (xC (.bl true)))
def t_law_16 : DTS := (sIf (xOr (xB (xOp (rtEq true) (xCall sp_standing [none] (aCons (xLst aNil) aNil)) (xLst aNil))) (xB (xOp (rtEq true) (xCall sp_clashing [none] (aCons (xLst aNil) aNil)) (xLst aNil))))
 (sRet (xC (.bl false)))
 sNext)
def t_law_17 : DTS := (sSeq t_law_14
t_law_15)
def t_law_18 : DTS := (sSeq t_law_16
t_law_17)
def t_law : DTS := (sSeq (sSet true 1 (xCall sp__law_bag [none] (aCons (xVar 0) aNil)))
t_law_18)
end L31
set_option Elab.async false
set_option linter.all false
set_option maxRecDepth 100000
set_option maxHeartbeats 4000000
namespace L31
open PySem L2 DL
theorem frz_its (o : Bool) (s : Sh) (ns : List Int) : frz (.node o s (intsT ns)) = .node false s (intsT ns) := by
  rw [frz_node, intsT_frz]
theorem rd__law_bag {ts : List T} {Q : T → List T → Prop} {E : Value → List (Str × V) → List T → Prop} (h : sp__law_bag ts Q E) : t__law_bag (bodyEnds [false] Q E) (startE 2 (frzP [false] ts)) := by
  obtain ⟨ns, rfl, h1, q⟩ := h
  (try simp only [np_t, np_f, np_n, ne_c, ne_n, ne_0, nf_leaf, nf_pin, nf_node])
  (repeat (first | (refine Nx.mk ?_; (try (dsimp only [nr_none, nr_some, nr_nil, nf_leaf, nf_pin, nf_node, nf_nil, nf_cons, ni_f, ni_t, nw_nil, nw_cons, ns_0, ns_s]))) | (refine And.intro ?_ ?_; focus (first | exact rfl | exact frz_frz _ | exact frz_nf _ _ | exact (show frz _ = _ by assumption) | (show frz _ = _; simp only [nf_node, nf_cons, nf_nil, nf_leaf, frzL_frzL, intsT_frz]; done) | exact frz_ints _ _ | exact Nat.le_of_ble_eq_true rfl | exact (show (0 : Int) < _ by decide) | exact (show (0 : Int) ≤ _ by decide) | exact ⟨show (0 : Int) < _ by decide, show Nat.log2 _ < _ by decide⟩ | exact Or.inl (Or.inr ⟨show (_ : Int) < _ by decide, show (_ : Int) < _ by decide⟩) | exact Or.inl (Or.inl ⟨show (_ : Int) < _ by decide, show (_ : Int) < _ by decide⟩) | exact ⟨show (0 : Int) ≤ _ by decide, show (_ : Int) ≤ _ by decide, show Int.natAbs _ < _ by decide⟩)) | refine Exists.intro _ (Exists.intro _ (And.intro rfl (And.intro rfl ?_))) | refine Exists.intro _ (And.intro (Le.rf _) ?_) | refine Exists.intro _ (And.intro rfl ?_)))
  have e0 : (cutA (ns.map V.int) none (some 63)).map T.leaf = intsT (cutA ns none (some 63)) := by
    unfold cutA
    simp only [intsT, List.length_map, List.map_take, List.map_drop, List.map_map]
    rfl
  have hl : (intsT (cutA ns none (some 63))).length ≤ 63 := by
    have := cutA_length_le ns none (some 63)
    simp only [intsT, List.length_map]
    omega
  refine Lc.fm (fun t => match t with | .leaf (.int i) => some (.leaf (.int (if i < 0 then -i else i))) | _ => none) ?_ (fun t ht acc R' ha h1 h0 => ?_) ?_
  · rw [e0, intsT_frz]
    exact Nat.le_trans hl (by decide)
  · rw [e0, intsT_frz] at ht
    obtain ⟨i, _, rfl⟩ := List.mem_map.mp ht
    (repeat (first | (refine Nx.mk ?_; (try (dsimp only [nr_none, nr_some, nr_nil, nf_leaf, nf_pin, nf_node, nf_nil, nf_cons, ni_f, ni_t, nw_nil, nw_cons, ns_0, ns_s]))) | (refine And.intro ?_ ?_; focus (first | exact rfl | exact frz_frz _ | exact frz_nf _ _ | exact (show frz _ = _ by assumption) | (show frz _ = _; simp only [nf_node, nf_cons, nf_nil, nf_leaf, frzL_frzL, intsT_frz]; done) | exact frz_ints _ _ | exact Nat.le_of_ble_eq_true rfl | exact (show (0 : Int) < _ by decide) | exact (show (0 : Int) ≤ _ by decide) | exact ⟨show (0 : Int) < _ by decide, show Nat.log2 _ < _ by decide⟩ | exact Or.inl (Or.inr ⟨show (_ : Int) < _ by decide, show (_ : Int) < _ by decide⟩) | exact Or.inl (Or.inl ⟨show (_ : Int) < _ by decide, show (_ : Int) < _ by decide⟩) | exact ⟨show (0 : Int) ≤ _ by decide, show (_ : Int) ≤ _ by decide, show Int.natAbs _ < _ by decide⟩)) | refine Exists.intro _ (Exists.intro _ (And.intro rfl (And.intro rfl ?_))) | refine Exists.intro _ (And.intro (Le.rf _) ?_) | refine Exists.intro _ (And.intro rfl ?_)))
    exact And.intro ha (h1 _ rfl)
  · rw [e0, intsT_frz]
    have e1 : (intsT (cutA ns none (some 63))).filterMap (fun t => match t with | .leaf (.int i) => some (.leaf (.int (if i < 0 then -i else i))) | _ => none) = intsT ((cutA ns none (some 63)).map fun i => if i < 0 then -i else i) := by
      generalize cutA ns none (some 63) = l
      induction l with
      | nil => rfl
      | cons x l ih =>
        simp only [intsT, List.map_cons] at ih ⊢
        rw [List.filterMap_cons]
        simp only [ih]
    rw [e1]
    (repeat (first | (refine Nx.mk ?_; (try (dsimp only [nr_none, nr_some, nr_nil, nf_leaf, nf_pin, nf_node, nf_nil, nf_cons, ni_f, ni_t, nw_nil, nw_cons, ns_0, ns_s]))) | (refine And.intro ?_ ?_; focus (first | exact rfl | exact frz_frz _ | exact frz_nf _ _ | exact (show frz _ = _ by assumption) | (show frz _ = _; simp only [nf_node, nf_cons, nf_nil, nf_leaf, frzL_frzL, intsT_frz]; done) | exact frz_ints _ _ | exact Nat.le_of_ble_eq_true rfl | exact (show (0 : Int) < _ by decide) | exact (show (0 : Int) ≤ _ by decide) | exact ⟨show (0 : Int) < _ by decide, show Nat.log2 _ < _ by decide⟩ | exact Or.inl (Or.inr ⟨show (_ : Int) < _ by decide, show (_ : Int) < _ by decide⟩) | exact Or.inl (Or.inl ⟨show (_ : Int) < _ by decide, show (_ : Int) < _ by decide⟩) | exact ⟨show (0 : Int) ≤ _ by decide, show (_ : Int) ≤ _ by decide, show Int.natAbs _ < _ by decide⟩)) | refine Exists.intro _ (Exists.intro _ (And.intro rfl (And.intro rfl ?_))) | refine Exists.intro _ (And.intro (Le.rf _) ?_) | refine Exists.intro _ (And.intro rfl ?_)))
    refine q _ ⟨0, 1234567891, 0, true, _, rfl, by decide, by decide, by decide, by decide, ?_, ?_⟩
    · rw [List.length_map]
      simp only [intsT, List.length_map] at hl
      exact hl
    · intro x hx
      obtain ⟨i, _, rfl⟩ := List.mem_map.mp hx
      split <;> omega
theorem frz_lints (o : Bool) (cells : List Int) : frz (.node o .lst (intsT cells)) = .node false .lst (intsT cells) := by
  show T.node false .lst (frzL (intsT cells)) = _
  rw [intsT_frz]
theorem take_low {n : Int} {bag : T} {g4 g5 g6 : Option T} {Q : T → List T → Prop} {E : Value → List (Str × V) → List T → Prop} (hb : IsBag bag) (h2 : 0 < n) (h3 : n < 2 ^ 62 ∨ n.natAbs.log2 < 9000)
    (q : ∀ (r : Int) (bag' : T), 0 ≤ r → r < n → IsBag bag' → Q (.leaf (.int r)) [bag']) : t__law_take_15 (bodyEnds [true, false] Q E) [some bag, some (.leaf (.int n)), none, none, g4, g5, g6] := by
  obtain ⟨a, c, d, o, cells, rfl, k1, k2, k3, k4, k5, k6⟩ := hb
  (repeat (first | (refine Nx.mk ?_; (try (dsimp only [nr_none, nr_some, nr_nil, nf_leaf, nf_pin, nf_node, nf_nil, nf_cons, ni_f, ni_t, nw_nil, nw_cons, ns_0, ns_s]))) | (refine And.intro ?_ ?_; focus (first | exact rfl | exact frz_frz _ | exact frz_nf _ _ | exact (show frz _ = _ by assumption) | (show frz _ = _; simp only [nf_node, nf_cons, nf_nil, nf_leaf, frzL_frzL, intsT_frz]; done) | exact frz_ints _ _ | exact Nat.le_of_ble_eq_true rfl | exact (show (0 : Int) < _ by decide) | exact (show (0 : Int) ≤ _ by decide) | exact ⟨show (0 : Int) < _ by decide, show Nat.log2 _ < _ by decide⟩ | exact Or.inl (Or.inr ⟨show (_ : Int) < _ by decide, show (_ : Int) < _ by decide⟩) | exact Or.inl (Or.inl ⟨show (_ : Int) < _ by decide, show (_ : Int) < _ by decide⟩) | exact ⟨show (0 : Int) ≤ _ by decide, show (_ : Int) ≤ _ by decide, show Int.natAbs _ < _ by decide⟩)) | refine Exists.intro _ (Exists.intro _ (And.intro rfl (And.intro rfl ?_))) | refine Exists.intro _ (And.intro (Le.rf _) ?_) | refine Exists.intro _ (And.intro rfl ?_)))
  refine ifB_dec (fun hb => ?_) (fun hb => ?_)
  · (repeat (first | (refine Nx.mk ?_; (try (dsimp only [nr_none, nr_some, nr_nil, nf_leaf, nf_pin, nf_node, nf_nil, nf_cons, ni_f, ni_t, nw_nil, nw_cons, ns_0, ns_s]))) | (refine And.intro ?_ ?_; focus (first | exact rfl | exact frz_frz _ | exact frz_nf _ _ | exact (show frz _ = _ by assumption) | (show frz _ = _; simp only [nf_node, nf_cons, nf_nil, nf_leaf, frzL_frzL, intsT_frz]; done) | exact frz_ints _ _ | exact Nat.le_of_ble_eq_true rfl | exact (show (0 : Int) < _ by decide) | exact (show (0 : Int) ≤ _ by decide) | exact ⟨show (0 : Int) < _ by decide, show Nat.log2 _ < _ by decide⟩ | exact Or.inl (Or.inr ⟨show (_ : Int) < _ by decide, show (_ : Int) < _ by decide⟩) | exact Or.inl (Or.inl ⟨show (_ : Int) < _ by decide, show (_ : Int) < _ by decide⟩) | exact ⟨show (0 : Int) ≤ _ by decide, show (_ : Int) ≤ _ by decide, show Int.natAbs _ < _ by decide⟩)) | refine Exists.intro _ (Exists.intro _ (And.intro rfl (And.intro rfl ?_))) | refine Exists.intro _ (And.intro (Le.rf _) ?_) | refine Exists.intro _ (And.intro rfl ?_)))
    refine And.intro h2 ?_
    (repeat (first | (refine Nx.mk ?_; (try (dsimp only [nr_none, nr_some, nr_nil, nf_leaf, nf_pin, nf_node, nf_nil, nf_cons, ni_f, ni_t, nw_nil, nw_cons, ns_0, ns_s]))) | (refine And.intro ?_ ?_; focus (first | exact rfl | exact frz_frz _ | exact frz_nf _ _ | exact (show frz _ = _ by assumption) | (show frz _ = _; simp only [nf_node, nf_cons, nf_nil, nf_leaf, frzL_frzL, intsT_frz]; done) | exact frz_ints _ _ | exact Nat.le_of_ble_eq_true rfl | exact (show (0 : Int) < _ by decide) | exact (show (0 : Int) ≤ _ by decide) | exact ⟨show (0 : Int) < _ by decide, show Nat.log2 _ < _ by decide⟩ | exact Or.inl (Or.inr ⟨show (_ : Int) < _ by decide, show (_ : Int) < _ by decide⟩) | exact Or.inl (Or.inl ⟨show (_ : Int) < _ by decide, show (_ : Int) < _ by decide⟩) | exact ⟨show (0 : Int) ≤ _ by decide, show (_ : Int) ≤ _ by decide, show Int.natAbs _ < _ by decide⟩)) | refine Exists.intro _ (Exists.intro _ (And.intro rfl (And.intro rfl ?_))) | refine Exists.intro _ (And.intro (Le.rf _) ?_) | refine Exists.intro _ (And.intro rfl ?_)))
    refine And.intro ⟨h2, h3.elim (fun h3 => Nat.lt_of_lt_of_le (PySem.Flt.log2_lt_of (k := 62) (by decide) (by omega)) (by decide)) id⟩ ?_
    (repeat (first | (refine Nx.mk ?_; (try (dsimp only [nr_none, nr_some, nr_nil, nf_leaf, nf_pin, nf_node, nf_nil, nf_cons, ni_f, ni_t, nw_nil, nw_cons, ns_0, ns_s]))) | (refine And.intro ?_ ?_; focus (first | exact rfl | exact frz_frz _ | exact frz_nf _ _ | exact (show frz _ = _ by assumption) | (show frz _ = _; simp only [nf_node, nf_cons, nf_nil, nf_leaf, frzL_frzL, intsT_frz]; done) | exact frz_ints _ _ | exact Nat.le_of_ble_eq_true rfl | exact (show (0 : Int) < _ by decide) | exact (show (0 : Int) ≤ _ by decide) | exact ⟨show (0 : Int) < _ by decide, show Nat.log2 _ < _ by decide⟩ | exact Or.inl (Or.inr ⟨show (_ : Int) < _ by decide, show (_ : Int) < _ by decide⟩) | exact Or.inl (Or.inl ⟨show (_ : Int) < _ by decide, show (_ : Int) < _ by decide⟩) | exact ⟨show (0 : Int) ≤ _ by decide, show (_ : Int) ≤ _ by decide, show Int.natAbs _ < _ by decide⟩)) | refine Exists.intro _ (Exists.intro _ (And.intro rfl (And.intro rfl ?_))) | refine Exists.intro _ (And.intro (Le.rf _) ?_) | refine Exists.intro _ (And.intro rfl ?_)))
    exact q _ _ (Int.emod_nonneg _ (by omega)) (Int.emod_lt_of_pos _ h2) ⟨_, _, _, _, cells, rfl, Int.ediv_nonneg k1 (by omega), k2, k3, k4, k5, k6⟩
  · (repeat (first | (refine Nx.mk ?_; (try (dsimp only [nr_none, nr_some, nr_nil, nf_leaf, nf_pin, nf_node, nf_nil, nf_cons, ni_f, ni_t, nw_nil, nw_cons, ns_0, ns_s]))) | (refine And.intro ?_ ?_; focus (first | exact rfl | exact frz_frz _ | exact frz_nf _ _ | exact (show frz _ = _ by assumption) | (show frz _ = _; simp only [nf_node, nf_cons, nf_nil, nf_leaf, frzL_frzL, intsT_frz]; done) | exact frz_ints _ _ | exact Nat.le_of_ble_eq_true rfl | exact (show (0 : Int) < _ by decide) | exact (show (0 : Int) ≤ _ by decide) | exact ⟨show (0 : Int) < _ by decide, show Nat.log2 _ < _ by decide⟩ | exact Or.inl (Or.inr ⟨show (_ : Int) < _ by decide, show (_ : Int) < _ by decide⟩) | exact Or.inl (Or.inl ⟨show (_ : Int) < _ by decide, show (_ : Int) < _ by decide⟩) | exact ⟨show (0 : Int) ≤ _ by decide, show (_ : Int) ≤ _ by decide, show Int.natAbs _ < _ by decide⟩)) | refine Exists.intro _ (Exists.intro _ (And.intro rfl (And.intro rfl ?_))) | refine Exists.intro _ (And.intro (Le.rf _) ?_) | refine Exists.intro _ (And.intro rfl ?_)))
    (conv => whnf)
    refine And.intro (.inl (.inl ⟨?_, ?_⟩)) ?_
    · exact Int.lt_of_lt_of_le (by decide) (Int.emod_nonneg _ (by decide))
    · exact Int.lt_trans (Int.emod_lt_of_pos _ (by decide)) (by decide)
    (repeat (first | (refine Nx.mk ?_; (try (dsimp only [nr_none, nr_some, nr_nil, nf_leaf, nf_pin, nf_node, nf_nil, nf_cons, ni_f, ni_t, nw_nil, nw_cons, ns_0, ns_s]))) | (refine And.intro ?_ ?_; focus (first | exact rfl | exact frz_frz _ | exact frz_nf _ _ | exact (show frz _ = _ by assumption) | (show frz _ = _; simp only [nf_node, nf_cons, nf_nil, nf_leaf, frzL_frzL, intsT_frz]; done) | exact frz_ints _ _ | exact Nat.le_of_ble_eq_true rfl | exact (show (0 : Int) < _ by decide) | exact (show (0 : Int) ≤ _ by decide) | exact ⟨show (0 : Int) < _ by decide, show Nat.log2 _ < _ by decide⟩ | exact Or.inl (Or.inr ⟨show (_ : Int) < _ by decide, show (_ : Int) < _ by decide⟩) | exact Or.inl (Or.inl ⟨show (_ : Int) < _ by decide, show (_ : Int) < _ by decide⟩) | exact ⟨show (0 : Int) ≤ _ by decide, show (_ : Int) ≤ _ by decide, show Int.natAbs _ < _ by decide⟩)) | refine Exists.intro _ (Exists.intro _ (And.intro rfl (And.intro rfl ?_))) | refine Exists.intro _ (And.intro (Le.rf _) ?_) | refine Exists.intro _ (And.intro rfl ?_)))
    refine And.intro h2 ?_
    (repeat (first | (refine Nx.mk ?_; (try (dsimp only [nr_none, nr_some, nr_nil, nf_leaf, nf_pin, nf_node, nf_nil, nf_cons, ni_f, ni_t, nw_nil, nw_cons, ns_0, ns_s]))) | (refine And.intro ?_ ?_; focus (first | exact rfl | exact frz_frz _ | exact frz_nf _ _ | exact (show frz _ = _ by assumption) | (show frz _ = _; simp only [nf_node, nf_cons, nf_nil, nf_leaf, frzL_frzL, intsT_frz]; done) | exact frz_ints _ _ | exact Nat.le_of_ble_eq_true rfl | exact (show (0 : Int) < _ by decide) | exact (show (0 : Int) ≤ _ by decide) | exact ⟨show (0 : Int) < _ by decide, show Nat.log2 _ < _ by decide⟩ | exact Or.inl (Or.inr ⟨show (_ : Int) < _ by decide, show (_ : Int) < _ by decide⟩) | exact Or.inl (Or.inl ⟨show (_ : Int) < _ by decide, show (_ : Int) < _ by decide⟩) | exact ⟨show (0 : Int) ≤ _ by decide, show (_ : Int) ≤ _ by decide, show Int.natAbs _ < _ by decide⟩)) | refine Exists.intro _ (Exists.intro _ (And.intro rfl (And.intro rfl ?_))) | refine Exists.intro _ (And.intro (Le.rf _) ?_) | refine Exists.intro _ (And.intro rfl ?_)))
    refine q _ _ (Int.emod_nonneg _ (by omega)) (Int.emod_lt_of_pos _ h2) ⟨a, c, d, o, cells, rfl, k1, k2, k3, k4, k5, k6⟩
theorem take_refill {n : Int} {D : DEnds} {a c d x : Int} {o : Bool} {cells : List Int} (k1 : 0 ≤ a) (k2 : 0 ≤ c) (k3 : c < 2147483647) (k4 : 0 ≤ d) (k5 : cells.length ≤ 63) (k6 : ∀ x ∈ cells, 0 ≤ x) (x0 : 0 ≤ x)
    (hD : ∀ bag' g4 g5, IsBag bag' → D.nx [some bag', some (.leaf (.int n)), none, none, g4, g5, none]) : Nx t__law_take_12 D [some (.node true .lst [.leaf (.int a), .leaf (.int c), .leaf (.int d), .node o .lst (intsT cells)]), some (.leaf (.int n)), none, none, some (.leaf (.int x)), none, none] := by
  refine Nx.mk ?_
  unfold t__law_take_12
  (repeat (first | (refine Nx.mk ?_; (try (dsimp only [nr_none, nr_some, nr_nil, nf_leaf, nf_pin, nf_node, nf_nil, nf_cons, ni_f, ni_t, nw_nil, nw_cons, ns_0, ns_s]))) | (refine And.intro ?_ ?_; focus (first | exact rfl | exact frz_frz _ | exact frz_nf _ _ | exact (show frz _ = _ by assumption) | (show frz _ = _; simp only [nf_node, nf_cons, nf_nil, nf_leaf, frzL_frzL, intsT_frz]; done) | exact frz_ints _ _ | exact Nat.le_of_ble_eq_true rfl | exact (show (0 : Int) < _ by decide) | exact (show (0 : Int) ≤ _ by decide) | exact ⟨show (0 : Int) < _ by decide, show Nat.log2 _ < _ by decide⟩ | exact Or.inl (Or.inr ⟨show (_ : Int) < _ by decide, show (_ : Int) < _ by decide⟩) | exact Or.inl (Or.inl ⟨show (_ : Int) < _ by decide, show (_ : Int) < _ by decide⟩) | exact ⟨show (0 : Int) ≤ _ by decide, show (_ : Int) ≤ _ by decide, show Int.natAbs _ < _ by decide⟩)) | refine Exists.intro _ (Exists.intro _ (And.intro rfl (And.intro rfl ?_))) | refine Exists.intro _ (And.intro (Le.rf _) ?_) | refine Exists.intro _ (And.intro rfl ?_)))
  (conv => whnf)
  refine ifB_dec (fun hx => ?_) (fun hx => ?_)
  · (repeat (first | (refine Nx.mk ?_; (try (dsimp only [nr_none, nr_some, nr_nil, nf_leaf, nf_pin, nf_node, nf_nil, nf_cons, ni_f, ni_t, nw_nil, nw_cons, ns_0, ns_s]))) | (refine And.intro ?_ ?_; focus (first | exact rfl | exact frz_frz _ | exact frz_nf _ _ | exact (show frz _ = _ by assumption) | (show frz _ = _; simp only [nf_node, nf_cons, nf_nil, nf_leaf, frzL_frzL, intsT_frz]; done) | exact frz_ints _ _ | exact Nat.le_of_ble_eq_true rfl | exact (show (0 : Int) < _ by decide) | exact (show (0 : Int) ≤ _ by decide) | exact ⟨show (0 : Int) < _ by decide, show Nat.log2 _ < _ by decide⟩ | exact Or.inl (Or.inr ⟨show (_ : Int) < _ by decide, show (_ : Int) < _ by decide⟩) | exact Or.inl (Or.inl ⟨show (_ : Int) < _ by decide, show (_ : Int) < _ by decide⟩) | exact ⟨show (0 : Int) ≤ _ by decide, show (_ : Int) ≤ _ by decide, show Int.natAbs _ < _ by decide⟩)) | refine Exists.intro _ (Exists.intro _ (And.intro rfl (And.intro rfl ?_))) | refine Exists.intro _ (And.intro (Le.rf _) ?_) | refine Exists.intro _ (And.intro rfl ?_)))
    exact hD (.node true .lst [.leaf (.int x), .leaf (.int ((c * 48271 + x % 2147483647 + 7919 * (d + 1)) % 2147483647)), .leaf (.int (d + 1)), .node o .lst (intsT cells)]) _ _ ⟨x, _, d + 1, o, cells, rfl, x0, Int.emod_nonneg _ (by decide), Int.emod_lt_of_pos _ (by decide), by omega, k5, k6⟩
  · (conv => whnf)
    refine Nx.mk ?_
    (repeat (first | (refine Nx.mk ?_; (try (dsimp only [nr_none, nr_some, nr_nil, nf_leaf, nf_pin, nf_node, nf_nil, nf_cons, ni_f, ni_t, nw_nil, nw_cons, ns_0, ns_s]))) | (refine And.intro ?_ ?_; focus (first | exact rfl | exact frz_frz _ | exact frz_nf _ _ | exact (show frz _ = _ by assumption) | (show frz _ = _; simp only [nf_node, nf_cons, nf_nil, nf_leaf, frzL_frzL, intsT_frz]; done) | exact frz_ints _ _ | exact Nat.le_of_ble_eq_true rfl | exact (show (0 : Int) < _ by decide) | exact (show (0 : Int) ≤ _ by decide) | exact ⟨show (0 : Int) < _ by decide, show Nat.log2 _ < _ by decide⟩ | exact Or.inl (Or.inr ⟨show (_ : Int) < _ by decide, show (_ : Int) < _ by decide⟩) | exact Or.inl (Or.inl ⟨show (_ : Int) < _ by decide, show (_ : Int) < _ by decide⟩) | exact ⟨show (0 : Int) ≤ _ by decide, show (_ : Int) ≤ _ by decide, show Int.natAbs _ < _ by decide⟩)) | refine Exists.intro _ (Exists.intro _ (And.intro rfl (And.intro rfl ?_))) | refine Exists.intro _ (And.intro (Le.rf _) ?_) | refine Exists.intro _ (And.intro rfl ?_)))
    exact hD (.node true .lst [.leaf (.int a), .leaf (.int ((c * 48271 + x % 2147483647 + 7919 * (d + 1)) % 2147483647)), .leaf (.int (d + 1)), .node o .lst (intsT cells)]) _ _ ⟨a, _, d + 1, o, cells, rfl, k1, Int.emod_nonneg _ (by decide), Int.emod_lt_of_pos _ (by decide), by omega, k5, k6⟩
theorem take_high {n : Int} {bag : T} {D : DEnds} (hb : IsBag bag) (hD : ∀ bag' g4 g5, IsBag bag' → D.nx [some bag', some (.leaf (.int n)), none, none, g4, g5, none]) : t__law_take_14 D [some bag, some (.leaf (.int n)), none, none, none, none, none] := by
  obtain ⟨a, c, d, o, cells, rfl, k1, k2, k3, k4, k5, k6⟩ := hb
  (repeat (first | (refine Nx.mk ?_; (try (dsimp only [nr_none, nr_some, nr_nil, nf_leaf, nf_pin, nf_node, nf_nil, nf_cons, ni_f, ni_t, nw_nil, nw_cons, ns_0, ns_s]))) | (refine And.intro ?_ ?_; focus (first | exact rfl | exact frz_frz _ | exact frz_nf _ _ | exact (show frz _ = _ by assumption) | (show frz _ = _; simp only [nf_node, nf_cons, nf_nil, nf_leaf, frzL_frzL, intsT_frz]; done) | exact frz_ints _ _ | exact Nat.le_of_ble_eq_true rfl | exact (show (0 : Int) < _ by decide) | exact (show (0 : Int) ≤ _ by decide) | exact ⟨show (0 : Int) < _ by decide, show Nat.log2 _ < _ by decide⟩ | exact Or.inl (Or.inr ⟨show (_ : Int) < _ by decide, show (_ : Int) < _ by decide⟩) | exact Or.inl (Or.inl ⟨show (_ : Int) < _ by decide, show (_ : Int) < _ by decide⟩) | exact ⟨show (0 : Int) ≤ _ by decide, show (_ : Int) ≤ _ by decide, show Int.natAbs _ < _ by decide⟩)) | refine Exists.intro _ (Exists.intro _ (And.intro rfl (And.intro rfl ?_))) | refine Exists.intro _ (And.intro (Le.rf _) ?_) | refine Exists.intro _ (And.intro rfl ?_)))
  refine ifB_dec (fun hb => ?_) (fun hb => ?_)
  · (repeat (first | (refine Nx.mk ?_; (try (dsimp only [nr_none, nr_some, nr_nil, nf_leaf, nf_pin, nf_node, nf_nil, nf_cons, ni_f, ni_t, nw_nil, nw_cons, ns_0, ns_s]))) | (refine And.intro ?_ ?_; focus (first | exact rfl | exact frz_frz _ | exact frz_nf _ _ | exact (show frz _ = _ by assumption) | (show frz _ = _; simp only [nf_node, nf_cons, nf_nil, nf_leaf, frzL_frzL, intsT_frz]; done) | exact frz_ints _ _ | exact Nat.le_of_ble_eq_true rfl | exact (show (0 : Int) < _ by decide) | exact (show (0 : Int) ≤ _ by decide) | exact ⟨show (0 : Int) < _ by decide, show Nat.log2 _ < _ by decide⟩ | exact Or.inl (Or.inr ⟨show (_ : Int) < _ by decide, show (_ : Int) < _ by decide⟩) | exact Or.inl (Or.inl ⟨show (_ : Int) < _ by decide, show (_ : Int) < _ by decide⟩) | exact ⟨show (0 : Int) ≤ _ by decide, show (_ : Int) ≤ _ by decide, show Int.natAbs _ < _ by decide⟩)) | refine Exists.intro _ (Exists.intro _ (And.intro rfl (And.intro rfl ?_))) | refine Exists.intro _ (And.intro (Le.rf _) ?_) | refine Exists.intro _ (And.intro rfl ?_)))
    (conv => whnf)
    refine ifB_dec (fun hl => ?_) (fun hl => ?_)
    · (repeat (first | (refine Nx.mk ?_; (try (dsimp only [nr_none, nr_some, nr_nil, nf_leaf, nf_pin, nf_node, nf_nil, nf_cons, ni_f, ni_t, nw_nil, nw_cons, ns_0, ns_s]))) | (refine And.intro ?_ ?_; focus (first | exact rfl | exact frz_frz _ | exact frz_nf _ _ | exact (show frz _ = _ by assumption) | (show frz _ = _; simp only [nf_node, nf_cons, nf_nil, nf_leaf, frzL_frzL, intsT_frz]; done) | exact frz_ints _ _ | exact Nat.le_of_ble_eq_true rfl | exact (show (0 : Int) < _ by decide) | exact (show (0 : Int) ≤ _ by decide) | exact ⟨show (0 : Int) < _ by decide, show Nat.log2 _ < _ by decide⟩ | exact Or.inl (Or.inr ⟨show (_ : Int) < _ by decide, show (_ : Int) < _ by decide⟩) | exact Or.inl (Or.inl ⟨show (_ : Int) < _ by decide, show (_ : Int) < _ by decide⟩) | exact ⟨show (0 : Int) ≤ _ by decide, show (_ : Int) ≤ _ by decide, show Int.natAbs _ < _ by decide⟩)) | refine Exists.intro _ (Exists.intro _ (And.intro rfl (And.intro rfl ?_))) | refine Exists.intro _ (And.intro (Le.rf _) ?_) | refine Exists.intro _ (And.intro rfl ?_)))
      have hfz : frz (.node o .lst (intsT cells)) = .node false .lst (intsT cells) := by
        show T.node false .lst (frzL (intsT cells)) = _
        rw [intsT_frz]
      simp only [frz_frz, hfz, frz_lints]
      have hd : d.toNat < cells.length := by
        rw [intsT_frz] at hl
        simp only [intsT, List.length_map] at hl
        omega
      obtain ⟨e, rfl⟩ : ∃ e : Nat, d = (e : Int) := ⟨d.toNat, by omega⟩
      have hd : e < cells.length := hd
      have hat : atI (intsT cells) (e : Int) = some (.leaf (.int cells[e])) := by
        unfold atI
        rw [ixN_nat, if_pos (by simp only [intsT, List.length_map]; exact hd)]
        show (intsT cells)[e]? = _
        simp only [intsT, List.getElem?_map, List.getElem?_eq_getElem hd]
        rfl
      refine ⟨_, hat, ?_⟩
      exact take_refill (o := false) (x := cells[e]) k1 k2 k3 k4 k5 k6 (k6 _ (List.getElem_mem hd)) hD
    · (conv => whnf)
      have hfz : frz (.node o .lst (intsT cells)) = .node false .lst (intsT cells) := by
        show T.node false .lst (frzL (intsT cells)) = _
        rw [intsT_frz]
      simp only [frz_frz, hfz, frz_lints]
      exact take_refill (o := false) (x := 0) k1 k2 k3 k4 k5 k6 (by decide) hD
  · (repeat (first | (refine Nx.mk ?_; (try (dsimp only [nr_none, nr_some, nr_nil, nf_leaf, nf_pin, nf_node, nf_nil, nf_cons, ni_f, ni_t, nw_nil, nw_cons, ns_0, ns_s]))) | (refine And.intro ?_ ?_; focus (first | exact rfl | exact frz_frz _ | exact frz_nf _ _ | exact (show frz _ = _ by assumption) | (show frz _ = _; simp only [nf_node, nf_cons, nf_nil, nf_leaf, frzL_frzL, intsT_frz]; done) | exact frz_ints _ _ | exact Nat.le_of_ble_eq_true rfl | exact (show (0 : Int) < _ by decide) | exact (show (0 : Int) ≤ _ by decide) | exact ⟨show (0 : Int) < _ by decide, show Nat.log2 _ < _ by decide⟩ | exact Or.inl (Or.inr ⟨show (_ : Int) < _ by decide, show (_ : Int) < _ by decide⟩) | exact Or.inl (Or.inl ⟨show (_ : Int) < _ by decide, show (_ : Int) < _ by decide⟩) | exact ⟨show (0 : Int) ≤ _ by decide, show (_ : Int) ≤ _ by decide, show Int.natAbs _ < _ by decide⟩)) | refine Exists.intro _ (Exists.intro _ (And.intro rfl (And.intro rfl ?_))) | refine Exists.intro _ (And.intro (Le.rf _) ?_) | refine Exists.intro _ (And.intro rfl ?_)))
    exact hD _ none none ⟨a, c, d, o, cells, rfl, k1, k2, k3, k4, k5, k6⟩
theorem rd__law_take {ts : List T} {Q : T → List T → Prop} {E : Value → List (Str × V) → List T → Prop} (h : sp__law_take ts Q E) : t__law_take (bodyEnds [true, false] Q E) (startE 7 (frzP [true, false] ts)) := by
  obtain ⟨b, n, rfl, hb, h2, h3, q⟩ := h
  exact take_high (D := seqE t__law_take_15 (bodyEnds [true, false] Q E)) hb fun bag' g4 g5 hb' => ⟨take_low hb' h2 h3 q⟩
theorem rd__law_alike {ts : List T} {Q : T → List T → Prop} {E : Value → List (Str × V) → List T → Prop} (h : sp__law_alike ts Q E) : t__law_alike (bodyEnds [false, false] Q E) (startE 2 (frzP [false, false] ts)) := by
  obtain ⟨a, b, d, rfl, ha, hb, hd, q⟩ := h
  (try simp only [np_t, np_f, np_n, ne_c, ne_n, ne_0, nf_leaf, nf_pin, nf_node])
  (repeat (first | (refine Nx.mk ?_; (try (dsimp only [nr_none, nr_some, nr_nil, nf_leaf, nf_pin, nf_node, nf_nil, nf_cons, ni_f, ni_t, nw_nil, nw_cons, ns_0, ns_s]))) | (refine And.intro ?_ ?_; focus (first | exact rfl | exact frz_frz _ | exact frz_nf _ _ | exact (show frz _ = _ by assumption) | (show frz _ = _; simp only [nf_node, nf_cons, nf_nil, nf_leaf, frzL_frzL, intsT_frz]; done) | exact frz_ints _ _ | exact Nat.le_of_ble_eq_true rfl | exact (show (0 : Int) < _ by decide) | exact (show (0 : Int) ≤ _ by decide) | exact ⟨show (0 : Int) < _ by decide, show Nat.log2 _ < _ by decide⟩ | exact Or.inl (Or.inr ⟨show (_ : Int) < _ by decide, show (_ : Int) < _ by decide⟩) | exact Or.inl (Or.inl ⟨show (_ : Int) < _ by decide, show (_ : Int) < _ by decide⟩) | exact ⟨show (0 : Int) ≤ _ by decide, show (_ : Int) ≤ _ by decide, show Int.natAbs _ < _ by decide⟩)) | refine Exists.intro _ (Exists.intro _ (And.intro rfl (And.intro rfl ?_))) | refine Exists.intro _ (And.intro (Le.rf _) ?_) | refine Exists.intro _ (And.intro rfl ?_)))
  refine rtEq_same (d := d) (by rw [toP_frz]; exact ha) (by rw [toP_frz]; exact hb) hd ?_
  (repeat (first | (refine Nx.mk ?_; (try (dsimp only [nr_none, nr_some, nr_nil, nf_leaf, nf_pin, nf_node, nf_nil, nf_cons, ni_f, ni_t, nw_nil, nw_cons, ns_0, ns_s]))) | (refine And.intro ?_ ?_; focus (first | exact rfl | exact frz_frz _ | exact frz_nf _ _ | exact (show frz _ = _ by assumption) | (show frz _ = _; simp only [nf_node, nf_cons, nf_nil, nf_leaf, frzL_frzL, intsT_frz]; done) | exact frz_ints _ _ | exact Nat.le_of_ble_eq_true rfl | exact (show (0 : Int) < _ by decide) | exact (show (0 : Int) ≤ _ by decide) | exact ⟨show (0 : Int) < _ by decide, show Nat.log2 _ < _ by decide⟩ | exact Or.inl (Or.inr ⟨show (_ : Int) < _ by decide, show (_ : Int) < _ by decide⟩) | exact Or.inl (Or.inl ⟨show (_ : Int) < _ by decide, show (_ : Int) < _ by decide⟩) | exact ⟨show (0 : Int) ≤ _ by decide, show (_ : Int) ≤ _ by decide, show Int.natAbs _ < _ by decide⟩)) | refine Exists.intro _ (Exists.intro _ (And.intro rfl (And.intro rfl ?_))) | refine Exists.intro _ (And.intro (Le.rf _) ?_) | refine Exists.intro _ (And.intro rfl ?_)))
  refine ⟨_, ReprS.of (by rw [toP_frz]; exact ha) hd, ?_⟩
  (repeat (first | (refine Nx.mk ?_; (try (dsimp only [nr_none, nr_some, nr_nil, nf_leaf, nf_pin, nf_node, nf_nil, nf_cons, ni_f, ni_t, nw_nil, nw_cons, ns_0, ns_s]))) | (refine And.intro ?_ ?_; focus (first | exact rfl | exact frz_frz _ | exact frz_nf _ _ | exact (show frz _ = _ by assumption) | (show frz _ = _; simp only [nf_node, nf_cons, nf_nil, nf_leaf, frzL_frzL, intsT_frz]; done) | exact frz_ints _ _ | exact Nat.le_of_ble_eq_true rfl | exact (show (0 : Int) < _ by decide) | exact (show (0 : Int) ≤ _ by decide) | exact ⟨show (0 : Int) < _ by decide, show Nat.log2 _ < _ by decide⟩ | exact Or.inl (Or.inr ⟨show (_ : Int) < _ by decide, show (_ : Int) < _ by decide⟩) | exact Or.inl (Or.inl ⟨show (_ : Int) < _ by decide, show (_ : Int) < _ by decide⟩) | exact ⟨show (0 : Int) ≤ _ by decide, show (_ : Int) ≤ _ by decide, show Int.natAbs _ < _ by decide⟩)) | refine Exists.intro _ (Exists.intro _ (And.intro rfl (And.intro rfl ?_))) | refine Exists.intro _ (And.intro (Le.rf _) ?_) | refine Exists.intro _ (And.intro rfl ?_)))
  refine ⟨_, ReprS.of (by rw [toP_frz]; exact hb) hd, ?_⟩
  show Q (.leaf (.bl (decide (d.shown = d.shown)))) []
  rw [decide_eq_true rfl]
  exact q
theorem rd__law_one {ts : List T} {Q : T → List T → Prop} {E : Value → List (Str × V) → List T → Prop} (h : sp__law_one ts Q E) : t__law_one (bodyEnds [true, false] Q E) (startE 2 (frzP [true, false] ts)) := by
  obtain ⟨b, o, its, rfl, hb, h2, h3, q⟩ := h
  have hpos : 0 < its.length := by
    cases its with
    | nil => exact absurd rfl h2
    | cons => simp
  (try simp only [np_t, np_f, np_n, ne_c, ne_n, ne_0, nf_leaf, nf_pin, nf_node])
  (repeat (first | (refine Nx.mk ?_; (try (dsimp only [nr_none, nr_some, nr_nil, nf_leaf, nf_pin, nf_node, nf_nil, nf_cons, ni_f, ni_t, nw_nil, nw_cons, ns_0, ns_s]))) | (refine And.intro ?_ ?_; focus (first | exact rfl | exact frz_frz _ | exact frz_nf _ _ | exact (show frz _ = _ by assumption) | (show frz _ = _; simp only [nf_node, nf_cons, nf_nil, nf_leaf, frzL_frzL, intsT_frz]; done) | exact frz_ints _ _ | exact Nat.le_of_ble_eq_true rfl | exact (show (0 : Int) < _ by decide) | exact (show (0 : Int) ≤ _ by decide) | exact ⟨show (0 : Int) < _ by decide, show Nat.log2 _ < _ by decide⟩ | exact Or.inl (Or.inr ⟨show (_ : Int) < _ by decide, show (_ : Int) < _ by decide⟩) | exact Or.inl (Or.inl ⟨show (_ : Int) < _ by decide, show (_ : Int) < _ by decide⟩) | exact ⟨show (0 : Int) ≤ _ by decide, show (_ : Int) ≤ _ by decide, show Int.natAbs _ < _ by decide⟩)) | refine Exists.intro _ (Exists.intro _ (And.intro rfl (And.intro rfl ?_))) | refine Exists.intro _ (And.intro (Le.rf _) ?_) | refine Exists.intro _ (And.intro rfl ?_)))
  have e : (frzL its).length = its.length := by rw [frzL_map, List.length_map]
  refine ⟨b, ((frzL its).length : Int), rfl, hb, by omega, by omega, fun r bag' r0 r1 hb' => ?_⟩
  (repeat (first | (refine Nx.mk ?_; (try (dsimp only [nr_none, nr_some, nr_nil, nf_leaf, nf_pin, nf_node, nf_nil, nf_cons, ni_f, ni_t, nw_nil, nw_cons, ns_0, ns_s]))) | (refine And.intro ?_ ?_; focus (first | exact rfl | exact frz_frz _ | exact frz_nf _ _ | exact (show frz _ = _ by assumption) | (show frz _ = _; simp only [nf_node, nf_cons, nf_nil, nf_leaf, frzL_frzL, intsT_frz]; done) | exact frz_ints _ _ | exact Nat.le_of_ble_eq_true rfl | exact (show (0 : Int) < _ by decide) | exact (show (0 : Int) ≤ _ by decide) | exact ⟨show (0 : Int) < _ by decide, show Nat.log2 _ < _ by decide⟩ | exact Or.inl (Or.inr ⟨show (_ : Int) < _ by decide, show (_ : Int) < _ by decide⟩) | exact Or.inl (Or.inl ⟨show (_ : Int) < _ by decide, show (_ : Int) < _ by decide⟩) | exact ⟨show (0 : Int) ≤ _ by decide, show (_ : Int) ≤ _ by decide, show Int.natAbs _ < _ by decide⟩)) | refine Exists.intro _ (Exists.intro _ (And.intro rfl (And.intro rfl ?_))) | refine Exists.intro _ (And.intro (Le.rf _) ?_) | refine Exists.intro _ (And.intro rfl ?_)))
  obtain ⟨k, rfl⟩ := Int.eq_ofNat_of_zero_le r0
  have hk : k < (frzL its).length := by omega
  have hk2 : k < its.length := by omega
  have ha : atI (frzL its) (k : Int) = some (frz its[k]) := by
    unfold atI
    rw [ixN_nat, if_pos hk]
    show (frzL its)[k]? = _
    simp only [frzL_map, List.getElem?_map, List.getElem?_eq_getElem hk2]
    rfl
  refine Exists.intro _ (And.intro ha ?_)
  have := q its[k] bag' (List.getElem_mem hk2) hb'
  rw [← frz_frz] at this
  exact this
theorem nat_and_pow (n k : Nat) : n &&& 2 ^ k = n / 2 ^ k % 2 * 2 ^ k := by
  apply Nat.eq_of_testBit_eq
  intro i
  rw [Nat.testBit_and, Nat.testBit_two_pow]
  have h2 : n / 2 ^ k % 2 = 0 ∨ n / 2 ^ k % 2 = 1 := by omega
  have ht : n.testBit k = decide (n / 2 ^ k % 2 = 1) := Nat.testBit_eq_decide_div_mod_eq
  rcases h2 with h2 | h2
  · rw [h2, Nat.zero_mul, Nat.zero_testBit]
    by_cases e : k = i
    · subst e
      rw [ht, h2]
      simp
    · simp [e]
  · rw [h2, Nat.one_mul, Nat.testBit_two_pow]
    by_cases e : k = i
    · subst e
      rw [ht, h2]
      simp
    · simp [e]
theorem bitAnd_pow {m : Int} (hm : 0 ≤ m) (k : Nat) : Builtin.bitAnd m (2 ^ k) = m / 2 ^ k % 2 * 2 ^ k := by
  obtain ⟨n, rfl⟩ := Int.eq_ofNat_of_zero_le hm
  rw [PyProof.Rows.two_pow_cast, PyProof.Rows.bitAnd_pp (Int.natCast_nonneg _) (Int.natCast_nonneg _), Int.toNat_natCast, Int.toNat_natCast, nat_and_pow]
  simp
theorem pow_nn (k : Nat) : (0 : Int) ≤ 2 ^ k := by
  rw [PyProof.Rows.two_pow_cast]
  exact Int.natCast_nonneg _
theorem pow_pos' (k : Nat) : (0 : Int) < 2 ^ k := by
  rw [PyProof.Rows.two_pow_cast]
  have := Nat.two_pow_pos k
  omega
theorem small_lit {i : Int} (h : i.natAbs < 100000) : i.natAbs < 2 ^ 1800 := small_of_abs (Nat.lt_of_lt_of_le h (by decide))
theorem toP_ints (o : Bool) (ns : List Int) : toP (.node o .lst (intsT ns)) = some (.list (ns.map .int)) := by
  simp only [toP, toPL_ints]
  rfl
theorem rangeT_get {lo : Int} {n i : Nat} {t : T} (h : (rangeT lo n)[i]? = some t) : i < n ∧ t = .leaf (.int (lo + i)) := by
  unfold rangeT at h
  rw [List.getElem?_map] at h
  by_cases hi : i < n
  · rw [List.getElem?_range hi] at h
    cases h
    exact ⟨hi, rfl⟩
  · rw [List.getElem?_eq_none (by simpa using hi)] at h
    cases h
theorem rangeT_mem {n : Nat} {t : T} (h : t ∈ rangeT 0 n) : ∃ k : Nat, k < n ∧ t = .leaf (.int (k : Int)) := by
  obtain ⟨k, hk, rfl⟩ := List.mem_map.mp h
  exact ⟨k, List.mem_range.mp hk, by rw [Int.zero_add]⟩
theorem rangeT_len (lo : Int) (n : Nat) : (rangeT lo n).length = n := by simp [rangeT]
theorem bit_nat (n k : Nat) : bit (n : Int) k ↔ n.testBit k = true := by
  rw [Nat.testBit_eq_decide_div_mod_eq, decide_eq_true_eq]
  unfold bit
  rw [PyProof.Rows.two_pow_cast]
  omega
theorem maskN_lt (p : Nat → Bool) : ∀ n, maskN p n < 2 ^ n
  | 0 => by simp [maskN]
  | n + 1 => by
    have := maskN_lt p n
    unfold maskN
    rw [Nat.pow_succ]
    split <;> omega
theorem maskN_bit (p : Nat → Bool) : ∀ n k, (maskN p n).testBit k = (decide (k < n) && p k)
  | 0, k => by simp [maskN]
  | n + 1, k => by
    have ih := maskN_bit p n k
    have hl := maskN_lt p n
    unfold maskN
    by_cases hk : k = n
    · subst hk
      have e0 : (maskN p k).testBit k = false := Nat.testBit_lt_two_pow hl
      split
      · rename_i h
        rw [Nat.testBit_two_pow_add_eq, e0, h]
        simp
      · rename_i h
        rw [e0]
        simp [h]
    · split
      · rename_i h
        by_cases hlt : k < n
        · rw [Nat.testBit_two_pow_add_gt hlt, ih]
          simp [hlt, Nat.lt_succ_of_lt hlt]
        · have h1 : 2 ^ n + maskN p n < 2 ^ k := by
            have : 2 ^ (n + 1) ≤ 2 ^ k := Nat.pow_le_pow_right (by decide) (by omega)
            rw [Nat.pow_succ] at this
            omega
          rw [Nat.testBit_lt_two_pow h1]
          have : ¬ k < n + 1 := by omega
          simp [this]
      · rw [ih]
        by_cases hlt : k < n
        · simp [hlt, Nat.lt_succ_of_lt hlt]
        · have : ¬ k < n + 1 := by omega
          simp [hlt, this]
theorem maskN_sum (p : Nat → Bool) : ∀ n, ((List.range n).filterMap fun k => if p k then some ((2 : Int) ^ k) else none).sum = (maskN p n : Int)
  | 0 => by simp [maskN]
  | n + 1 => by
    rw [List.range_succ, List.filterMap_append, List.sum_append, maskN_sum p n]
    show _ = ((if p n then 2 ^ n + maskN p n else maskN p n : Nat) : Int)
    by_cases h : p n = true
    · rw [if_pos h, Int.natCast_add, ← PyProof.Rows.two_pow_cast, Int.add_comm]
      congr 1
      simp only [List.filterMap_cons, List.filterMap_nil, if_pos h, List.sum_cons, List.sum_nil, Int.add_zero]
    · rw [if_neg h]
      simp only [List.filterMap_cons, List.filterMap_nil, if_neg h, List.sum_nil, Int.add_zero]
theorem maskN_and (a b n : Nat) (ha : a < 2 ^ n) : maskN (fun k => a.testBit k && b.testBit k) n = a &&& b := by
  apply Nat.eq_of_testBit_eq
  intro k
  rw [maskN_bit, Nat.testBit_and]
  by_cases hk : k < n
  · simp [hk]
  · have : a.testBit k = false := Nat.testBit_lt_two_pow (Nat.lt_of_lt_of_le ha (Nat.pow_le_pow_right (by decide) (by omega)))
    simp [hk, this]
theorem rd__law_mixed {ts : List T} {Q : T → List T → Prop} {E : Value → List (Str × V) → List T → Prop} (h : sp__law_mixed ts Q E) : t__law_mixed (bodyEnds [true, false] Q E) (startE 4 (frzP [true, false] ts)) := by
  obtain ⟨bag, o, its, rfl, hb, hl, q⟩ := h
  (try simp only [np_t, np_f, np_n, ne_c, ne_n, ne_0, nf_leaf, nf_pin, nf_node])
  (repeat (first | (refine Nx.mk ?_; (try (dsimp only [nr_none, nr_some, nr_nil, nf_leaf, nf_pin, nf_node, nf_nil, nf_cons, ni_f, ni_t, nw_nil, nw_cons, ns_0, ns_s]))) | (refine And.intro ?_ ?_; focus (first | exact rfl | exact frz_frz _ | exact frz_nf _ _ | exact (show frz _ = _ by assumption) | (show frz _ = _; simp only [nf_node, nf_cons, nf_nil, nf_leaf, frzL_frzL, intsT_frz]; done) | exact frz_ints _ _ | exact Nat.le_of_ble_eq_true rfl | exact (show (0 : Int) < _ by decide) | exact (show (0 : Int) ≤ _ by decide) | exact ⟨show (0 : Int) < _ by decide, show Nat.log2 _ < _ by decide⟩ | exact Or.inl (Or.inr ⟨show (_ : Int) < _ by decide, show (_ : Int) < _ by decide⟩) | exact Or.inl (Or.inl ⟨show (_ : Int) < _ by decide, show (_ : Int) < _ by decide⟩) | exact ⟨show (0 : Int) ≤ _ by decide, show (_ : Int) ≤ _ by decide, show Int.natAbs _ < _ by decide⟩)) | refine Exists.intro _ (Exists.intro _ (And.intro rfl (And.intro rfl ?_))) | refine Exists.intro _ (And.intro (Le.rf _) ?_) | refine Exists.intro _ (And.intro rfl ?_)))
  (conv => whnf)
  rw [frzL_frzL]
  refine Loop.fit (frzL its) id (List.map_id _).symm (fun z : T × List T => [some (some z.1), some (some (.node false .lst (frzL its))), some (some (.node true .lst z.2)), none]) (fun i z => IsBag z.1 ∧ z.2.Perm ((frzL its).take i)) (bag, []) ⟨hb, .refl _⟩ (by repeat' (first | exact Fits.e | refine Fits.n ?_ | refine Fits.s rfl ?_)) (fun i t z g ht hI hF R hR => ?_) fun z g hI hF => ?_
  · (repeat (first | (obtain ⟨_, rfl, hF⟩ := hF) | (obtain ⟨_, _, rfl, hF⟩ := hF))); (try cases hF)
    obtain ⟨hb', hp⟩ := hI
    have hl2 : z.2.length ≤ 10000 := by rw [hp.length_eq, List.length_take, frzL_length]; omega
    have ft : frz t = t := frzL_get ht
    (repeat (first | (refine Nx.mk ?_; (try (dsimp only [nr_none, nr_some, nr_nil, nf_leaf, nf_pin, nf_node, nf_nil, nf_cons, ni_f, ni_t, nw_nil, nw_cons, ns_0, ns_s]))) | (refine And.intro ?_ ?_; focus (first | exact rfl | exact frz_frz _ | exact frz_nf _ _ | exact (show frz _ = _ by assumption) | (show frz _ = _; simp only [nf_node, nf_cons, nf_nil, nf_leaf, frzL_frzL, intsT_frz]; done) | exact frz_ints _ _ | exact Nat.le_of_ble_eq_true rfl | exact (show (0 : Int) < _ by decide) | exact (show (0 : Int) ≤ _ by decide) | exact ⟨show (0 : Int) < _ by decide, show Nat.log2 _ < _ by decide⟩ | exact Or.inl (Or.inr ⟨show (_ : Int) < _ by decide, show (_ : Int) < _ by decide⟩) | exact Or.inl (Or.inl ⟨show (_ : Int) < _ by decide, show (_ : Int) < _ by decide⟩) | exact ⟨show (0 : Int) ≤ _ by decide, show (_ : Int) ≤ _ by decide, show Int.natAbs _ < _ by decide⟩)) | refine Exists.intro _ (Exists.intro _ (And.intro rfl (And.intro rfl ?_))) | refine Exists.intro _ (And.intro (Le.rf _) ?_) | refine Exists.intro _ (And.intro rfl ?_)))
    refine ⟨z.1, _, rfl, hb', by omega, .inl (by rw [frzL_length]; omega), fun r bag' r0 r1 hb2 => ?_⟩
    rw [frzL_length] at r1
    (repeat (first | (refine Nx.mk ?_; (try (dsimp only [nr_none, nr_some, nr_nil, nf_leaf, nf_pin, nf_node, nf_nil, nf_cons, ni_f, ni_t, nw_nil, nw_cons, ns_0, ns_s]))) | (refine And.intro ?_ ?_; focus (first | exact rfl | exact frz_frz _ | exact frz_nf _ _ | exact (show frz _ = _ by assumption) | (show frz _ = _; simp only [nf_node, nf_cons, nf_nil, nf_leaf, frzL_frzL, intsT_frz]; done) | exact frz_ints _ _ | exact Nat.le_of_ble_eq_true rfl | exact (show (0 : Int) < _ by decide) | exact (show (0 : Int) ≤ _ by decide) | exact ⟨show (0 : Int) < _ by decide, show Nat.log2 _ < _ by decide⟩ | exact Or.inl (Or.inr ⟨show (_ : Int) < _ by decide, show (_ : Int) < _ by decide⟩) | exact Or.inl (Or.inl ⟨show (_ : Int) < _ by decide, show (_ : Int) < _ by decide⟩) | exact ⟨show (0 : Int) ≤ _ by decide, show (_ : Int) ≤ _ by decide, show Int.natAbs _ < _ by decide⟩)) | refine Exists.intro _ (Exists.intro _ (And.intro rfl (And.intro rfl ?_))) | refine Exists.intro _ (And.intro (Le.rf _) ?_) | refine Exists.intro _ (And.intro rfl ?_)))
    refine And.intro ⟨(show z.2.length < 16777216 by omega), r0, by omega⟩ ?_
    have eft : (if false = true then id t else frz (id t)) = t := ft
    simp only [eft]
    refine hR (bag', z.2.take r.toNat ++ [t] ++ z.2.drop r.toNat) _ ⟨hb2, ?_⟩ (by repeat' (first | exact Fits.e | refine Fits.n ?_ | refine Fits.s rfl ?_))
    rw [List.take_add_one, ht]
    have p1 : (z.2.take r.toNat ++ [t] ++ z.2.drop r.toNat).Perm (t :: z.2) := by
      rw [List.append_assoc]
      refine List.perm_middle.trans (List.Perm.cons _ ?_)
      exact List.Perm.of_eq (List.take_append_drop _ _)
    refine p1.trans ((List.Perm.cons _ hp).trans ?_)
    exact (List.perm_append_comm (l₁ := [t]))
  · (repeat (first | (obtain ⟨_, rfl, hF⟩ := hF) | (obtain ⟨_, _, rfl, hF⟩ := hF))); (try cases hF)
    (repeat (first | (refine Nx.mk ?_; (try (dsimp only [nr_none, nr_some, nr_nil, nf_leaf, nf_pin, nf_node, nf_nil, nf_cons, ni_f, ni_t, nw_nil, nw_cons, ns_0, ns_s]))) | (refine And.intro ?_ ?_; focus (first | exact rfl | exact frz_frz _ | exact frz_nf _ _ | exact (show frz _ = _ by assumption) | (show frz _ = _; simp only [nf_node, nf_cons, nf_nil, nf_leaf, frzL_frzL, intsT_frz]; done) | exact frz_ints _ _ | exact Nat.le_of_ble_eq_true rfl | exact (show (0 : Int) < _ by decide) | exact (show (0 : Int) ≤ _ by decide) | exact ⟨show (0 : Int) < _ by decide, show Nat.log2 _ < _ by decide⟩ | exact Or.inl (Or.inr ⟨show (_ : Int) < _ by decide, show (_ : Int) < _ by decide⟩) | exact Or.inl (Or.inl ⟨show (_ : Int) < _ by decide, show (_ : Int) < _ by decide⟩) | exact ⟨show (0 : Int) ≤ _ by decide, show (_ : Int) ≤ _ by decide, show Int.natAbs _ < _ by decide⟩)) | refine Exists.intro _ (Exists.intro _ (And.intro rfl (And.intro rfl ?_))) | refine Exists.intro _ (And.intro (Le.rf _) ?_) | refine Exists.intro _ (And.intro rfl ?_)))
    rw [List.take_of_length_le (Nat.le_refl _)] at hI
    exact q _ _ hI.2 hI.1
end L31
set_option Elab.async false
set_option linter.all false
set_option maxRecDepth 100000
set_option maxHeartbeats 4000000
namespace L31
open PySem L2 DL
--NORM3
--SIMP frz_strs tls_frz
theorem fm_some {α β : Type} (f : α → β) : ∀ l : List α, l.filterMap (fun s => some (f s)) = l.map f
  | [] => rfl
  | a :: l => by simp [fm_some f l]
theorem fm_filterB {α β : Type} (f : α → β) (P : α → Bool) : ∀ l : List α, l.filterMap (fun p => if P p = true then some (f p) else none) = (l.filter P).map f
  | [] => rfl
  | a :: l => by
    by_cases h : P a = true
    · simp [h, fm_filterB f P l]
    · have h : P a = false := by simpa using h
      simp [h, fm_filterB f P l]
theorem len_intsT (ns : List Int) : (intsT ns).length = ns.length := by
  unfold intsT
  rw [List.length_map]
section
variable {β : Type} [DecidableEq β] {num day : β → Int}
theorem leI2_trans : ∀ a b c : Int, leI2 a b = true → leI2 b c = true → leI2 a c = true := fun a b c h1 h2 => by
  simp only [decide_eq_true_eq] at *
  omega
theorem leI2_total : ∀ a b : Int, (leI2 a b || leI2 b a) = true := fun a b => by
  simp only [Bool.or_eq_true, decide_eq_true_eq]
  omega
theorem insG_keys (b : β) : ∀ G : List (Int × List β), (insG num G b).map (·.1) = if num b ∈ G.map (·.1) then G.map (·.1) else G.map (·.1) ++ [num b]
  | [] => by simp [insG]
  | p :: r => by
    have ih := insG_keys b r
    unfold insG
    by_cases h : p.1 = num b
    · simp [h]
    · rw [if_neg h, List.map_cons, ih]
      have h2 : ¬ num b = p.1 := fun e => h e.symm
      by_cases h3 : num b ∈ r.map (·.1)
      · rw [if_pos h3, if_pos (by rw [List.map_cons]; exact List.mem_cons_of_mem _ h3)]
        rfl
      · rw [if_neg h3, if_neg (by rw [List.map_cons, List.mem_cons]; rintro (e | e); exact h2 e; exact h3 e)]
        rfl
def El (num : β → Int) (L : List β) (p : Int × List β) : Prop := p.2 ≠ [] ∧ p.2.Nodup ∧ ∀ x, x ∈ p.2 ↔ x ∈ L ∧ num x = p.1
theorem El.more {L : List β} {b : β} {p : Int × List β} (h : El num L p) (n : p.1 ≠ num b) : El num (L ++ [b]) p := by
  refine ⟨h.1, h.2.1, fun x => ?_⟩
  rw [h.2.2 x, List.mem_append, List.mem_singleton]
  constructor
  · exact fun z => ⟨.inl z.1, z.2⟩
  · rintro ⟨z | z, e⟩
    · exact ⟨z, e⟩
    · subst z
      exact absurd e.symm n
theorem insG_el {L : List β} {b : β} : ∀ {G : List (Int × List β)}, (G.map (·.1)).Nodup → (∀ p ∈ G, El num L p) → (∀ x ∈ L, num x = num b → ∃ p ∈ G, p.1 = num b) → ∀ p ∈ insG num G b, El num (L ++ [b]) p
  | [], _, _, h3, p, hp => by
    unfold insG at hp
    rw [List.mem_singleton.mp hp]
    refine ⟨by simp, by simp, fun x => ?_⟩
    show x ∈ [b] ↔ x ∈ L ++ [b] ∧ num x = num b
    rw [List.mem_append, List.mem_singleton]
    constructor
    · rintro rfl
      exact ⟨.inr rfl, rfl⟩
    · rintro ⟨z | z, e⟩
      · obtain ⟨_, q, _⟩ := h3 x z e
        cases q
      · exact z
  | q :: r, h1, h2, h3, p, hp => by
    rw [List.map_cons, List.nodup_cons] at h1
    unfold insG at hp
    by_cases e : q.1 = num b
    · rw [if_pos e] at hp
      rcases List.mem_cons.mp hp with rfl | hp
      · obtain ⟨k1, k2, k3⟩ := h2 q List.mem_cons_self
        refine ⟨?_, ?_, fun x => ?_⟩
        · show (if b ∈ q.2 then q.2 else q.2 ++ [b]) ≠ []
          split
          · exact k1
          · simp
        · show (if b ∈ q.2 then q.2 else q.2 ++ [b]).Nodup
          split
          · exact k2
          · rename_i hb
            exact List.nodup_append.mpr ⟨k2, by simp, fun x hx y hy exy => by
              rw [List.mem_singleton.mp hy] at exy
              subst exy
              exact hb hx⟩
        · show x ∈ (if b ∈ q.2 then q.2 else q.2 ++ [b]) ↔ x ∈ L ++ [b] ∧ num x = q.1
          rw [List.mem_append, List.mem_singleton]
          split
          · rename_i hb
            rw [k3 x]
            constructor
            · exact fun z => ⟨.inl z.1, z.2⟩
            · rintro ⟨z | z, e⟩
              · exact ⟨z, e⟩
              · subst z
                exact (k3 x).mp hb
          · rw [List.mem_append, List.mem_singleton, k3 x]
            constructor
            · rintro (z | z)
              · exact ⟨.inl z.1, z.2⟩
              · subst z
                exact ⟨.inr rfl, e.symm⟩
            · rintro ⟨z | z, e⟩
              · exact .inl ⟨z, e⟩
              · exact .inr z
      · have : p.1 ≠ q.1 := fun z => h1.1 (z ▸ List.mem_map_of_mem hp)
        exact (h2 p (List.mem_cons_of_mem _ hp)).more (e ▸ this)
    · rw [if_neg e] at hp
      rcases List.mem_cons.mp hp with rfl | hp
      · exact (h2 p List.mem_cons_self).more e
      · refine insG_el h1.2 (fun p hp => h2 p (List.mem_cons_of_mem _ hp)) (fun x hx ex => ?_) p hp
        obtain ⟨p', hp', e'⟩ := h3 x hx ex
        rcases List.mem_cons.mp hp' with rfl | hp'
        · exact absurd e' e
        · exact ⟨p', hp', e'⟩
structure GOk (num : β → Int) (L : List β) (G : List (Int × List β)) : Prop where
  nd : (G.map (·.1)).Nodup
  el : ∀ p ∈ G, El num L p
  al : ∀ x ∈ L, num x ∈ G.map (·.1)
theorem GOk.ins {L : List β} {G : List (Int × List β)} (h : GOk num L G) (b : β) : GOk num (L ++ [b]) (insG num G b) := by
  refine ⟨?_, insG_el h.nd h.el fun x hx e => ?_, fun x hx => ?_⟩
  · rw [insG_keys]
    split
    · exact h.nd
    · rename_i hb
      exact List.nodup_append.mpr ⟨h.nd, by simp, fun x hx y hy e => by
        rw [List.mem_singleton.mp hy] at e
        subst e
        exact hb hx⟩
  · obtain ⟨p, hp, e2⟩ := List.mem_map.mp (h.al x hx)
    exact ⟨p, hp, by rw [e2, e]⟩
  · rw [insG_keys]
    rcases List.mem_append.mp hx with z | z
    · have := h.al x z
      split
      · exact this
      · exact List.mem_append_left _ this
    · rw [List.mem_singleton.mp z]
      split
      · assumption
      · exact List.mem_append_right _ List.mem_cons_self
theorem grp_snoc (bs : List β) (b : β) : grp num (bs ++ [b]) = insG num (grp num bs) b := by
  unfold grp
  rw [List.foldl_append]
  rfl
theorem grp_ok (bs : List β) : GOk num bs (grp num bs) := by
  have key : ∀ (r L : List β) (G : List (Int × List β)), GOk num L G → GOk num (L ++ r) (r.foldl (insG num) G) := by
    intro r
    induction r with
    | nil => exact fun L G h => by rw [List.append_nil]; exact h
    | cons b r ih =>
      intro L G h
      have := ih (L ++ [b]) _ (h.ins b)
      rw [List.append_assoc] at this
      exact this
  exact key bs [] [] ⟨.nil, fun p hp => (nomatch hp), fun x hx => (nomatch hx)⟩
theorem only1_some {l : List β} {x : β} : only1 l = some x ↔ l = [x] := by
  unfold only1
  split
  · simp
  · rename_i h
    constructor
    · exact fun z => nomatch z
    · exact fun z => absurd z (h x)
def Aln (num : β → Int) (L : List β) (x : β) : Prop := x ∈ L ∧ ∀ y ∈ L, num y = num x → y = x
theorem El.one {L : List β} {p : Int × List β} {x : β} (h : El num L p) : only1 p.2 = some x ↔ Aln num L x ∧ num x = p.1 := by
  rw [only1_some]
  constructor
  · intro e
    have hx := (h.2.2 x).mp (by rw [e]; exact List.mem_cons_self)
    refine ⟨⟨hx.1, fun y hy ey => ?_⟩, hx.2⟩
    have := (h.2.2 y).mpr ⟨hy, ey.trans hx.2⟩
    rw [e] at this
    exact List.mem_singleton.mp this
  · rintro ⟨⟨h1, h2⟩, e⟩
    have all : ∀ y ∈ p.2, y = x := fun y hy => by
      have := (h.2.2 y).mp hy
      exact h2 y this.1 (this.2.trans e.symm)
    cases hp : p.2 with
    | nil => exact absurd hp h.1
    | cons a r =>
      rw [hp] at all
      have nd := h.2.1
      rw [hp, List.nodup_cons] at nd
      obtain rfl := all a List.mem_cons_self
      cases r with
      | nil => rfl
      | cons c r =>
        obtain rfl := all c (List.mem_cons_of_mem _ List.mem_cons_self)
        exact absurd List.mem_cons_self nd.1
theorem mem_alone {L : List β} {x : β} : x ∈ aloneG (grp num L) ↔ Aln num L x := by
  have g := grp_ok (num := num) L
  unfold aloneG
  rw [List.mem_filterMap]
  constructor
  · rintro ⟨p, hp, e⟩
    exact ((g.el p hp).one.mp e).1
  · intro h
    obtain ⟨p, hp, e⟩ := List.mem_map.mp (g.al x h.1)
    exact ⟨p, hp, (g.el p hp).one.mpr ⟨h, e.symm⟩⟩
theorem alone_nd (L : List β) : ((aloneG (grp num L)).map num).Nodup := by
  have g := grp_ok (num := num) L
  have key : ∀ G : List (Int × List β), (∀ p ∈ G, El num L p) → ∀ n ∈ (aloneG G).map num, n ∈ G.map (·.1) := fun G h n hn => by
    obtain ⟨x, hx, rfl⟩ := List.mem_map.mp hn
    obtain ⟨p, hp, e⟩ := List.mem_filterMap.mp hx
    rw [((h p hp).one.mp e).2]
    exact List.mem_map_of_mem hp
  have go : ∀ G : List (Int × List β), (G.map (·.1)).Nodup → (∀ p ∈ G, El num L p) → ((aloneG G).map num).Nodup := by
    intro G
    induction G with
    | nil => exact fun _ _ => .nil
    | cons p r ih =>
      intro nd el
      rw [List.map_cons, List.nodup_cons] at nd
      have h1 := ih nd.2 fun q hq => el q (List.mem_cons_of_mem _ hq)
      unfold aloneG
      rw [List.filterMap_cons]
      cases e : only1 p.2 with
      | none => exact h1
      | some x =>
        show (num x :: (aloneG r).map num).Nodup
        rw [List.nodup_cons]
        refine ⟨fun z => nd.1 ?_, h1⟩
        rw [← (((el p List.mem_cons_self).one).mp e).2]
        exact key r (fun q hq => el q (List.mem_cons_of_mem _ hq)) _ z
  exact go _ g.nd g.el
theorem find_get : ∀ {G : List (Int × List β)} {p : Int × List β}, (G.map (·.1)).Nodup → p ∈ G → getG G p.1 = p.2
  | q :: r, p, nd, hp => by
    rw [List.map_cons, List.nodup_cons] at nd
    unfold getG
    rw [List.find?_cons]
    rcases List.mem_cons.mp hp with rfl | hp
    · simp
    · have : ¬ q.1 = p.1 := fun e => nd.1 (e ▸ List.mem_map_of_mem hp)
      rw [show decide (q.1 = p.1) = false from decide_eq_false this]
      exact find_get nd.2 hp
theorem mem_alnL {L : List β} {x : β} : x ∈ alnL (grp num L) ↔ Aln num L x := by
  have g := grp_ok (num := num) L
  unfold alnL
  rw [List.mem_filterMap]
  constructor
  · rintro ⟨n, hn, e⟩
    obtain ⟨p, hp, rfl⟩ := List.mem_map.mp ((List.mergeSort_perm _ _).mem_iff.mp hn)
    rw [find_get g.nd hp] at e
    exact ((g.el p hp).one.mp e).1
  · intro h
    obtain ⟨p, hp, e⟩ := List.mem_map.mp (g.al x h.1)
    refine ⟨p.1, (List.mergeSort_perm _ _).mem_iff.mpr (List.mem_map_of_mem hp), ?_⟩
    rw [find_get g.nd hp]
    exact (g.el p hp).one.mpr ⟨h, e.symm⟩
theorem alnL_nd (L : List β) : ((alnL (grp num L)).map num).Nodup := by
  have g := grp_ok (num := num) L
  have hn : ∀ n ∈ (grp num L).map (·.1), ∀ x, only1 (getG (grp num L) n) = some x → num x = n := fun n hn x e => by
    obtain ⟨p, hp, rfl⟩ := List.mem_map.mp hn
    rw [find_get g.nd hp] at e
    exact ((g.el p hp).one.mp e).2
  have go : ∀ ns : List Int, ns.Nodup → (∀ n ∈ ns, n ∈ (grp num L).map (·.1)) → ((ns.filterMap fun n => only1 (getG (grp num L) n)).map num).Nodup ∧ ∀ m ∈ (ns.filterMap fun n => only1 (getG (grp num L) n)).map num, m ∈ ns := by
    intro ns
    induction ns with
    | nil => exact fun _ _ => ⟨.nil, fun m hm => hm⟩
    | cons n r ih =>
      intro nd sub
      rw [List.nodup_cons] at nd
      obtain ⟨a1, a2⟩ := ih nd.2 fun m hm => sub m (List.mem_cons_of_mem _ hm)
      rw [List.filterMap_cons]
      cases e : only1 (getG (grp num L) n) with
      | none => exact ⟨a1, fun m hm => List.mem_cons_of_mem _ (a2 m hm)⟩
      | some x =>
        have ex := hn n (sub n List.mem_cons_self) x e
        refine ⟨?_, fun m hm => ?_⟩
        · show (num x :: _).Nodup
          rw [List.nodup_cons]
          exact ⟨fun z => nd.1 (ex ▸ a2 _ z), a1⟩
        · have hm : m ∈ num x :: (r.filterMap fun n => only1 (getG (grp num L) n)).map num := hm
          rcases List.mem_cons.mp hm with rfl | hm
          · rw [ex]
            exact List.mem_cons_self
          · exact List.mem_cons_of_mem _ (a2 m hm)
  exact (go _ ((List.mergeSort_perm _ _).nodup_iff.mpr g.nd) fun n hn => (List.mergeSort_perm _ _).mem_iff.mp hn).1
theorem leDN_trans (a b c : β) : leDN day num a b = true → leDN day num b c = true → leDN day num a c = true := fun h1 h2 => by
  simp only [decide_eq_true_eq] at *
  omega
theorem leDN_total (a b : β) : (leDN day num a b || leDN day num b a) = true := by
  simp only [Bool.or_eq_true, decide_eq_true_eq]
  omega
theorem nd_of_map {L : List β} (h : (L.map num).Nodup) : L.Nodup := by
  unfold List.Nodup at *
  rw [List.pairwise_map] at h
  exact h.imp fun z e => z (by rw [e])
theorem inj_of_nd : ∀ {L : List β}, (L.map num).Nodup → ∀ a ∈ L, ∀ b ∈ L, num a = num b → a = b
  | x :: r, h, a, ha, b, hb, e => by
    rw [List.map_cons, List.nodup_cons] at h
    rcases List.mem_cons.mp ha with ea | ha' <;> rcases List.mem_cons.mp hb with eb | hb'
    · rw [ea, eb]
    · exact absurd (by rw [← ea, e]; exact List.mem_map_of_mem hb') h.1
    · exact absurd (by rw [← eb, ← e]; exact List.mem_map_of_mem ha') h.1
    · exact inj_of_nd h.2 a ha' b hb' e
theorem perm_of_mem {A B : List β} (ha : A.Nodup) (hb : B.Nodup) (h : ∀ x, x ∈ A ↔ x ∈ B) : A.Perm B := by
  rw [List.perm_iff_count]
  intro x
  have c : ∀ {L : List β}, L.Nodup → L.count x = if x ∈ L then 1 else 0 := fun {L} hl => by
    split
    · rename_i z
      have := List.nodup_iff_count.mp hl x
      have := List.count_pos_iff.mpr z
      omega
    · rename_i z
      exact List.count_eq_zero.mpr z
  rw [c ha, c hb]
  by_cases z : x ∈ A
  · rw [if_pos z, if_pos ((h x).mp z)]
  · rw [if_neg z, if_neg (fun k => z ((h x).mpr k))]
theorem sorted_one {A B : List β} (hp : A.Perm B) (nd : (A.map num).Nodup) (ha : A.Pairwise fun a b => leDN day num a b = true) (hb : B.Pairwise fun a b => leDN day num a b = true) : A = B := by
  refine hp.eq_of_pairwise (le := fun a b => leDN day num a b = true) (fun a b ma mb h1 h2 => ?_) ha hb
  refine inj_of_nd nd a ma b (hp.mem_iff.mpr mb) ?_
  simp only [decide_eq_true_eq] at h1 h2
  omega
theorem stand_pair (L : List β) : (standB num day L).Pairwise fun a b => leDN day num a b = true := List.pairwise_mergeSort leDN_trans leDN_total _
theorem zipIdx_fst (A : List β) : ∀ k : Nat, (A.zipIdx k).map (·.1) = A := fun k => by simp
theorem byDay_perm (A : List β) : (byDay num day A).Perm A := by
  unfold byDay
  have := (List.mergeSort_perm A.zipIdx fun z w => leL [day z.1, num z.1, (z.2 : Int)] [day w.1, num w.1, (w.2 : Int)]).map (·.1)
  rw [zipIdx_fst] at this
  exact this
theorem leL_trans3 (a b c : List Int) : leL a b = true → leL b c = true → leL a c = true := fun h1 h2 => by
  simp only [decide_eq_true_eq] at *
  exact List.le_trans h1 h2
theorem leL_total3 (a b : List Int) : (leL a b || leL b a) = true := by
  simp only [Bool.or_eq_true, decide_eq_true_eq]
  exact List.le_total a b
theorem byDay_pair (A : List β) : (byDay num day A).Pairwise fun a b => leDN day num a b = true := by
  unfold byDay
  rw [List.pairwise_map]
  have hs := List.pairwise_mergeSort (le := fun z w : β × Nat => leL [day z.1, num z.1, (z.2 : Int)] [day w.1, num w.1, (w.2 : Int)]) (fun a b c => leL_trans3 _ _ _) (fun a b => leL_total3 _ _) A.zipIdx
  refine hs.imp fun {z w} h => ?_
  have h : [day z.1, num z.1, (z.2 : Int)] ≤ [day w.1, num w.1, (w.2 : Int)] := of_decide_eq_true h
  rw [List.cons_le_cons_iff, List.cons_le_cons_iff] at h
  simp only [decide_eq_true_eq]
  rcases h with h | ⟨h1, h | ⟨h2, _⟩⟩
  · exact .inl h
  · exact .inr ⟨h1, by omega⟩
  · exact .inr ⟨h1, by omega⟩
theorem law_stand {L M : List β} (h : ∀ x, x ∈ L ↔ x ∈ M) : standB num day L = byDay num day (alnL (grp num M)) := by
  have ea : ∀ x, x ∈ aloneG (grp num L) ↔ x ∈ alnL (grp num M) := fun x => by
    rw [mem_alone, mem_alnL]
    unfold Aln
    simp only [h]
  have p1 := perm_of_mem (nd_of_map (alone_nd L)) (nd_of_map (alnL_nd M)) ea
  refine sorted_one (num := num) (day := day) ?_ ?_ (stand_pair L) (byDay_pair _)
  · exact ((List.mergeSort_perm _ _).trans p1).trans (byDay_perm _).symm
  · exact ((List.mergeSort_perm _ _).map num).nodup_iff.mpr (alone_nd L)
theorem El.two {L : List β} {p : Int × List β} (h : El num L p) : 1 < p.2.length ↔ ∃ x ∈ L, ∃ y ∈ L, num x = p.1 ∧ num y = p.1 ∧ x ≠ y := by
  constructor
  · intro hl
    cases hp : p.2 with
    | nil => exact absurd hp h.1
    | cons a r =>
      cases r with
      | nil => rw [hp] at hl; exact absurd hl (by simp)
      | cons b r =>
        have nd := h.2.1
        rw [hp, List.nodup_cons] at nd
        have ha := (h.2.2 a).mp (by rw [hp]; exact List.mem_cons_self)
        have hb := (h.2.2 b).mp (by rw [hp]; exact List.mem_cons_of_mem _ List.mem_cons_self)
        exact ⟨a, ha.1, b, hb.1, ha.2, hb.2, fun e => nd.1 (e ▸ List.mem_cons_self)⟩
  · rintro ⟨x, hx, y, hy, ex, ey, n⟩
    have mx := (h.2.2 x).mpr ⟨hx, ex⟩
    have my := (h.2.2 y).mpr ⟨hy, ey⟩
    cases hp : p.2 with
    | nil => exact absurd hp h.1
    | cons a r =>
      cases r with
      | nil =>
        rw [hp] at mx my
        exact absurd ((List.mem_singleton.mp mx).trans (List.mem_singleton.mp my).symm) n
      | cons b r => simp
theorem law_clash {L M : List β} (h : ∀ x, x ∈ L ↔ x ∈ M) : clashG (grp num L) = clashL (grp num M) := by
  have g1 := grp_ok (num := num) L
  have g2 := grp_ok (num := num) M
  have n1 : (((grp num L).filter fun p => decide (1 < p.2.length)).map (·.1)).Nodup := (List.filter_sublist.map _).nodup g1.nd
  have n2 : (clashL (grp num M)).Nodup := List.filter_sublist.nodup ((List.mergeSort_perm _ _).nodup_iff.mpr g2.nd)
  have em : ∀ n, n ∈ ((grp num L).filter fun p => decide (1 < p.2.length)).map (·.1) ↔ n ∈ clashL (grp num M) := fun n => by
    have c1 : n ∈ ((grp num L).filter fun p => decide (1 < p.2.length)).map (·.1) ↔ ∃ x ∈ L, ∃ y ∈ L, num x = n ∧ num y = n ∧ x ≠ y := by
      constructor
      · intro hn
        obtain ⟨p, hp, rfl⟩ := List.mem_map.mp hn
        obtain ⟨hp, hl⟩ := List.mem_filter.mp hp
        exact (g1.el p hp).two.mp (of_decide_eq_true hl)
      · rintro ⟨x, hx, y, hy, ex, ey, ne⟩
        obtain ⟨p, hp, e⟩ := List.mem_map.mp (g1.al x hx)
        have e : p.1 = n := e.trans ex
        refine List.mem_map.mpr ⟨p, List.mem_filter.mpr ⟨hp, decide_eq_true ((g1.el p hp).two.mpr ⟨x, hx, y, hy, by rw [e]; exact ex, by rw [e]; exact ey, ne⟩)⟩, e⟩
    have c2 : n ∈ clashL (grp num M) ↔ ∃ x ∈ M, ∃ y ∈ M, num x = n ∧ num y = n ∧ x ≠ y := by
      unfold clashL
      rw [List.mem_filter, (List.mergeSort_perm _ _).mem_iff]
      constructor
      · rintro ⟨hn, hl⟩
        obtain ⟨p, hp, rfl⟩ := List.mem_map.mp hn
        rw [find_get g2.nd hp] at hl
        exact (g2.el p hp).two.mp (of_decide_eq_true hl)
      · rintro ⟨x, hx, y, hy, ex, ey, ne⟩
        obtain ⟨p, hp, e⟩ := List.mem_map.mp (g2.al x hx)
        have e : p.1 = n := e.trans ex
        refine ⟨e ▸ List.mem_map_of_mem hp, ?_⟩
        rw [← e, find_get g2.nd hp]
        exact decide_eq_true ((g2.el p hp).two.mpr ⟨x, hx, y, hy, by rw [e]; exact ex, by rw [e]; exact ey, ne⟩)
    rw [c1, c2]
    simp only [h]
  have p1 := perm_of_mem n1 n2 em
  unfold clashG
  refine ((List.mergeSort_perm _ _).trans p1).eq_of_pairwise (le := fun a b => leI2 a b = true) (fun a b _ _ h1 h2 => ?_) (List.pairwise_mergeSort leI2_trans leI2_total _) ((List.pairwise_mergeSort leI2_trans leI2_total _).filter _)
  simp only [decide_eq_true_eq] at h1 h2
  omega
end
theorem ThT.frz {β : Type} {τ : T} {bs : List β} {enc : β → T} (h : ThT τ bs enc) : ThT (DL.frz τ) bs enc := by
  obtain ⟨o, xs, rfl, hx⟩ := h
  exact ⟨false, frzL xs, rfl, by rw [frzL_frzL, hx]⟩
theorem atI_of {l : List T} {j : Nat} {t : T} (h : l[j]? = some t) : atI l (j : Int) = some t := by
  unfold atI
  rw [ixN_nat, if_pos (List.getElem?_eq_some_iff.mp h).1]
  exact h
theorem atI_0 {l : List T} {t : T} (h : l[0]? = some t) : atI l 0 = some t := atI_of (j := 0) h
theorem atI_1 {l : List T} {t : T} (h : l[1]? = some t) : atI l 1 = some t := atI_of (j := 1) h
theorem atI_2 {l : List T} {t : T} (h : l[2]? = some t) : atI l 2 = some t := atI_of (j := 2) h
section
variable {β : Type} [DecidableEq β] {num : β → Int} {enc : β → T} {dat : β → PyData}
theorem insG_len (b : β) (G : List (Int × List β)) : (insG num G b).length ≤ G.length + 1 := by
  have := congrArg List.length (insG_keys (num := num) b G)
  rw [List.length_map] at this
  split at this <;> simp at this <;> omega
theorem grp_len (bs : List β) : (grp num bs).length ≤ bs.length := by
  have key : ∀ (r : List β) (G : List (Int × List β)), (r.foldl (insG num) G).length ≤ G.length + r.length := by
    intro r
    induction r with
    | nil => exact fun G => Nat.le_refl _
    | cons b r ih =>
      intro G
      have h1 := ih (insG num G b)
      have h2 := insG_len (num := num) b G
      rw [List.foldl_cons, List.length_cons]
      omega
  have := key bs []
  simpa [grp] using this
theorem insG_ix (b : β) : ∀ G : List (Int × List β), (ixK (keysG G) (.inl (num b)) = none → insG num G b = G ++ [(num b, [b])]) ∧ ∀ j, ixK (keysG G) (.inl (num b)) = some j → ∃ l, G[j]? = some (num b, l) ∧ insG num G b = G.set j (num b, if b ∈ l then l else l ++ [b])
  | [] => ⟨fun _ => rfl, fun j h => by cases h⟩
  | p :: r => by
    obtain ⟨i1, i2⟩ := insG_ix b r
    have ek : ixK (keysG (p :: r)) (.inl (num b)) = if p.1 = num b then some 0 else (ixK (keysG r) (.inl (num b))).map (· + 1) := by
      show (if (Sum.inl p.1 : Key) = .inl (num b) then some 0 else (ixK (keysG r) (.inl (num b))).map (· + 1)) = _
      by_cases h : p.1 = num b
      · rw [if_pos h, if_pos (by rw [h])]
      · rw [if_neg h, if_neg (fun z => h (Sum.inl.inj z))]
    rw [ek]
    by_cases h : p.1 = num b
    · rw [if_pos h]
      refine ⟨fun z => (by cases z), fun j z => ?_⟩
      cases z
      refine ⟨p.2, by rw [← h]; rfl, ?_⟩
      unfold insG
      rw [if_pos h, h]
      rfl
    · rw [if_neg h]
      unfold insG
      rw [if_neg h]
      refine ⟨fun z => ?_, fun j z => ?_⟩
      · rw [i1 (by simpa using z)]
        rfl
      · cases e : ixK (keysG r) (.inl (num b)) with
        | none => rw [e] at z; cases z
        | some k =>
          rw [e] at z
          cases z
          obtain ⟨l, h1, h2⟩ := i2 k e
          exact ⟨l, h1, by rw [h2]; rfl⟩
theorem keys_len (G : List (Int × List β)) : (keysG G).length = G.length := List.length_map _
theorem kids_len (o : Bool) (G : List (Int × List β)) : (kidsG o enc G).length = G.length := List.length_map _
theorem keys_nd {G : List (Int × List β)} (h : (G.map (·.1)).Nodup) : (keysG G).Nodup := by
  have e : keysG G = (G.map (·.1)).map Sum.inl := by
    unfold keysG
    rw [List.map_map]
    rfl
  rw [e]
  unfold List.Nodup at *
  rw [List.pairwise_map]
  exact h.imp fun z e => z (Sum.inl.inj e)
theorem kids_frz (G : List (Int × List β)) (o : Bool) (h : ∀ p ∈ G, ∀ x ∈ p.2, frz (enc x) = enc x) : frzL (kidsG o enc G) = kidsG false enc G := by
  unfold kidsG
  rw [frzL_map, List.map_map]
  refine List.map_congr_left fun p hp => ?_
  show T.node false .lst (frzL (p.2.map enc)) = _
  rw [frzL_map, List.map_map]
  congr 1
  exact List.map_congr_left fun x hx => h p hp x hx
theorem Ths.sub {bs l : List β} (h : Ths bs enc num dat) (hs : ∀ x ∈ l, x ∈ bs) (hl : l.length ≤ 1000000) : Ths l enc num dat :=
  ⟨fun b hb => h.fz b (hs b hb), fun b hb => h.hd b (hs b hb), fun b hb => h.to b (hs b hb), fun b hb => h.gd b (hs b hb), fun a ha b hb => h.eq a (hs a ha) b (hs b hb), hl⟩
theorem Ths.toPL {l : List β} (h : Ths l enc num dat) : toPL (l.map enc) = some (l.map dat) := toPL_enc h.to
theorem small_all : ∀ {l : List β}, (∀ b ∈ l, smallD (dat b) ∧ PyData.depth (dat b) ≤ 10) → smallL (l.map dat) ∧ PyData.depthAll (l.map dat) ≤ 10
  | [], _ => ⟨by simp [smallL], by simp [PyData.depthAll]⟩
  | b :: l, h => by
    obtain ⟨a1, a2⟩ := h b List.mem_cons_self
    obtain ⟨i1, i2⟩ := small_all (l := l) fun x hx => h x (List.mem_cons_of_mem _ hx)
    refine ⟨?_, ?_⟩
    · simp only [List.map_cons, smallL]
      exact ⟨a1, i1⟩
    · simp only [List.map_cons, PyData.depthAll]
      omega
theorem Ths.shaped {l : List β} (h : Ths l enc num dat) : SeqAt.shaped (.list (l.map dat)) = true := by
  obtain ⟨a, b⟩ := small_all h.gd
  unfold SeqAt.shaped
  rw [Bool.and_eq_true, decide_eq_true_eq]
  refine ⟨small_canLay _ (by simp only [smallD]; exact a), ?_⟩
  simp only [PyData.depth]
  omega
theorem Ths.one {l : List β} (h : Ths l enc num dat) {b : β} (hb : b ∈ l) : SeqAt.shaped (dat b) = true := by
  obtain ⟨a, c⟩ := h.gd b hb
  unfold SeqAt.shaped
  rw [Bool.and_eq_true, decide_eq_true_eq]
  exact ⟨small_canLay _ a, by omega⟩
theorem Ths.any {bs l : List β} (h : Ths bs enc num dat) (hs : ∀ x ∈ l, x ∈ bs) {b : β} (hb : b ∈ bs) : ((l.map dat).any fun z => PyData.eqv z (dat b)) = decide (b ∈ l) := by
  induction l with
  | nil => simp
  | cons a l ih =>
    rw [List.map_cons, List.any_cons, ih fun x hx => hs x (List.mem_cons_of_mem _ hx), h.eq a (hs a List.mem_cons_self) b hb]
    by_cases e : a = b
    · simp [e]
    · have : ¬ b = a := fun z => e z.symm
      simp [e, this]
theorem grp_sub {bs : List β} : ∀ p ∈ grp num bs, ∀ x ∈ p.2, x ∈ bs := fun p hp x hx => (((grp_ok (num := num) bs).el p hp).2.2 x |>.mp hx).1
theorem insG_sub {L : List β} {b : β} : ∀ {G : List (Int × List β)}, (∀ p ∈ G, p.2.Sublist L) → ∀ p ∈ insG num G b, p.2.Sublist (L ++ [b])
  | [], _, p, hp => by
    unfold insG at hp
    rw [List.mem_singleton.mp hp]
    exact List.sublist_append_right _ _
  | q :: r, h, p, hp => by
    unfold insG at hp
    split at hp
    · rcases List.mem_cons.mp hp with rfl | hp
      · show (if b ∈ q.2 then q.2 else q.2 ++ [b]).Sublist _
        split
        · exact (h q List.mem_cons_self).trans (List.sublist_append_left _ _)
        · exact (h q List.mem_cons_self).append (List.Sublist.refl _)
      · exact (h p (List.mem_cons_of_mem _ hp)).trans (List.sublist_append_left _ _)
    · rcases List.mem_cons.mp hp with rfl | hp
      · exact (h p List.mem_cons_self).trans (List.sublist_append_left _ _)
      · exact insG_sub (fun p hp => h p (List.mem_cons_of_mem _ hp)) p hp
theorem grp_small {bs : List β} {n : Nat} (hl : bs.length ≤ n) : ∀ p ∈ grp num bs, p.2.length ≤ n := fun p hp => by
  have key : ∀ (r L : List β) (G : List (Int × List β)), (∀ p ∈ G, p.2.Sublist L) → ∀ p ∈ r.foldl (insG num) G, p.2.Sublist (L ++ r) := by
    intro r
    induction r with
    | nil =>
      intro L G h p hp
      rw [List.append_nil]
      exact h p hp
    | cons b r ih =>
      intro L G h p hp
      have := ih (L ++ [b]) (insG num G b) (insG_sub h) p hp
      rw [List.append_assoc] at this
      exact this
  have h2 := (key bs [] [] (fun p hp => nomatch hp) p hp).length_le
  rw [List.nil_append] at h2
  omega
end
theorem rd_telling_key {ts : List T} {Q : T → List T → Prop} {E : Value → List (Str × V) → List T → Prop} (h : sp_telling_key ts Q E) : t_telling_key (bodyEnds [false] Q E) (startE 1 (frzP [false] ts)) := by
  obtain ⟨o, n, d, r, rfl, q⟩ := h
  (try simp only [np_t, np_f, np_n, ne_c, ne_n, ne_0, nf_leaf, nf_pin, nf_node])
  (repeat (first | (refine Nx.mk ?_; ((try (dsimp only [nr_none, nr_some, nr_nil, nf_leaf, nf_pin, nf_node, nf_nil, nf_cons, ni_f, ni_t, nw_nil, nw_cons, ns_0, ns_s])); (try simp only [intsT_frz, frzL_frzL, frz_strs, tls_frz]))) | (refine And.intro ?_ ?_; focus (first | exact rfl | exact frz_frz _ | exact frz_nf _ _ | exact (show frz _ = _ by assumption) | (show frz _ = _; simp only [nf_node, nf_cons, nf_nil, nf_leaf, frzL_frzL, intsT_frz, frz_strs, tls_frz]; done) | exact frz_ints _ _ | exact Nat.le_of_ble_eq_true rfl | exact (show (0 : Int) < _ by decide) | exact (show (0 : Int) ≤ _ by decide) | exact ⟨show (0 : Int) < _ by decide, show Nat.log2 _ < _ by decide⟩ | exact Or.inl (Or.inr ⟨show (_ : Int) < _ by decide, show (_ : Int) < _ by decide⟩) | exact Or.inl (Or.inl ⟨show (_ : Int) < _ by decide, show (_ : Int) < _ by decide⟩) | exact ⟨show (0 : Int) ≤ _ by decide, show (_ : Int) ≤ _ by decide, show Int.natAbs _ < _ by decide⟩)) | refine Exists.intro _ (Exists.intro _ (And.intro rfl (And.intro rfl ?_))) | refine Exists.intro _ (And.intro (Le.rf _) ?_) | refine Exists.intro _ (And.intro rfl ?_)))
  (conv => whnf)
  refine ⟨.leaf (.int d), atI_1 (by simp only [frzL, frz]; rfl), ?_⟩
  (conv => whnf)
  refine And.intro (by simp only [frz_node, frzL_frzL]) ?_
  (conv => whnf)
  refine ⟨.leaf (.int n), atI_0 (by simp only [frzL, frz]; rfl), ?_⟩
  (conv => whnf)
  refine And.intro (show 2 ≤ 16777216 by decide) ?_
  exact q
theorem rd_by_numbers {ts : List T} {Q : T → List T → Prop} {E : Value → List (Str × V) → List T → Prop} (h : sp_by_numbers ts Q E) : t_by_numbers (bodyEnds [false] Q E) (startE 4 (frzP [false] ts)) := by
  obtain ⟨τ, β, i, bs, enc, num, dat, rfl, ⟨o, xs, rfl, hx⟩, hT, q⟩ := h
  (try simp only [np_t, np_f, np_n, ne_c, ne_n, ne_0, nf_leaf, nf_pin, nf_node])
  (repeat (first | (refine Nx.mk ?_; ((try (dsimp only [nr_none, nr_some, nr_nil, nf_leaf, nf_pin, nf_node, nf_nil, nf_cons, ni_f, ni_t, nw_nil, nw_cons, ns_0, ns_s])); (try simp only [intsT_frz, frzL_frzL, frz_strs, tls_frz]))) | (refine And.intro ?_ ?_; focus (first | exact rfl | exact frz_frz _ | exact frz_nf _ _ | exact (show frz _ = _ by assumption) | (show frz _ = _; simp only [nf_node, nf_cons, nf_nil, nf_leaf, frzL_frzL, intsT_frz, frz_strs, tls_frz]; done) | exact frz_ints _ _ | exact Nat.le_of_ble_eq_true rfl | exact (show (0 : Int) < _ by decide) | exact (show (0 : Int) ≤ _ by decide) | exact ⟨show (0 : Int) < _ by decide, show Nat.log2 _ < _ by decide⟩ | exact Or.inl (Or.inr ⟨show (_ : Int) < _ by decide, show (_ : Int) < _ by decide⟩) | exact Or.inl (Or.inl ⟨show (_ : Int) < _ by decide, show (_ : Int) < _ by decide⟩) | exact ⟨show (0 : Int) ≤ _ by decide, show (_ : Int) ≤ _ by decide, show Int.natAbs _ < _ by decide⟩)) | refine Exists.intro _ (Exists.intro _ (And.intro rfl (And.intro rfl ?_))) | refine Exists.intro _ (And.intro (Le.rf _) ?_) | refine Exists.intro _ (And.intro rfl ?_)))
  (conv => whnf)
  rw [frzL_frzL, hx]
  refine Loop.fit bs enc rfl (fun G : List (Int × List β) => [some (some (.node false .lst (bs.map enc))), some (some (.node true (.dK (keysG G)) (kidsG true enc G))), none, none]) (fun i G => G = grp num (bs.take i)) [] rfl (by repeat' (first | exact Fits.e | refine Fits.n ?_ | refine Fits.s rfl ?_)) (fun i b G g hb hI hF R hR => ?_) fun G g hI hF => ?_
  · (repeat (first | (obtain ⟨_, rfl, hF⟩ := hF) | (obtain ⟨_, _, rfl, hF⟩ := hF))); (try cases hF)
    (repeat (first | (refine Nx.mk ?_; ((try (dsimp only [nr_none, nr_some, nr_nil, nf_leaf, nf_pin, nf_node, nf_nil, nf_cons, ni_f, ni_t, nw_nil, nw_cons, ns_0, ns_s])); (try simp only [intsT_frz, frzL_frzL, frz_strs, tls_frz]))) | (refine And.intro ?_ ?_; focus (first | exact rfl | exact frz_frz _ | exact frz_nf _ _ | exact (show frz _ = _ by assumption) | (show frz _ = _; simp only [nf_node, nf_cons, nf_nil, nf_leaf, frzL_frzL, intsT_frz, frz_strs, tls_frz]; done) | exact frz_ints _ _ | exact Nat.le_of_ble_eq_true rfl | exact (show (0 : Int) < _ by decide) | exact (show (0 : Int) ≤ _ by decide) | exact ⟨show (0 : Int) < _ by decide, show Nat.log2 _ < _ by decide⟩ | exact Or.inl (Or.inr ⟨show (_ : Int) < _ by decide, show (_ : Int) < _ by decide⟩) | exact Or.inl (Or.inl ⟨show (_ : Int) < _ by decide, show (_ : Int) < _ by decide⟩) | exact ⟨show (0 : Int) ≤ _ by decide, show (_ : Int) ≤ _ by decide, show Int.natAbs _ < _ by decide⟩)) | refine Exists.intro _ (Exists.intro _ (And.intro rfl (And.intro rfl ?_))) | refine Exists.intro _ (And.intro (Le.rf _) ?_) | refine Exists.intro _ (And.intro rfl ?_)))
    have hbm := List.mem_of_getElem? hb
    obtain ⟨r, er⟩ := hT.hd b hbm
    have hlen : G.length ≤ 1000000 := by
      rw [hI]
      have := grp_len (num := num) (bs.take i)
      have h2 := hT.len
      rw [List.length_take] at this
      omega
    have hnd := (grp_ok (num := num) (bs.take i)).nd
    rw [← hI] at hnd
    refine And.intro True.intro ?_
    (conv => whnf)
    rw [if_neg (show ¬ false = true by decide), hT.fz b hbm]
    refine And.intro (hT.fz b hbm) ?_
    have hfz := hT.fz b hbm
    have hto := hT.to b hbm
    have hb1 := hT.one hbm
    have hS1 : ∀ p ∈ G, ∀ x ∈ p.2, x ∈ bs := by
      rw [hI]
      exact fun p hp x hx => List.mem_of_mem_take (grp_sub p hp x hx)
    have hS2 : ∀ p ∈ G, p.2.length ≤ 1000000 := by
      rw [hI]
      exact grp_small (by have := hT.len; rw [List.length_take]; omega)
    rw [er]
    (conv => whnf)
    have efz : frzL (T.leaf (.int (num b)) :: r) = T.leaf (.int (num b)) :: r := by
      rw [er] at hfz
      rw [frz_node] at hfz
      exact (T.node.inj hfz).2.2
    try rw [efz]
    refine ⟨.leaf (.int (num b)), atI_0 rfl, ?_⟩
    (conv => whnf)
    rw [← er]
    obtain ⟨i1, i2⟩ := insG_ix (num := num) b G
    have eI : insG num G b = grp num (bs.take (i + 1)) := by
      rw [hI, List.take_add_one, hb]
      exact (grp_snoc _ _).symm
    refine ⟨num b, keysG G, kidsG true enc G, enc b, dat b, rfl, rfl, rfl, hfz, ⟨by decide, by decide, by decide, by show 3 < 4; decide⟩, hto, hb1, keys_nd hnd, by rw [kids_len, keys_len], by rw [keys_len]; show _ < 16777216; omega, fun e => ?_, fun n e => ?_⟩
    · refine Nx.mk ?_
      (repeat (first | (refine Nx.mk ?_; ((try (dsimp only [nr_none, nr_some, nr_nil, nf_leaf, nf_pin, nf_node, nf_nil, nf_cons, ni_f, ni_t, nw_nil, nw_cons, ns_0, ns_s])); (try simp only [intsT_frz, frzL_frzL, frz_strs, tls_frz]))) | (refine And.intro ?_ ?_; focus (first | exact rfl | exact frz_frz _ | exact frz_nf _ _ | exact (show frz _ = _ by assumption) | (show frz _ = _; simp only [nf_node, nf_cons, nf_nil, nf_leaf, frzL_frzL, intsT_frz, frz_strs, tls_frz]; done) | exact frz_ints _ _ | exact Nat.le_of_ble_eq_true rfl | exact (show (0 : Int) < _ by decide) | exact (show (0 : Int) ≤ _ by decide) | exact ⟨show (0 : Int) < _ by decide, show Nat.log2 _ < _ by decide⟩ | exact Or.inl (Or.inr ⟨show (_ : Int) < _ by decide, show (_ : Int) < _ by decide⟩) | exact Or.inl (Or.inl ⟨show (_ : Int) < _ by decide, show (_ : Int) < _ by decide⟩) | exact ⟨show (0 : Int) ≤ _ by decide, show (_ : Int) ≤ _ by decide, show Int.natAbs _ < _ by decide⟩)) | refine Exists.intro _ (Exists.intro _ (And.intro rfl (And.intro rfl ?_))) | refine Exists.intro _ (And.intro (Le.rf _) ?_) | refine Exists.intro _ (And.intro rfl ?_)))
      refine hR _ _ eI ?_
      rw [i1 e]
      show Fits _ _
      unfold keysG kidsG
      rw [List.map_append, List.map_append]
      (repeat' (first | exact Fits.e | refine Fits.n ?_ | refine Fits.s rfl ?_))
    · obtain ⟨l, hl, e2⟩ := i2 n e
      have hlm := List.mem_of_getElem? hl
      have hTl : Ths l enc num dat := hT.sub (hS1 _ hlm) (hS2 _ hlm)
      refine ⟨l.map enc, l.map dat, ?_, hTl.toPL, hTl.shaped, by rw [List.length_map]; have h9 : l.length ≤ 1000000 := hS2 _ hlm; show _ < 16777216; omega, ?_⟩
      · unfold kidsG
        rw [List.getElem?_map, hl]
        rfl
      refine Nx.mk ?_
      (repeat (first | (refine Nx.mk ?_; ((try (dsimp only [nr_none, nr_some, nr_nil, nf_leaf, nf_pin, nf_node, nf_nil, nf_cons, ni_f, ni_t, nw_nil, nw_cons, ns_0, ns_s])); (try simp only [intsT_frz, frzL_frzL, frz_strs, tls_frz]))) | (refine And.intro ?_ ?_; focus (first | exact rfl | exact frz_frz _ | exact frz_nf _ _ | exact (show frz _ = _ by assumption) | (show frz _ = _; simp only [nf_node, nf_cons, nf_nil, nf_leaf, frzL_frzL, intsT_frz, frz_strs, tls_frz]; done) | exact frz_ints _ _ | exact Nat.le_of_ble_eq_true rfl | exact (show (0 : Int) < _ by decide) | exact (show (0 : Int) ≤ _ by decide) | exact ⟨show (0 : Int) < _ by decide, show Nat.log2 _ < _ by decide⟩ | exact Or.inl (Or.inr ⟨show (_ : Int) < _ by decide, show (_ : Int) < _ by decide⟩) | exact Or.inl (Or.inl ⟨show (_ : Int) < _ by decide, show (_ : Int) < _ by decide⟩) | exact ⟨show (0 : Int) ≤ _ by decide, show (_ : Int) ≤ _ by decide, show Int.natAbs _ < _ by decide⟩)) | refine Exists.intro _ (Exists.intro _ (And.intro rfl (And.intro rfl ?_))) | refine Exists.intro _ (And.intro (Le.rf _) ?_) | refine Exists.intro _ (And.intro rfl ?_)))
      refine hR _ _ eI ?_
      rw [e2, hT.any (hS1 _ hlm) hbm]
      have ek : keysG (G.set n (num b, if b ∈ l then l else l ++ [b])) = keysG G := by
        unfold keysG
        rw [List.map_set]
        exact set_at (by rw [List.getElem?_map, hl]; rfl)
      have ec : kidsG true enc (G.set n (num b, if b ∈ l then l else l ++ [b])) = (kidsG true enc G).set n (.node true .lst (if decide (b ∈ l) = true then l.map enc else l.map enc ++ [enc b])) := by
        unfold kidsG
        rw [List.map_set]
        congr 1
        by_cases hb2 : b ∈ l
        · simp [hb2]
        · simp [hb2]
      rw [ek, ec]
      (repeat' (first | exact Fits.e | refine Fits.n ?_ | refine Fits.s rfl ?_))
  · (repeat (first | (obtain ⟨_, rfl, hF⟩ := hF) | (obtain ⟨_, _, rfl, hF⟩ := hF))); (try cases hF)
    (refine Nx.mk ?_; ((try (dsimp only [nr_none, nr_some, nr_nil, nf_leaf, nf_pin, nf_node, nf_nil, nf_cons, ni_f, ni_t, nw_nil, nw_cons, ns_0, ns_s])); (try simp only [intsT_frz, frzL_frzL, frz_strs, tls_frz])))
    (repeat (first | (refine Nx.mk ?_; ((try (dsimp only [nr_none, nr_some, nr_nil, nf_leaf, nf_pin, nf_node, nf_nil, nf_cons, ni_f, ni_t, nw_nil, nw_cons, ns_0, ns_s])); (try simp only [intsT_frz, frzL_frzL, frz_strs, tls_frz]))) | (refine And.intro ?_ ?_; focus (first | exact rfl | exact frz_frz _ | exact frz_nf _ _ | exact (show frz _ = _ by assumption) | (show frz _ = _; simp only [nf_node, nf_cons, nf_nil, nf_leaf, frzL_frzL, intsT_frz, frz_strs, tls_frz]; done) | exact frz_ints _ _ | exact Nat.le_of_ble_eq_true rfl | exact (show (0 : Int) < _ by decide) | exact (show (0 : Int) ≤ _ by decide) | exact ⟨show (0 : Int) < _ by decide, show Nat.log2 _ < _ by decide⟩ | exact Or.inl (Or.inr ⟨show (_ : Int) < _ by decide, show (_ : Int) < _ by decide⟩) | exact Or.inl (Or.inl ⟨show (_ : Int) < _ by decide, show (_ : Int) < _ by decide⟩) | exact ⟨show (0 : Int) ≤ _ by decide, show (_ : Int) ≤ _ by decide, show Int.natAbs _ < _ by decide⟩)) | refine Exists.intro _ (Exists.intro _ (And.intro rfl (And.intro rfl ?_))) | refine Exists.intro _ (And.intro (Le.rf _) ?_) | refine Exists.intro _ (And.intro rfl ?_)))
    have e : G = grp num bs := by rw [hI, List.take_length]
    rw [e]
    unfold t_by_numbers_3
    (repeat (first | (refine Nx.mk ?_; ((try (dsimp only [nr_none, nr_some, nr_nil, nf_leaf, nf_pin, nf_node, nf_nil, nf_cons, ni_f, ni_t, nw_nil, nw_cons, ns_0, ns_s])); (try simp only [intsT_frz, frzL_frzL, frz_strs, tls_frz]))) | (refine And.intro ?_ ?_; focus (first | exact rfl | exact frz_frz _ | exact frz_nf _ _ | exact (show frz _ = _ by assumption) | (show frz _ = _; simp only [nf_node, nf_cons, nf_nil, nf_leaf, frzL_frzL, intsT_frz, frz_strs, tls_frz]; done) | exact frz_ints _ _ | exact Nat.le_of_ble_eq_true rfl | exact (show (0 : Int) < _ by decide) | exact (show (0 : Int) ≤ _ by decide) | exact ⟨show (0 : Int) < _ by decide, show Nat.log2 _ < _ by decide⟩ | exact Or.inl (Or.inr ⟨show (_ : Int) < _ by decide, show (_ : Int) < _ by decide⟩) | exact Or.inl (Or.inl ⟨show (_ : Int) < _ by decide, show (_ : Int) < _ by decide⟩) | exact ⟨show (0 : Int) ≤ _ by decide, show (_ : Int) ≤ _ by decide, show Int.natAbs _ < _ by decide⟩)) | refine Exists.intro _ (Exists.intro _ (And.intro rfl (And.intro rfl ?_))) | refine Exists.intro _ (And.intro (Le.rf _) ?_) | refine Exists.intro _ (And.intro rfl ?_)))
    exact q
theorem map_fz {β : Type} {enc : β → T} {l : List β} (h : ∀ x ∈ l, frz (enc x) = enc x) : frzL (l.map enc) = l.map enc := by
  rw [frzL_map, List.map_map]
  exact List.map_congr_left h
theorem sort_ints {a b : List Int} (hp : a.Perm b) (h : a.Pairwise (· ≤ ·)) : a = b.mergeSort leI2 := by
  refine (hp.trans (List.mergeSort_perm b leI2).symm).eq_of_pairwise (le := fun x y => leI2 x y = true) (fun x y _ _ h1 h2 => ?_) (h.imp fun z => decide_eq_true z) (List.pairwise_mergeSort leI2_trans leI2_total b)
  simp only [decide_eq_true_eq] at h1 h2
  omega
theorem rd_alone {ts : List T} {Q : T → List T → Prop} {E : Value → List (Str × V) → List T → Prop} (h : sp_alone ts Q E) : t_alone (bodyEnds [false] Q E) (startE 2 (frzP [false] ts)) := by
  obtain ⟨τ, β, i, bs, enc, num, dat, rfl, hx, hT, q⟩ := h
  (try simp only [np_t, np_f, np_n, ne_c, ne_n, ne_0, nf_leaf, nf_pin, nf_node])
  (repeat (first | (refine Nx.mk ?_; ((try (dsimp only [nr_none, nr_some, nr_nil, nf_leaf, nf_pin, nf_node, nf_nil, nf_cons, ni_f, ni_t, nw_nil, nw_cons, ns_0, ns_s])); (try simp only [intsT_frz, frzL_frzL, frz_strs, tls_frz]))) | (refine And.intro ?_ ?_; focus (first | exact rfl | exact frz_frz _ | exact frz_nf _ _ | exact (show frz _ = _ by assumption) | (show frz _ = _; simp only [nf_node, nf_cons, nf_nil, nf_leaf, frzL_frzL, intsT_frz, frz_strs, tls_frz]; done) | exact frz_ints _ _ | exact Nat.le_of_ble_eq_true rfl | exact (show (0 : Int) < _ by decide) | exact (show (0 : Int) ≤ _ by decide) | exact ⟨show (0 : Int) < _ by decide, show Nat.log2 _ < _ by decide⟩ | exact Or.inl (Or.inr ⟨show (_ : Int) < _ by decide, show (_ : Int) < _ by decide⟩) | exact Or.inl (Or.inl ⟨show (_ : Int) < _ by decide, show (_ : Int) < _ by decide⟩) | exact ⟨show (0 : Int) ≤ _ by decide, show (_ : Int) ≤ _ by decide, show Int.natAbs _ < _ by decide⟩)) | refine Exists.intro _ (Exists.intro _ (And.intro rfl (And.intro rfl ?_))) | refine Exists.intro _ (And.intro (Le.rf _) ?_) | refine Exists.intro _ (And.intro rfl ?_)))
  (conv => whnf)
  refine ⟨frz τ, β, i, bs, enc, num, dat, rfl, hx.frz, hT, ?_⟩
  (repeat (first | (refine Nx.mk ?_; ((try (dsimp only [nr_none, nr_some, nr_nil, nf_leaf, nf_pin, nf_node, nf_nil, nf_cons, ni_f, ni_t, nw_nil, nw_cons, ns_0, ns_s])); (try simp only [intsT_frz, frzL_frzL, frz_strs, tls_frz]))) | (refine And.intro ?_ ?_; focus (first | exact rfl | exact frz_frz _ | exact frz_nf _ _ | exact (show frz _ = _ by assumption) | (show frz _ = _; simp only [nf_node, nf_cons, nf_nil, nf_leaf, frzL_frzL, intsT_frz, frz_strs, tls_frz]; done) | exact frz_ints _ _ | exact Nat.le_of_ble_eq_true rfl | exact (show (0 : Int) < _ by decide) | exact (show (0 : Int) ≤ _ by decide) | exact ⟨show (0 : Int) < _ by decide, show Nat.log2 _ < _ by decide⟩ | exact Or.inl (Or.inr ⟨show (_ : Int) < _ by decide, show (_ : Int) < _ by decide⟩) | exact Or.inl (Or.inl ⟨show (_ : Int) < _ by decide, show (_ : Int) < _ by decide⟩) | exact ⟨show (0 : Int) ≤ _ by decide, show (_ : Int) ≤ _ by decide, show Int.natAbs _ < _ by decide⟩)) | refine Exists.intro _ (Exists.intro _ (And.intro rfl (And.intro rfl ?_))) | refine Exists.intro _ (And.intro (Le.rf _) ?_) | refine Exists.intro _ (And.intro rfl ?_)))
  refine ⟨_, _, rfl, by rw [kids_len, keys_len], ?_⟩
  rw [kids_frz _ _ fun p hp x hx => hT.fz x (grp_sub p hp x hx)]
  have hGl : (grp num bs).length ≤ 1000000 := by have := grp_len (num := num) bs; have := hT.len; omega
  refine Lc.fx (grp num bs) (fun p => .node false .lst (p.2.map enc)) rfl (fun p => (only1 p.2).map enc) (by show _ ≤ 16777216; omega) (fun p hp acc R' hacc k1 k2 => ?_) ?_
  · have hfz : frzL (p.2.map enc) = p.2.map enc := map_fz fun x hx => hT.fz x (grp_sub p hp x hx)
    (repeat (first | (refine Nx.mk ?_; ((try (dsimp only [nr_none, nr_some, nr_nil, nf_leaf, nf_pin, nf_node, nf_nil, nf_cons, ni_f, ni_t, nw_nil, nw_cons, ns_0, ns_s])); (try simp only [intsT_frz, frzL_frzL, frz_strs, tls_frz]))) | (refine And.intro ?_ ?_; focus (first | exact rfl | exact frz_frz _ | exact frz_nf _ _ | exact (show frz _ = _ by assumption) | (show frz _ = _; simp only [nf_node, nf_cons, nf_nil, nf_leaf, frzL_frzL, intsT_frz, frz_strs, tls_frz]; done) | exact frz_ints _ _ | exact Nat.le_of_ble_eq_true rfl | exact (show (0 : Int) < _ by decide) | exact (show (0 : Int) ≤ _ by decide) | exact ⟨show (0 : Int) < _ by decide, show Nat.log2 _ < _ by decide⟩ | exact Or.inl (Or.inr ⟨show (_ : Int) < _ by decide, show (_ : Int) < _ by decide⟩) | exact Or.inl (Or.inl ⟨show (_ : Int) < _ by decide, show (_ : Int) < _ by decide⟩) | exact ⟨show (0 : Int) ≤ _ by decide, show (_ : Int) ≤ _ by decide, show Int.natAbs _ < _ by decide⟩)) | refine Exists.intro _ (Exists.intro _ (And.intro rfl (And.intro rfl ?_))) | refine Exists.intro _ (And.intro (Le.rf _) ?_) | refine Exists.intro _ (And.intro rfl ?_)))
    rw [if_neg (show ¬ false = true by decide)]
    (conv => whnf)
    rw [hfz, List.length_map]
    refine ifB_dec (p := ((p.2.length : Nat) : Int) = 1) (fun hl => ?_) (fun hl => ?_)
    · obtain ⟨x, ex⟩ : ∃ x, p.2 = [x] := by
        match hp2 : p.2 with
        | [] => rw [hp2] at hl; exact absurd (show ((0 : Nat) : Int) = 1 from hl) (by decide)
        | [x] => exact ⟨x, rfl⟩
        | x :: y :: r => rw [hp2] at hl; simp at hl; omega
      (conv => whnf)
      refine And.intro (by rw [frz_frz]) ?_
      (conv => whnf)
      rw [hfz, ex]
      refine ⟨enc x, atI_0 rfl, ?_⟩
      (conv => whnf)
      refine And.intro hacc ?_
      rw [hT.fz x (grp_sub p hp x (by rw [ex]; exact List.mem_cons_self))]
      exact k1 _ (by rw [ex]; rfl)
    · refine k2 ?_
      have : only1 p.2 = none := by
        unfold only1
        split
        · rename_i x ex
          rw [ex] at hl
          exact absurd rfl hl
        · rfl
      rw [this]
      rfl
  have e : (grp num bs).filterMap (fun p => (only1 p.2).map enc) = (aloneG (grp num bs)).map enc := by
    unfold aloneG
    rw [List.map_filterMap]
  rw [e]
  exact q
theorem rd_standing {ts : List T} {Q : T → List T → Prop} {E : Value → List (Str × V) → List T → Prop} (h : sp_standing ts Q E) : t_standing (bodyEnds [false] Q E) (startE 1 (frzP [false] ts)) := by
  obtain ⟨τ, β, i, bs, enc, num, day, dat, rfl, hx, hT, h2, q⟩ := h
  (try simp only [np_t, np_f, np_n, ne_c, ne_n, ne_0, nf_leaf, nf_pin, nf_node])
  (repeat (first | (refine Nx.mk ?_; ((try (dsimp only [nr_none, nr_some, nr_nil, nf_leaf, nf_pin, nf_node, nf_nil, nf_cons, ni_f, ni_t, nw_nil, nw_cons, ns_0, ns_s])); (try simp only [intsT_frz, frzL_frzL, frz_strs, tls_frz]))) | (refine And.intro ?_ ?_; focus (first | exact rfl | exact frz_frz _ | exact frz_nf _ _ | exact (show frz _ = _ by assumption) | (show frz _ = _; simp only [nf_node, nf_cons, nf_nil, nf_leaf, frzL_frzL, intsT_frz, frz_strs, tls_frz]; done) | exact frz_ints _ _ | exact Nat.le_of_ble_eq_true rfl | exact (show (0 : Int) < _ by decide) | exact (show (0 : Int) ≤ _ by decide) | exact ⟨show (0 : Int) < _ by decide, show Nat.log2 _ < _ by decide⟩ | exact Or.inl (Or.inr ⟨show (_ : Int) < _ by decide, show (_ : Int) < _ by decide⟩) | exact Or.inl (Or.inl ⟨show (_ : Int) < _ by decide, show (_ : Int) < _ by decide⟩) | exact ⟨show (0 : Int) ≤ _ by decide, show (_ : Int) ≤ _ by decide, show Int.natAbs _ < _ by decide⟩)) | refine Exists.intro _ (Exists.intro _ (And.intro rfl (And.intro rfl ?_))) | refine Exists.intro _ (And.intro (Le.rf _) ?_) | refine Exists.intro _ (And.intro rfl ?_)))
  (conv => whnf)
  refine ⟨frz τ, β, i, bs, enc, num, dat, rfl, hx.frz, hT, ?_⟩
  (repeat (first | (refine Nx.mk ?_; ((try (dsimp only [nr_none, nr_some, nr_nil, nf_leaf, nf_pin, nf_node, nf_nil, nf_cons, ni_f, ni_t, nw_nil, nw_cons, ns_0, ns_s])); (try simp only [intsT_frz, frzL_frzL, frz_strs, tls_frz]))) | (refine And.intro ?_ ?_; focus (first | exact rfl | exact frz_frz _ | exact frz_nf _ _ | exact (show frz _ = _ by assumption) | (show frz _ = _; simp only [nf_node, nf_cons, nf_nil, nf_leaf, frzL_frzL, intsT_frz, frz_strs, tls_frz]; done) | exact frz_ints _ _ | exact Nat.le_of_ble_eq_true rfl | exact (show (0 : Int) < _ by decide) | exact (show (0 : Int) ≤ _ by decide) | exact ⟨show (0 : Int) < _ by decide, show Nat.log2 _ < _ by decide⟩ | exact Or.inl (Or.inr ⟨show (_ : Int) < _ by decide, show (_ : Int) < _ by decide⟩) | exact Or.inl (Or.inl ⟨show (_ : Int) < _ by decide, show (_ : Int) < _ by decide⟩) | exact ⟨show (0 : Int) ≤ _ by decide, show (_ : Int) ≤ _ by decide, show Int.natAbs _ < _ by decide⟩)) | refine Exists.intro _ (Exists.intro _ (And.intro rfl (And.intro rfl ?_))) | refine Exists.intro _ (And.intro (Le.rf _) ?_) | refine Exists.intro _ (And.intro rfl ?_)))
  refine ⟨true, (aloneG (grp num bs)).map enc, β, aloneG (grp num bs), enc, fun b => .node true .tup [.leaf (.int (day b)), .leaf (.int (num b))], fun b => .tuple [.int (day b), .int (num b)], leDN day num, rfl, map_fz fun x hx => hT.fz x (mem_alone.mp hx).1, fun b hb => ⟨rfl, fun Q' q' => ?_⟩, ?_, ?_, fun b hb => ?_, fun a ha b hb => ?_, ?_⟩
  · obtain ⟨r, er⟩ := h2 b (mem_alone.mp hb).1
    exact ⟨false, num b, day b, r, by rw [er], q'⟩
  · intro d hd d' hd'
    obtain ⟨x, hx, rfl⟩ := List.mem_map.mp hd
    obtain ⟨y, hy, rfl⟩ := List.mem_map.mp hd'
    simp [W.alike, W.alikeAll]
  · exact .inl fun d hd => by
      obtain ⟨x, hx, rfl⟩ := List.mem_map.mp hd
      exact ⟨_, rfl⟩
  · simp only [PyData.depth, PyData.depthAll]
    decide
  · rw [W.dataLe_ii day num]
  · exact q
theorem rd_clashing {ts : List T} {Q : T → List T → Prop} {E : Value → List (Str × V) → List T → Prop} (h : sp_clashing ts Q E) : t_clashing (bodyEnds [false] Q E) (startE 3 (frzP [false] ts)) := by
  obtain ⟨τ, β, i, bs, enc, num, dat, rfl, hx, hT, q⟩ := h
  (try simp only [np_t, np_f, np_n, ne_c, ne_n, ne_0, nf_leaf, nf_pin, nf_node])
  (repeat (first | (refine Nx.mk ?_; ((try (dsimp only [nr_none, nr_some, nr_nil, nf_leaf, nf_pin, nf_node, nf_nil, nf_cons, ni_f, ni_t, nw_nil, nw_cons, ns_0, ns_s])); (try simp only [intsT_frz, frzL_frzL, frz_strs, tls_frz]))) | (refine And.intro ?_ ?_; focus (first | exact rfl | exact frz_frz _ | exact frz_nf _ _ | exact (show frz _ = _ by assumption) | (show frz _ = _; simp only [nf_node, nf_cons, nf_nil, nf_leaf, frzL_frzL, intsT_frz, frz_strs, tls_frz]; done) | exact frz_ints _ _ | exact Nat.le_of_ble_eq_true rfl | exact (show (0 : Int) < _ by decide) | exact (show (0 : Int) ≤ _ by decide) | exact ⟨show (0 : Int) < _ by decide, show Nat.log2 _ < _ by decide⟩ | exact Or.inl (Or.inr ⟨show (_ : Int) < _ by decide, show (_ : Int) < _ by decide⟩) | exact Or.inl (Or.inl ⟨show (_ : Int) < _ by decide, show (_ : Int) < _ by decide⟩) | exact ⟨show (0 : Int) ≤ _ by decide, show (_ : Int) ≤ _ by decide, show Int.natAbs _ < _ by decide⟩)) | refine Exists.intro _ (Exists.intro _ (And.intro rfl (And.intro rfl ?_))) | refine Exists.intro _ (And.intro (Le.rf _) ?_) | refine Exists.intro _ (And.intro rfl ?_)))
  (conv => whnf)
  refine ⟨frz τ, β, i, bs, enc, num, dat, rfl, hx.frz, hT, ?_⟩
  (repeat (first | (refine Nx.mk ?_; ((try (dsimp only [nr_none, nr_some, nr_nil, nf_leaf, nf_pin, nf_node, nf_nil, nf_cons, ni_f, ni_t, nw_nil, nw_cons, ns_0, ns_s])); (try simp only [intsT_frz, frzL_frzL, frz_strs, tls_frz]))) | (refine And.intro ?_ ?_; focus (first | exact rfl | exact frz_frz _ | exact frz_nf _ _ | exact (show frz _ = _ by assumption) | (show frz _ = _; simp only [nf_node, nf_cons, nf_nil, nf_leaf, frzL_frzL, intsT_frz, frz_strs, tls_frz]; done) | exact frz_ints _ _ | exact Nat.le_of_ble_eq_true rfl | exact (show (0 : Int) < _ by decide) | exact (show (0 : Int) ≤ _ by decide) | exact ⟨show (0 : Int) < _ by decide, show Nat.log2 _ < _ by decide⟩ | exact Or.inl (Or.inr ⟨show (_ : Int) < _ by decide, show (_ : Int) < _ by decide⟩) | exact Or.inl (Or.inl ⟨show (_ : Int) < _ by decide, show (_ : Int) < _ by decide⟩) | exact ⟨show (0 : Int) ≤ _ by decide, show (_ : Int) ≤ _ by decide, show Int.natAbs _ < _ by decide⟩)) | refine Exists.intro _ (Exists.intro _ (And.intro rfl (And.intro rfl ?_))) | refine Exists.intro _ (And.intro (Le.rf _) ?_) | refine Exists.intro _ (And.intro rfl ?_)))
  refine ⟨_, _, rfl, by rw [kids_len, keys_len], ?_⟩
  rw [kids_frz _ _ fun p hp x hx => hT.fz x (grp_sub p hp x hx)]
  have hGl : (grp num bs).length ≤ 1000000 := by have := grp_len (num := num) bs; have := hT.len; omega
  have ei : ((keysG (grp num bs)).zip (kidsG false enc (grp num bs))).map itmT = (grp num bs).map fun p => .node true .tup [.leaf (.int p.1), .node false .lst (p.2.map enc)] := by
    unfold keysG kidsG
    rw [zip_maps, List.map_map]
    rfl
  rw [ei]
  refine Lc.fx (grp num bs) (fun p => .node true .tup [.leaf (.int p.1), .node false .lst (p.2.map enc)]) rfl (fun p => if decide (1 < p.2.length) = true then some (.leaf (.int p.1)) else none) (by show _ ≤ 16777216; omega) (fun p hp acc R' hacc k1 k2 => ?_) ?_
  · have hfz : frzL (p.2.map enc) = p.2.map enc := map_fz fun x hx => hT.fz x (grp_sub p hp x hx)
    (repeat (first | (refine Nx.mk ?_; ((try (dsimp only [nr_none, nr_some, nr_nil, nf_leaf, nf_pin, nf_node, nf_nil, nf_cons, ni_f, ni_t, nw_nil, nw_cons, ns_0, ns_s])); (try simp only [intsT_frz, frzL_frzL, frz_strs, tls_frz]))) | (refine And.intro ?_ ?_; focus (first | exact rfl | exact frz_frz _ | exact frz_nf _ _ | exact (show frz _ = _ by assumption) | (show frz _ = _; simp only [nf_node, nf_cons, nf_nil, nf_leaf, frzL_frzL, intsT_frz, frz_strs, tls_frz]; done) | exact frz_ints _ _ | exact Nat.le_of_ble_eq_true rfl | exact (show (0 : Int) < _ by decide) | exact (show (0 : Int) ≤ _ by decide) | exact ⟨show (0 : Int) < _ by decide, show Nat.log2 _ < _ by decide⟩ | exact Or.inl (Or.inr ⟨show (_ : Int) < _ by decide, show (_ : Int) < _ by decide⟩) | exact Or.inl (Or.inl ⟨show (_ : Int) < _ by decide, show (_ : Int) < _ by decide⟩) | exact ⟨show (0 : Int) ≤ _ by decide, show (_ : Int) ≤ _ by decide, show Int.natAbs _ < _ by decide⟩)) | refine Exists.intro _ (Exists.intro _ (And.intro rfl (And.intro rfl ?_))) | refine Exists.intro _ (And.intro (Le.rf _) ?_) | refine Exists.intro _ (And.intro rfl ?_)))
    rw [if_neg (show ¬ false = true by decide), if_neg (show ¬ false = true by decide), frz_frz, frz_frz]
    (conv => whnf)
    rw [hfz, List.length_map]
    rw [show decide ((1 : Int) < (p.2.length : Nat)) = decide (1 < p.2.length) by rw [decide_eq_decide]; omega]
    refine ifB_dec (p := 1 < p.2.length) (fun hl => ?_) (fun hl => ?_)
    · (conv => whnf)
      exact And.intro rfl (And.intro hacc (k1 _ (if_pos (decide_eq_true hl))))
    · exact k2 (if_neg (by rw [decide_eq_false hl]; decide))
  rw [fm_filterB]
  (conv => whnf)
  refine ⟨((grp num bs).filter fun p => decide (1 < p.2.length)).map (·.1), by rw [intsT_eq, List.map_map, List.map_map]; rfl, fun ns' hp hs => ?_⟩
  rw [sort_ints hp hs]
  exact q
section
variable {β : Type} [DecidableEq β] {num : β → Int} {enc : β → T}
theorem dget_kids {o : Bool} : ∀ {G : List (Int × List β)} {p : Int × List β}, (G.map (·.1)).Nodup → p ∈ G → (ixK (keysG G) (.inl p.1)).bind ((kidsG o enc G)[·]?) = some (.node o .lst (p.2.map enc))
  | q :: r, p, nd, hp => by
    rw [List.map_cons, List.nodup_cons] at nd
    show ((if (Sum.inl q.1 : Key) = .inl p.1 then some 0 else (ixK (keysG r) (.inl p.1)).map (· + 1)).bind ((kidsG o enc (q :: r))[·]?)) = _
    rcases List.mem_cons.mp hp with rfl | hp
    · rw [if_pos rfl]
      rfl
    · have : ¬ q.1 = p.1 := fun e => nd.1 (e ▸ List.mem_map_of_mem hp)
      rw [if_neg (fun z => this (Sum.inl.inj z))]
      have ih := dget_kids (o := o) nd.2 hp
      cases e : ixK (keysG r) (.inl p.1) with
      | none => rw [e] at ih; cases ih
      | some j =>
        rw [e] at ih
        exact ih
theorem keysG_map (G : List (Int × List β)) : keysG G = (G.map (·.1)).map Sum.inl := by
  unfold keysG
  rw [List.map_map]
  rfl
end
theorem rd__law_kept {ts : List T} {Q : T → List T → Prop} {E : Value → List (Str × V) → List T → Prop} (h : sp__law_kept ts Q E) : t__law_kept (bodyEnds [false, false] Q E) (startE 5 (frzP [false, false] ts)) := by
  obtain ⟨τ, at_, β, i, bs, enc, num, dat, rfl, ⟨o, xs, rfl, hx⟩, hT, hA, q⟩ := h
  (try simp only [np_t, np_f, np_n, ne_c, ne_n, ne_0, nf_leaf, nf_pin, nf_node])
  (repeat (first | (refine Nx.mk ?_; ((try (dsimp only [nr_none, nr_some, nr_nil, nf_leaf, nf_pin, nf_node, nf_nil, nf_cons, ni_f, ni_t, nw_nil, nw_cons, ns_0, ns_s])); (try simp only [intsT_frz, frzL_frzL, frz_strs, tls_frz]))) | (refine And.intro ?_ ?_; focus (first | exact rfl | exact frz_frz _ | exact frz_nf _ _ | exact (show frz _ = _ by assumption) | (show frz _ = _; simp only [nf_node, nf_cons, nf_nil, nf_leaf, frzL_frzL, intsT_frz, frz_strs, tls_frz]; done) | exact frz_ints _ _ | exact Nat.le_of_ble_eq_true rfl | exact (show (0 : Int) < _ by decide) | exact (show (0 : Int) ≤ _ by decide) | exact ⟨show (0 : Int) < _ by decide, show Nat.log2 _ < _ by decide⟩ | exact Or.inl (Or.inr ⟨show (_ : Int) < _ by decide, show (_ : Int) < _ by decide⟩) | exact Or.inl (Or.inl ⟨show (_ : Int) < _ by decide, show (_ : Int) < _ by decide⟩) | exact ⟨show (0 : Int) ≤ _ by decide, show (_ : Int) ≤ _ by decide, show Int.natAbs _ < _ by decide⟩)) | refine Exists.intro _ (Exists.intro _ (And.intro rfl (And.intro rfl ?_))) | refine Exists.intro _ (And.intro (Le.rf _) ?_) | refine Exists.intro _ (And.intro rfl ?_)))
  (conv => whnf)
  rw [frzL_frzL, hx]
  refine Loop.fit bs enc rfl (fun G : List (Int × List β) => [some (some (.node false .lst (bs.map enc))), some (some (.leaf (.int (at_ : Nat)))), some (some (.node true (.dK (keysG G)) (kidsG false enc G))), none, none]) (fun i G => G = grp num (bs.take i)) [] rfl (by repeat' (first | exact Fits.e | refine Fits.n ?_ | refine Fits.s rfl ?_)) (fun i b G g hb hI hF R hR => ?_) fun G g hI hF => ?_
  · (repeat (first | (obtain ⟨_, rfl, hF⟩ := hF) | (obtain ⟨_, _, rfl, hF⟩ := hF))); (try cases hF)
    have hbm := List.mem_of_getElem? hb
    obtain ⟨l0, el, hl0⟩ := hA b hbm
    have hfz := hT.fz b hbm
    have hto := hT.to b hbm
    have hb1 := hT.one hbm
    have hlen : G.length ≤ 1000000 := by
      rw [hI]
      have := grp_len (num := num) (bs.take i)
      have h2 := hT.len
      rw [List.length_take] at this
      omega
    have hnd := (grp_ok (num := num) (bs.take i)).nd
    rw [← hI] at hnd
    have hS1 : ∀ p ∈ G, ∀ x ∈ p.2, x ∈ bs := by
      rw [hI]
      exact fun p hp x hx => List.mem_of_mem_take (grp_sub p hp x hx)
    have hS2 : ∀ p ∈ G, p.2.length ≤ 1000000 := by
      rw [hI]
      exact grp_small (by have := hT.len; rw [List.length_take]; omega)
    obtain ⟨i1, i2⟩ := insG_ix (num := num) b G
    have eI : insG num G b = grp num (bs.take (i + 1)) := by
      rw [hI, List.take_add_one, hb]
      exact (grp_snoc _ _).symm
    have put : ∀ (l : List β), (∀ x ∈ l, x ∈ bs) → l.length ≤ 1000000 → ∀ (D : DEnds) (t0 : T), rtDPut t0 (.leaf (.int (num b))) (.node false .lst ((if b ∈ l then l else l ++ [b]).map enc)) (fun t1 => D.nx [some (.node false .lst (bs.map enc)), some (.leaf (.int (at_ : Nat))), some t1, some (enc b), some (.node false .lst (l.map enc))]) →
        t__law_kept_1 D [some (.node false .lst (bs.map enc)), some (.leaf (.int (at_ : Nat))), some t0, some (enc b), some (.node false .lst (l.map enc))] := by
      intro l hs hl D t0 hq
      have hTl : Ths l enc num dat := hT.sub hs hl
      have hlz : frzL (l.map enc) = l.map enc := map_fz fun x hx => hT.fz x (hs x hx)
      unfold t__law_kept_1
      (conv => whnf)
      refine And.intro (by rw [frz_node, hlz]) ?_
      (conv => whnf)
      refine And.intro hfz ?_
      (conv => whnf)
      refine And.intro (show 1 ≤ 16777216 by decide) ?_
      (conv => whnf)
      refine And.intro hfz ?_
      (conv => whnf)
      refine And.intro (by rw [frz_node, hlz]) ?_
      (conv => whnf)
      refine ⟨dat b, l.map dat, hto, by simp only [toP, hTl.toPL]; rfl, hb1, hTl.shaped, ?_⟩
      rw [hT.any hs hbm]
      (conv => whnf)
      have fin : ∀ τv, τv = T.node false .lst ((if b ∈ l then l else l ++ [b]).map enc) → (xOp rtIx (xVar 3) (xVar 1) [some (.node false .lst (bs.map enc)), some (.leaf (.int (at_ : Nat))), some t0, some (enc b), some (.node false .lst (l.map enc))] (fun τk g2 => atSlot 2 g2 fun t0 => rtDPut t0 τk τv fun t1 => D.nx (List.set g2 2 (some t1))) D.ex) := fun τv hv => by
        rw [hv]
        (conv => whnf)
        refine And.intro hfz ?_
        (conv => whnf)
        refine And.intro rfl ?_
        have hf1 := hfz
        rw [el, frz_node] at hf1
        have hl1 : frzL l0 = l0 := (T.node.inj hf1).2.2
        rw [el]
        (conv => whnf)
        refine ⟨_, atI_of (by first | (rw [hl1]; exact hl0) | exact hl0), ?_⟩
        rw [← el]
        exact hq
      by_cases hm : b ∈ l
      · rw [decide_eq_true hm]
        rw [show (if (if true = true then !true else true) = true then (1 : Int) else 0) = 0 from rfl]
        refine And.intro ⟨by decide, by decide, by show 0 ≤ 16777216; decide⟩ ?_
        (conv => whnf)
        rw [show repL (frzL [enc b]) 0 = [] from rfl]
        refine And.intro (by rw [List.length_map]; show _ ≤ 16777216; simp; omega) ?_
        (conv => whnf)
        refine fin _ ?_
        rw [if_pos hm]
        show T.node false .lst (frzL (frzL (l.map enc) ++ frzL [])) = _
        rw [hlz]
        simp only [frzL, List.append_nil]
        rw [hlz]
      · rw [decide_eq_false hm]
        rw [show (if (if true = true then !false else false) = true then (1 : Int) else 0) = 1 from rfl]
        refine And.intro ⟨by decide, by decide, by show 1 ≤ 16777216; decide⟩ ?_
        (conv => whnf)
        rw [show repL (frzL [enc b]) 1 = [enc b] by simp [repL, frzL, hfz]]
        refine And.intro (by rw [List.length_map]; show _ ≤ 16777216; simp; omega) ?_
        (conv => whnf)
        refine fin _ ?_
        rw [if_neg hm]
        show T.node false .lst (frzL (frzL (l.map enc) ++ frzL [enc b])) = _
        have e1 : frzL [enc b] = [enc b] := by simp [frzL, hfz]
        rw [hlz, e1, show l.map enc ++ [enc b] = (l ++ [b]).map enc by simp]
        rw [map_fz fun x hx => ?_]
        rcases List.mem_append.mp hx with h | h
        · exact hT.fz x (hs x h)
        · rw [List.mem_singleton.mp h]
          exact hfz
    (repeat (first | (refine Nx.mk ?_; ((try (dsimp only [nr_none, nr_some, nr_nil, nf_leaf, nf_pin, nf_node, nf_nil, nf_cons, ni_f, ni_t, nw_nil, nw_cons, ns_0, ns_s])); (try simp only [intsT_frz, frzL_frzL, frz_strs, tls_frz]))) | (refine And.intro ?_ ?_; focus (first | exact rfl | exact frz_frz _ | exact frz_nf _ _ | exact (show frz _ = _ by assumption) | (show frz _ = _; simp only [nf_node, nf_cons, nf_nil, nf_leaf, frzL_frzL, intsT_frz, frz_strs, tls_frz]; done) | exact frz_ints _ _ | exact Nat.le_of_ble_eq_true rfl | exact (show (0 : Int) < _ by decide) | exact (show (0 : Int) ≤ _ by decide) | exact ⟨show (0 : Int) < _ by decide, show Nat.log2 _ < _ by decide⟩ | exact Or.inl (Or.inr ⟨show (_ : Int) < _ by decide, show (_ : Int) < _ by decide⟩) | exact Or.inl (Or.inl ⟨show (_ : Int) < _ by decide, show (_ : Int) < _ by decide⟩) | exact ⟨show (0 : Int) ≤ _ by decide, show (_ : Int) ≤ _ by decide, show Int.natAbs _ < _ by decide⟩)) | refine Exists.intro _ (Exists.intro _ (And.intro rfl (And.intro rfl ?_))) | refine Exists.intro _ (And.intro (Le.rf _) ?_) | refine Exists.intro _ (And.intro rfl ?_)))
    (conv => whnf)
    refine And.intro True.intro ?_
    (conv => whnf)
    rw [if_neg (show ¬ false = true by decide), hfz]
    refine And.intro hfz ?_
    rw [el]
    (conv => whnf)
    refine And.intro rfl ?_
    (conv => whnf)
    refine ⟨_, atI_of hl0, ?_⟩
    (conv => whnf)
    refine And.intro (Nat.zero_le _) ?_
    refine And.intro True.intro ?_
    refine And.intro (by rw [kids_len, keys_len]) ?_
    cases e : ixK (keysG G) (.inl (num b)) with
    | none =>
      show Nx _ _ _
      rw [if_neg (show ¬ false = true by decide)]
      refine Nx.mk ?_
      unfold t__law_kept_1
      rw [show frz (T.node true .lst []) = T.node false .lst [] from rfl, ← el]
      refine put [] (fun x hx => by cases hx) (Nat.zero_le _) _ _ ?_
      show rtDPut (T.node true (.dK (keysG G)) (kidsG false enc G)) (.leaf (.int (num b))) (.node false .lst [enc b]) _
      refine ⟨keys_nd hnd, by rw [kids_len, keys_len], by rw [keys_len]; show _ < 16777216; omega, ?_⟩
      refine hR _ _ eI ?_
      rw [i1 e]
      show Fits _ _
      unfold putT
      rw [e]
      unfold keysG kidsG
      rw [List.map_append, List.map_append]
      (repeat' (first | exact Fits.e | refine Fits.n ?_ | refine Fits.s rfl ?_))
    | some n =>
      obtain ⟨l, hl, e2⟩ := i2 n e
      have hlm := List.mem_of_getElem? hl
      have hTl : Ths l enc num dat := hT.sub (hS1 _ hlm) (hS2 _ hlm)
      have hkl : (kidsG false enc G)[n]? = some (.node false .lst (l.map enc)) := by
        unfold kidsG
        rw [List.getElem?_map, hl]
        rfl
      have hlz : frzL (l.map enc) = l.map enc := map_fz fun x hx => hT.fz x (hS1 _ hlm x hx)
      show (match (kidsG false enc G)[n]? with | some t => _ | none => _)
      rw [hkl]
      refine And.intro (by rw [frz_node, hlz]) ?_
      (conv => whnf)
      rw [if_neg (show ¬ false = true by decide), frz_node, hlz]
      refine Nx.mk ?_
      unfold t__law_kept_1
      rw [← el]
      (conv => whnf)
      refine put l (hS1 _ hlm) (hS2 _ hlm) _ _ ?_
      refine ⟨keys_nd hnd, by rw [kids_len, keys_len], by rw [keys_len]; show _ < 16777216; omega, ?_⟩
      refine hR _ _ eI ?_
      unfold putT
      rw [e, e2]
      have ek : keysG (G.set n (num b, if b ∈ l then l else l ++ [b])) = keysG G := by
        unfold keysG
        rw [List.map_set]
        exact set_at (by rw [List.getElem?_map, hl]; rfl)
      have ec : kidsG false enc (G.set n (num b, if b ∈ l then l else l ++ [b])) = (kidsG false enc G).set n (.node false .lst ((if b ∈ l then l else l ++ [b]).map enc)) := by
        unfold kidsG
        rw [List.map_set]
      rw [ek, ec]
      (repeat' (first | exact Fits.e | refine Fits.n ?_ | refine Fits.s rfl ?_))
  · (repeat (first | (obtain ⟨_, rfl, hF⟩ := hF) | (obtain ⟨_, _, rfl, hF⟩ := hF))); (try cases hF)
    have e : G = grp num bs := by rw [hI, List.take_length]
    rw [e]
    (refine Nx.mk ?_; ((try (dsimp only [nr_none, nr_some, nr_nil, nf_leaf, nf_pin, nf_node, nf_nil, nf_cons, ni_f, ni_t, nw_nil, nw_cons, ns_0, ns_s])); (try simp only [intsT_frz, frzL_frzL, frz_strs, tls_frz])))
    (repeat (first | (refine Nx.mk ?_; ((try (dsimp only [nr_none, nr_some, nr_nil, nf_leaf, nf_pin, nf_node, nf_nil, nf_cons, ni_f, ni_t, nw_nil, nw_cons, ns_0, ns_s])); (try simp only [intsT_frz, frzL_frzL, frz_strs, tls_frz]))) | (refine And.intro ?_ ?_; focus (first | exact rfl | exact frz_frz _ | exact frz_nf _ _ | exact (show frz _ = _ by assumption) | (show frz _ = _; simp only [nf_node, nf_cons, nf_nil, nf_leaf, frzL_frzL, intsT_frz, frz_strs, tls_frz]; done) | exact frz_ints _ _ | exact Nat.le_of_ble_eq_true rfl | exact (show (0 : Int) < _ by decide) | exact (show (0 : Int) ≤ _ by decide) | exact ⟨show (0 : Int) < _ by decide, show Nat.log2 _ < _ by decide⟩ | exact Or.inl (Or.inr ⟨show (_ : Int) < _ by decide, show (_ : Int) < _ by decide⟩) | exact Or.inl (Or.inl ⟨show (_ : Int) < _ by decide, show (_ : Int) < _ by decide⟩) | exact ⟨show (0 : Int) ≤ _ by decide, show (_ : Int) ≤ _ by decide, show Int.natAbs _ < _ by decide⟩)) | refine Exists.intro _ (Exists.intro _ (And.intro rfl (And.intro rfl ?_))) | refine Exists.intro _ (And.intro (Le.rf _) ?_) | refine Exists.intro _ (And.intro rfl ?_)))
    exact q
theorem rd__law_alone {ts : List T} {Q : T → List T → Prop} {E : Value → List (Str × V) → List T → Prop} (h : sp__law_alone ts Q E) : t__law_alone (bodyEnds [false, false] Q E) (startE 4 (frzP [false, false] ts)) := by
  obtain ⟨τ, at_, β, i, bs, enc, num, dat, rfl, hx, hT, hA, q⟩ := h
  (try simp only [np_t, np_f, np_n, ne_c, ne_n, ne_0, nf_leaf, nf_pin, nf_node])
  (repeat (first | (refine Nx.mk ?_; ((try (dsimp only [nr_none, nr_some, nr_nil, nf_leaf, nf_pin, nf_node, nf_nil, nf_cons, ni_f, ni_t, nw_nil, nw_cons, ns_0, ns_s])); (try simp only [intsT_frz, frzL_frzL, frz_strs, tls_frz]))) | (refine And.intro ?_ ?_; focus (first | exact rfl | exact frz_frz _ | exact frz_nf _ _ | exact (show frz _ = _ by assumption) | (show frz _ = _; simp only [nf_node, nf_cons, nf_nil, nf_leaf, frzL_frzL, intsT_frz, frz_strs, tls_frz]; done) | exact frz_ints _ _ | exact Nat.le_of_ble_eq_true rfl | exact (show (0 : Int) < _ by decide) | exact (show (0 : Int) ≤ _ by decide) | exact ⟨show (0 : Int) < _ by decide, show Nat.log2 _ < _ by decide⟩ | exact Or.inl (Or.inr ⟨show (_ : Int) < _ by decide, show (_ : Int) < _ by decide⟩) | exact Or.inl (Or.inl ⟨show (_ : Int) < _ by decide, show (_ : Int) < _ by decide⟩) | exact ⟨show (0 : Int) ≤ _ by decide, show (_ : Int) ≤ _ by decide, show Int.natAbs _ < _ by decide⟩)) | refine Exists.intro _ (Exists.intro _ (And.intro rfl (And.intro rfl ?_))) | refine Exists.intro _ (And.intro (Le.rf _) ?_) | refine Exists.intro _ (And.intro rfl ?_)))
  (conv => whnf)
  refine ⟨frz τ, at_, β, i, bs, enc, num, dat, rfl, hx.frz, hT, hA, ?_⟩
  (conv => whnf)
  refine Nx.mk ?_
  ((try (dsimp only [nr_none, nr_some, nr_nil, nf_leaf, nf_pin, nf_node, nf_nil, nf_cons, ni_f, ni_t, nw_nil, nw_cons, ns_0, ns_s])); (try simp only [intsT_frz, frzL_frzL, frz_strs, tls_frz]))
  rw [kids_frz _ _ fun p hp x hx => hT.fz x (grp_sub p hp x hx)]
  (repeat (first | (refine Nx.mk ?_; ((try (dsimp only [nr_none, nr_some, nr_nil, nf_leaf, nf_pin, nf_node, nf_nil, nf_cons, ni_f, ni_t, nw_nil, nw_cons, ns_0, ns_s])); (try simp only [intsT_frz, frzL_frzL, frz_strs, tls_frz]))) | (refine And.intro ?_ ?_; focus (first | exact rfl | exact frz_frz _ | exact frz_nf _ _ | exact (show frz _ = _ by assumption) | (show frz _ = _; simp only [nf_node, nf_cons, nf_nil, nf_leaf, frzL_frzL, intsT_frz, frz_strs, tls_frz]; done) | exact frz_ints _ _ | exact Nat.le_of_ble_eq_true rfl | exact (show (0 : Int) < _ by decide) | exact (show (0 : Int) ≤ _ by decide) | exact ⟨show (0 : Int) < _ by decide, show Nat.log2 _ < _ by decide⟩ | exact Or.inl (Or.inr ⟨show (_ : Int) < _ by decide, show (_ : Int) < _ by decide⟩) | exact Or.inl (Or.inl ⟨show (_ : Int) < _ by decide, show (_ : Int) < _ by decide⟩) | exact ⟨show (0 : Int) ≤ _ by decide, show (_ : Int) ≤ _ by decide, show Int.natAbs _ < _ by decide⟩)) | refine Exists.intro _ (Exists.intro _ (And.intro rfl (And.intro rfl ?_))) | refine Exists.intro _ (And.intro (Le.rf _) ?_) | refine Exists.intro _ (And.intro rfl ?_)))
  unfold t__law_alone_1
  (conv => whnf)
  have hG := grp_ok (num := num) bs
  have hGl : (grp num bs).length ≤ 1000000 := by have := grp_len (num := num) bs; have := hT.len; omega
  have efr : frzL (kidsG false enc (grp num bs)) = kidsG false enc (grp num bs) := kids_frz _ _ fun p hp x hx => hT.fz x (grp_sub p hp x hx)
  refine And.intro (by rw [frz_node, efr]) ?_
  refine ⟨(grp num bs).map (·.1), kidsG false enc (grp num bs), by rw [frz_node, efr, keysG_map], by rw [kids_len, List.length_map], ?_⟩
  (conv => whnf)
  rw [intsT_frz]
  refine Lc.fx (((grp num bs).map (·.1)).mergeSort leI2) (fun n => .leaf (.int n)) rfl (fun n => (only1 (getG (grp num bs) n)).map enc) (by rw [List.length_mergeSort, List.length_map]; show _ ≤ 16777216; omega) (fun n hn acc R' hacc k1 k2 => ?_) ?_
  · obtain ⟨p, hp, rfl⟩ := List.mem_map.mp ((List.mergeSort_perm _ _).mem_iff.mp hn)
    have hg := dget_kids (o := false) (enc := enc) hG.nd hp
    have hf := find_get hG.nd hp
    have hpz : frzL (p.2.map enc) = p.2.map enc := map_fz fun x hx => hT.fz x (grp_sub p hp x hx)
    (conv => whnf)
    refine And.intro (by rw [frz_node, efr]) ?_
    (conv => whnf)
    refine And.intro rfl ?_
    (conv => whnf)
    rw [efr]
    refine And.intro (by rw [kids_len, keys_len]) ⟨_, hg, ?_⟩
    (conv => whnf)
    rw [List.length_map]
    refine ifB_dec (p := ((p.2.length : Nat) : Int) = 1) (fun hl => ?_) (fun hl => ?_)
    · obtain ⟨x, ex⟩ : ∃ x, p.2 = [x] := by
        match hp2 : p.2 with
        | [] => rw [hp2] at hl; exact absurd (show ((0 : Nat) : Int) = 1 from hl) (by decide)
        | [x] => exact ⟨x, rfl⟩
        | x :: y :: r => rw [hp2] at hl; simp at hl; omega
      (conv => whnf)
      refine And.intro (by rw [frz_node, efr]) ?_
      (conv => whnf)
      refine And.intro rfl ?_
      (conv => whnf)
      rw [efr]
      refine And.intro (by rw [kids_len, keys_len]) ⟨_, hg, ?_⟩
      (conv => whnf)
      rw [ex]
      have hxf := hT.fz x (grp_sub p hp x (by rw [ex]; exact List.mem_cons_self))
      refine ⟨enc x, atI_0 rfl, ?_⟩
      (conv => whnf)
      refine And.intro hacc ?_
      rw [hxf]
      exact k1 _ (by rw [hf, ex]; rfl)
    · refine k2 ?_
      have : only1 p.2 = none := by
        unfold only1
        split
        · rename_i x ex
          rw [ex] at hl
          exact absurd rfl hl
        · rfl
      rw [hf, this]
      rfl
  have e : (((grp num bs).map (·.1)).mergeSort leI2).filterMap (fun n => (only1 (getG (grp num bs) n)).map enc) = (alnL (grp num bs)).map enc := by
    unfold alnL
    rw [List.map_filterMap]
  rw [e]
  exact q
theorem rd__law_clashing {ts : List T} {Q : T → List T → Prop} {E : Value → List (Str × V) → List T → Prop} (h : sp__law_clashing ts Q E) : t__law_clashing (bodyEnds [false, false] Q E) (startE 4 (frzP [false, false] ts)) := by
  obtain ⟨τ, at_, β, i, bs, enc, num, dat, rfl, hx, hT, hA, q⟩ := h
  (try simp only [np_t, np_f, np_n, ne_c, ne_n, ne_0, nf_leaf, nf_pin, nf_node])
  (repeat (first | (refine Nx.mk ?_; ((try (dsimp only [nr_none, nr_some, nr_nil, nf_leaf, nf_pin, nf_node, nf_nil, nf_cons, ni_f, ni_t, nw_nil, nw_cons, ns_0, ns_s])); (try simp only [intsT_frz, frzL_frzL, frz_strs, tls_frz]))) | (refine And.intro ?_ ?_; focus (first | exact rfl | exact frz_frz _ | exact frz_nf _ _ | exact (show frz _ = _ by assumption) | (show frz _ = _; simp only [nf_node, nf_cons, nf_nil, nf_leaf, frzL_frzL, intsT_frz, frz_strs, tls_frz]; done) | exact frz_ints _ _ | exact Nat.le_of_ble_eq_true rfl | exact (show (0 : Int) < _ by decide) | exact (show (0 : Int) ≤ _ by decide) | exact ⟨show (0 : Int) < _ by decide, show Nat.log2 _ < _ by decide⟩ | exact Or.inl (Or.inr ⟨show (_ : Int) < _ by decide, show (_ : Int) < _ by decide⟩) | exact Or.inl (Or.inl ⟨show (_ : Int) < _ by decide, show (_ : Int) < _ by decide⟩) | exact ⟨show (0 : Int) ≤ _ by decide, show (_ : Int) ≤ _ by decide, show Int.natAbs _ < _ by decide⟩)) | refine Exists.intro _ (Exists.intro _ (And.intro rfl (And.intro rfl ?_))) | refine Exists.intro _ (And.intro (Le.rf _) ?_) | refine Exists.intro _ (And.intro rfl ?_)))
  (conv => whnf)
  refine ⟨frz τ, at_, β, i, bs, enc, num, dat, rfl, hx.frz, hT, hA, ?_⟩
  (conv => whnf)
  refine Nx.mk ?_
  ((try (dsimp only [nr_none, nr_some, nr_nil, nf_leaf, nf_pin, nf_node, nf_nil, nf_cons, ni_f, ni_t, nw_nil, nw_cons, ns_0, ns_s])); (try simp only [intsT_frz, frzL_frzL, frz_strs, tls_frz]))
  rw [kids_frz _ _ fun p hp x hx => hT.fz x (grp_sub p hp x hx)]
  (repeat (first | (refine Nx.mk ?_; ((try (dsimp only [nr_none, nr_some, nr_nil, nf_leaf, nf_pin, nf_node, nf_nil, nf_cons, ni_f, ni_t, nw_nil, nw_cons, ns_0, ns_s])); (try simp only [intsT_frz, frzL_frzL, frz_strs, tls_frz]))) | (refine And.intro ?_ ?_; focus (first | exact rfl | exact frz_frz _ | exact frz_nf _ _ | exact (show frz _ = _ by assumption) | (show frz _ = _; simp only [nf_node, nf_cons, nf_nil, nf_leaf, frzL_frzL, intsT_frz, frz_strs, tls_frz]; done) | exact frz_ints _ _ | exact Nat.le_of_ble_eq_true rfl | exact (show (0 : Int) < _ by decide) | exact (show (0 : Int) ≤ _ by decide) | exact ⟨show (0 : Int) < _ by decide, show Nat.log2 _ < _ by decide⟩ | exact Or.inl (Or.inr ⟨show (_ : Int) < _ by decide, show (_ : Int) < _ by decide⟩) | exact Or.inl (Or.inl ⟨show (_ : Int) < _ by decide, show (_ : Int) < _ by decide⟩) | exact ⟨show (0 : Int) ≤ _ by decide, show (_ : Int) ≤ _ by decide, show Int.natAbs _ < _ by decide⟩)) | refine Exists.intro _ (Exists.intro _ (And.intro rfl (And.intro rfl ?_))) | refine Exists.intro _ (And.intro (Le.rf _) ?_) | refine Exists.intro _ (And.intro rfl ?_)))
  unfold t__law_clashing_1
  (conv => whnf)
  have hG := grp_ok (num := num) bs
  have hGl : (grp num bs).length ≤ 1000000 := by have := grp_len (num := num) bs; have := hT.len; omega
  have efr : frzL (kidsG false enc (grp num bs)) = kidsG false enc (grp num bs) := kids_frz _ _ fun p hp x hx => hT.fz x (grp_sub p hp x hx)
  refine And.intro (by rw [frz_node, efr]) ?_
  refine ⟨(grp num bs).map (·.1), kidsG false enc (grp num bs), by rw [frz_node, efr, keysG_map], by rw [kids_len, List.length_map], ?_⟩
  (conv => whnf)
  rw [intsT_frz]
  refine Lc.fx (((grp num bs).map (·.1)).mergeSort leI2) (fun n => .leaf (.int n)) rfl (fun n => if decide (1 < (getG (grp num bs) n).length) = true then some (.leaf (.int n)) else none) (by rw [List.length_mergeSort, List.length_map]; show _ ≤ 16777216; omega) (fun n hn acc R' hacc k1 k2 => ?_) ?_
  · obtain ⟨p, hp, rfl⟩ := List.mem_map.mp ((List.mergeSort_perm _ _).mem_iff.mp hn)
    have hg := dget_kids (o := false) (enc := enc) hG.nd hp
    have hf := find_get hG.nd hp
    (conv => whnf)
    refine And.intro (by rw [frz_node, efr]) ?_
    (conv => whnf)
    refine And.intro rfl ?_
    (conv => whnf)
    rw [efr]
    refine And.intro (by rw [kids_len, keys_len]) ⟨_, hg, ?_⟩
    (conv => whnf)
    rw [List.length_map]
    rw [show decide ((1 : Int) < (p.2.length : Nat)) = decide (1 < p.2.length) by rw [decide_eq_decide]; omega]
    refine ifB_dec (p := 1 < p.2.length) (fun hl => ?_) (fun hl => ?_)
    · (conv => whnf)
      exact And.intro rfl (And.intro hacc (k1 _ (if_pos (by rw [hf]; exact decide_eq_true hl))))
    · exact k2 (if_neg (by rw [hf, decide_eq_false hl]; decide))
  rw [fm_filterB]
  have e : ((((grp num bs).map (·.1)).mergeSort leI2).filter fun n => decide (1 < (getG (grp num bs) n).length)).map (fun n => T.leaf (V.int n)) = intsT (clashL (grp num bs)) := rfl
  rw [e]
  exact q
theorem rd__law_by_day {ts : List T} {Q : T → List T → Prop} {E : Value → List (Str × V) → List T → Prop} (h : sp__law_by_day ts Q E) : t__law_by_day (bodyEnds [false, false] Q E) (startE 6 (frzP [false, false] ts)) := by
  obtain ⟨τ, at_, β, bs, enc, num, day, rfl, ⟨o, xs, rfl, hx⟩, hl, hfz, hA0, hA, q⟩ := h
  (try simp only [np_t, np_f, np_n, ne_c, ne_n, ne_0, nf_leaf, nf_pin, nf_node])
  (repeat (first | (refine Nx.mk ?_; ((try (dsimp only [nr_none, nr_some, nr_nil, nf_leaf, nf_pin, nf_node, nf_nil, nf_cons, ni_f, ni_t, nw_nil, nw_cons, ns_0, ns_s])); (try simp only [intsT_frz, frzL_frzL, frz_strs, tls_frz]))) | (refine And.intro ?_ ?_; focus (first | exact rfl | exact frz_frz _ | exact frz_nf _ _ | exact (show frz _ = _ by assumption) | (show frz _ = _; simp only [nf_node, nf_cons, nf_nil, nf_leaf, frzL_frzL, intsT_frz, frz_strs, tls_frz]; done) | exact frz_ints _ _ | exact Nat.le_of_ble_eq_true rfl | exact (show (0 : Int) < _ by decide) | exact (show (0 : Int) ≤ _ by decide) | exact ⟨show (0 : Int) < _ by decide, show Nat.log2 _ < _ by decide⟩ | exact Or.inl (Or.inr ⟨show (_ : Int) < _ by decide, show (_ : Int) < _ by decide⟩) | exact Or.inl (Or.inl ⟨show (_ : Int) < _ by decide, show (_ : Int) < _ by decide⟩) | exact ⟨show (0 : Int) ≤ _ by decide, show (_ : Int) ≤ _ by decide, show Int.natAbs _ < _ by decide⟩)) | refine Exists.intro _ (Exists.intro _ (And.intro rfl (And.intro rfl ?_))) | refine Exists.intro _ (And.intro (Le.rf _) ?_) | refine Exists.intro _ (And.intro rfl ?_)))
  (conv => whnf)
  rw [frzL_frzL, hx]
  have eE : enumT (bs.map enc) = bs.zipIdx.map fun z => .node true .tup [.leaf (.int (z.2 : Nat)), enc z.1] := by
    unfold enumT
    apply List.ext_getElem?
    intro i
    rw [List.getElem?_mapIdx, List.getElem?_map, List.getElem?_map, List.getElem?_zipIdx]
    cases bs[i]? with
    | none => rfl
    | some b => simp
  rw [eE]
  refine Lc.fx bs.zipIdx (fun z => .node true .tup [.leaf (.int (z.2 : Nat)), enc z.1]) rfl (fun z => some (.node true .tup [.leaf (.int (day z.1)), .leaf (.int (num z.1)), .leaf (.int (z.2 : Nat))])) (by rw [List.length_zipIdx]; show _ ≤ 16777216; omega) (fun z hz acc R' hacc k1 k2 => ?_) ?_
  · have hzb : z.1 ∈ bs := List.mem_of_getElem? (List.mem_zipIdx_iff_getElem?.mp hz)
    obtain ⟨l0, e0, h0⟩ := hA0 z.1 hzb
    obtain ⟨l1, e1, h1⟩ := hA z.1 hzb
    (repeat (first | (refine Nx.mk ?_; ((try (dsimp only [nr_none, nr_some, nr_nil, nf_leaf, nf_pin, nf_node, nf_nil, nf_cons, ni_f, ni_t, nw_nil, nw_cons, ns_0, ns_s])); (try simp only [intsT_frz, frzL_frzL, frz_strs, tls_frz]))) | (refine And.intro ?_ ?_; focus (first | exact rfl | exact frz_frz _ | exact frz_nf _ _ | exact (show frz _ = _ by assumption) | (show frz _ = _; simp only [nf_node, nf_cons, nf_nil, nf_leaf, frzL_frzL, intsT_frz, frz_strs, tls_frz]; done) | exact frz_ints _ _ | exact Nat.le_of_ble_eq_true rfl | exact (show (0 : Int) < _ by decide) | exact (show (0 : Int) ≤ _ by decide) | exact ⟨show (0 : Int) < _ by decide, show Nat.log2 _ < _ by decide⟩ | exact Or.inl (Or.inr ⟨show (_ : Int) < _ by decide, show (_ : Int) < _ by decide⟩) | exact Or.inl (Or.inl ⟨show (_ : Int) < _ by decide, show (_ : Int) < _ by decide⟩) | exact ⟨show (0 : Int) ≤ _ by decide, show (_ : Int) ≤ _ by decide, show Int.natAbs _ < _ by decide⟩)) | refine Exists.intro _ (Exists.intro _ (And.intro rfl (And.intro rfl ?_))) | refine Exists.intro _ (And.intro (Le.rf _) ?_) | refine Exists.intro _ (And.intro rfl ?_)))
    rw [if_neg (show ¬ false = true by decide), if_neg (show ¬ false = true by decide), frz_frz, frz_frz, hfz z.1 hzb]
    have hf1 := hfz z.1 hzb
    rw [e1] at hf1 ⊢
    rw [frz_node] at hf1
    have hl1 : frzL l1 = l1 := (T.node.inj hf1).2.2
    (conv => whnf)
    refine ⟨_, atI_of h1, ?_⟩
    (conv => whnf)
    refine And.intro (by rw [frz_node, hl1]) ?_
    (conv => whnf)
    have e01 : l0 = l1 := (T.node.inj (e0.symm.trans e1)).2.2
    rw [e01] at h0
    refine ⟨_, atI_0 h0, ?_⟩
    (conv => whnf)
    refine And.intro (by rw [frz_frz]) ?_
    (conv => whnf)
    refine And.intro (show 3 ≤ 16777216 by decide) ?_
    exact And.intro hacc (k1 _ rfl)
  rw [fm_some]
  (conv => whnf)
  refine ⟨β × Nat, bs.zipIdx, fun z => .node false .tup [.leaf (.int (day z.1)), .leaf (.int (num z.1)), .leaf (.int (z.2 : Nat))], fun z => tupD [day z.1, num z.1, (z.2 : Int)], fun z w => leL [day z.1, num z.1, (z.2 : Int)] [day w.1, num w.1, (w.2 : Int)], ⟨?_, fun z hz => rfl, ?_, ?_, fun z hz => ?_, fun z hz w hw => ?_⟩, ?_⟩
  · rw [frzL_map, List.map_map]
    exact List.map_congr_left fun z _ => rfl
  · intro d hd d' hd'
    obtain ⟨x, hx, rfl⟩ := List.mem_map.mp hd
    obtain ⟨y, hy, rfl⟩ := List.mem_map.mp hd'
    exact alike_tupD _ _
  · exact .inl fun d hd => by
      obtain ⟨x, hx, rfl⟩ := List.mem_map.mp hd
      exact ⟨_, rfl⟩
  · simp only [tupD, PyData.depth, depthAll_ints]
    omega
  · have := congrFun (congrFun le_tupD [day z.1, num z.1, (z.2 : Int)]) [day w.1, num w.1, (w.2 : Int)]
    exact this
  (conv => whnf)
  refine Nx.mk ?_
  unfold t__law_by_day_1
  obtain ⟨Z, eZ⟩ : ∃ Z, Z = bs.zipIdx.mergeSort fun z w => leL [day z.1, num z.1, (z.2 : Int)] [day w.1, num w.1, (w.2 : Int)] := ⟨_, rfl⟩
  rw [← eZ]
  have ezz : frzL (Z.map fun z => T.node false .tup [.leaf (.int (day z.1)), .leaf (.int (num z.1)), .leaf (.int (z.2 : Nat))]) = Z.map fun z => T.node false .tup [.leaf (.int (day z.1)), .leaf (.int (num z.1)), .leaf (.int (z.2 : Nat))] := by
    rw [frzL_map, List.map_map]
    exact List.map_congr_left fun z _ => rfl
  rw [if_neg (show ¬ false = true by decide), frz_node, ezz]
  (conv => whnf)
  refine And.intro (by rw [frz_node, ezz]) ?_
  (conv => whnf)
  rw [ezz]
  refine Lc.fx Z (fun z => T.node false .tup [.leaf (.int (day z.1)), .leaf (.int (num z.1)), .leaf (.int (z.2 : Nat))]) rfl (fun z => some (enc z.1)) (by rw [eZ, List.length_mergeSort, List.length_zipIdx]; show _ ≤ 16777216; omega) (fun z hz acc R' hacc k1 k2 => ?_) ?_
  · have hz2 : z ∈ bs.zipIdx := by rw [eZ] at hz; exact (List.mergeSort_perm _ _).mem_iff.mp hz
    have hzb := List.mem_zipIdx_iff_getElem?.mp hz2
    have hzm : z.1 ∈ bs := List.mem_of_getElem? hzb
    (repeat (first | (refine Nx.mk ?_; ((try (dsimp only [nr_none, nr_some, nr_nil, nf_leaf, nf_pin, nf_node, nf_nil, nf_cons, ni_f, ni_t, nw_nil, nw_cons, ns_0, ns_s])); (try simp only [intsT_frz, frzL_frzL, frz_strs, tls_frz]))) | (refine And.intro ?_ ?_; focus (first | exact rfl | exact frz_frz _ | exact frz_nf _ _ | exact (show frz _ = _ by assumption) | (show frz _ = _; simp only [nf_node, nf_cons, nf_nil, nf_leaf, frzL_frzL, intsT_frz, frz_strs, tls_frz]; done) | exact frz_ints _ _ | exact Nat.le_of_ble_eq_true rfl | exact (show (0 : Int) < _ by decide) | exact (show (0 : Int) ≤ _ by decide) | exact ⟨show (0 : Int) < _ by decide, show Nat.log2 _ < _ by decide⟩ | exact Or.inl (Or.inr ⟨show (_ : Int) < _ by decide, show (_ : Int) < _ by decide⟩) | exact Or.inl (Or.inl ⟨show (_ : Int) < _ by decide, show (_ : Int) < _ by decide⟩) | exact ⟨show (0 : Int) ≤ _ by decide, show (_ : Int) ≤ _ by decide, show Int.natAbs _ < _ by decide⟩)) | refine Exists.intro _ (Exists.intro _ (And.intro rfl (And.intro rfl ?_))) | refine Exists.intro _ (And.intro (Le.rf _) ?_) | refine Exists.intro _ (And.intro rfl ?_)))
    (conv => whnf)
    refine And.intro (by rw [frz_node, map_fz hfz]) ?_
    (conv => whnf)
    refine And.intro rfl ?_
    (conv => whnf)
    refine ⟨.leaf (.int (z.2 : Nat)), rfl, ?_⟩
    (conv => whnf)
    refine ⟨enc z.1, atI_of (by rw [List.getElem?_map, hzb]; rfl), ?_⟩
    (conv => whnf)
    rw [hfz z.1 hzm]
    exact And.intro hacc (k1 _ rfl)
  rw [fm_some]
  have e : Z.map (fun z => enc z.1) = (byDay num day bs).map enc := by
    rw [eZ]
    unfold byDay
    rw [List.map_map]
    rfl
  rw [e]
  exact q
theorem rd__law_stand {ts : List T} {Q : T → List T → Prop} {E : Value → List (Str × V) → List T → Prop} (h : sp__law_stand ts Q E) : t__law_stand (bodyEnds [false] Q E) (startE 1 (frzP [false] ts)) := by
  obtain ⟨τ, β, i, bs, enc, num, day, dat, rfl, hx, hT, h2, q⟩ := h
  (try simp only [np_t, np_f, np_n, ne_c, ne_n, ne_0, nf_leaf, nf_pin, nf_node])
  (repeat (first | (refine Nx.mk ?_; ((try (dsimp only [nr_none, nr_some, nr_nil, nf_leaf, nf_pin, nf_node, nf_nil, nf_cons, ni_f, ni_t, nw_nil, nw_cons, ns_0, ns_s])); (try simp only [intsT_frz, frzL_frzL, frz_strs, tls_frz]))) | (refine And.intro ?_ ?_; focus (first | exact rfl | exact frz_frz _ | exact frz_nf _ _ | exact (show frz _ = _ by assumption) | (show frz _ = _; simp only [nf_node, nf_cons, nf_nil, nf_leaf, frzL_frzL, intsT_frz, frz_strs, tls_frz]; done) | exact frz_ints _ _ | exact Nat.le_of_ble_eq_true rfl | exact (show (0 : Int) < _ by decide) | exact (show (0 : Int) ≤ _ by decide) | exact ⟨show (0 : Int) < _ by decide, show Nat.log2 _ < _ by decide⟩ | exact Or.inl (Or.inr ⟨show (_ : Int) < _ by decide, show (_ : Int) < _ by decide⟩) | exact Or.inl (Or.inl ⟨show (_ : Int) < _ by decide, show (_ : Int) < _ by decide⟩) | exact ⟨show (0 : Int) ≤ _ by decide, show (_ : Int) ≤ _ by decide, show Int.natAbs _ < _ by decide⟩)) | refine Exists.intro _ (Exists.intro _ (And.intro rfl (And.intro rfl ?_))) | refine Exists.intro _ (And.intro (Le.rf _) ?_) | refine Exists.intro _ (And.intro rfl ?_)))
  refine ⟨frz τ, 0, β, i, bs, enc, num, dat, rfl, hx.frz, hT, fun b hb => ?_, ?_⟩
  · obtain ⟨r, er⟩ := h2 b hb
    exact ⟨_, er, rfl⟩
  (repeat (first | (refine Nx.mk ?_; ((try (dsimp only [nr_none, nr_some, nr_nil, nf_leaf, nf_pin, nf_node, nf_nil, nf_cons, ni_f, ni_t, nw_nil, nw_cons, ns_0, ns_s])); (try simp only [intsT_frz, frzL_frzL, frz_strs, tls_frz]))) | (refine And.intro ?_ ?_; focus (first | exact rfl | exact frz_frz _ | exact frz_nf _ _ | exact (show frz _ = _ by assumption) | (show frz _ = _; simp only [nf_node, nf_cons, nf_nil, nf_leaf, frzL_frzL, intsT_frz, frz_strs, tls_frz]; done) | exact frz_ints _ _ | exact Nat.le_of_ble_eq_true rfl | exact (show (0 : Int) < _ by decide) | exact (show (0 : Int) ≤ _ by decide) | exact ⟨show (0 : Int) < _ by decide, show Nat.log2 _ < _ by decide⟩ | exact Or.inl (Or.inr ⟨show (_ : Int) < _ by decide, show (_ : Int) < _ by decide⟩) | exact Or.inl (Or.inl ⟨show (_ : Int) < _ by decide, show (_ : Int) < _ by decide⟩) | exact ⟨show (0 : Int) ≤ _ by decide, show (_ : Int) ≤ _ by decide, show Int.natAbs _ < _ by decide⟩)) | refine Exists.intro _ (Exists.intro _ (And.intro rfl (And.intro rfl ?_))) | refine Exists.intro _ (And.intro (Le.rf _) ?_) | refine Exists.intro _ (And.intro rfl ?_)))
  have hs : ∀ x ∈ alnL (grp num bs), x ∈ bs := fun x hx => (mem_alnL.mp hx).1
  have hfz : ∀ b ∈ alnL (grp num bs), frz (enc b) = enc b := fun b hb => hT.fz b (hs b hb)
  refine ⟨_, 1, β, alnL (grp num bs), enc, num, day, rfl, ⟨_, _, rfl, map_fz hfz⟩, ?_, hfz, fun b hb => ?_, fun b hb => ?_, q⟩
  · have : (alnL (grp num bs)).length ≤ (grp num bs).length := by
      unfold alnL
      refine Nat.le_trans (List.length_filterMap_le _ _) ?_
      rw [List.length_mergeSort, List.length_map]
      exact Nat.le_refl _
    have h3 := grp_len (num := num) bs
    have := hT.len
    omega
  · obtain ⟨r, er⟩ := h2 b (hs b hb)
    exact ⟨_, er, rfl⟩
  · obtain ⟨r, er⟩ := h2 b (hs b hb)
    exact ⟨_, er, rfl⟩
theorem strs_len (l : List Str) : (strsT l).length = l.length := List.length_map _
theorem strs_of {τs : List T} {l : List Str} (h : τs.Perm (strsT l)) : ∃ vs : List Str, τs = strsT vs ∧ vs.Perm l := by
  have e : ∃ vs : List Str, τs = strsT vs := by
    have all : ∀ τ ∈ τs, ∃ s : Str, τ = .leaf (.str s) := fun τ hτ => by
      obtain ⟨s, _, e⟩ := List.mem_map.mp (h.mem_iff.mp hτ)
      exact ⟨s, e.symm⟩
    clear h
    induction τs with
    | nil => exact ⟨[], rfl⟩
    | cons τ r ih =>
      obtain ⟨s, rfl⟩ := all τ List.mem_cons_self
      obtain ⟨vs, rfl⟩ := ih fun x hx => all x (List.mem_cons_of_mem _ hx)
      exact ⟨s :: vs, rfl⟩
  obtain ⟨vs, rfl⟩ := e
  refine ⟨vs, rfl, ?_⟩
  have := h.map fun t : T => match t with | .leaf (.str s) => s | _ => ("" : Str)
  unfold strsT at this
  rw [List.map_map, List.map_map] at this
  simpa [Function.comp_def] using this
theorem str_ok {s : Str} (h : s ∈ votersM ∨ s ∈ wordsM) : smallD (.str s) ∧ s.length ≤ 10 := by
  have key : ((votersM ++ wordsM).all fun s => PyData.canLay0 (.str s) && (s.cps.toList.all fun c => decide (c < 16 ^ 8)) && decide (s.length ≤ 10)) = true := by decide +kernel
  have := List.all_eq_true.mp key s (List.mem_append.mpr h)
  rw [Bool.and_eq_true, Bool.and_eq_true] at this
  refine ⟨?_, of_decide_eq_true this.2⟩
  simp only [smallD]
  exact ⟨this.1.1, fun c hc => of_decide_eq_true (List.all_eq_true.mp this.1.2 c hc)⟩
theorem tl_small {x : Tl} (h : TlOk x) : smallD (tlD x) ∧ PyData.depth (tlD x) ≤ 1 ∧ szD (tlD x) ≤ 26 := by
  obtain ⟨v1, v2⟩ := str_ok (.inl h.v)
  obtain ⟨w1, w2⟩ := str_ok (.inr h.w)
  obtain ⟨n, d, v, w, a⟩ := x
  have hn := h.n
  have hd := h.d
  have ha := h.a
  simp only at v1 v2 w1 w2 hn hd ha
  have big : ∀ i : Int, 0 ≤ i → i ≤ 1000000000 → i.natAbs < 2 ^ 1800 := fun i h0 h1 => small62 (by omega)
  refine ⟨?_, ?_, ?_⟩
  · cases a with
    | none =>
      simp only [tlD, arD, smallD, smallL] at *
      exact ⟨big n hn.1 hn.2, big d hd.1 hd.2, v1, w1, trivial, trivial⟩
    | some a =>
      have := ha a rfl
      simp only [tlD, arD, smallD, smallL] at *
      exact ⟨big n hn.1 hn.2, big d hd.1 hd.2, v1, w1, big a this.1 (by omega), trivial⟩
  · cases a <;> simp [tlD, arD, PyData.depth, PyData.depthAll]
  · cases a <;> simp only [tlD, arD, szD, szL] <;> omega
theorem eqv_str (a b : Str) : PyData.eqv (.str a) (.str b) = decide (a = b) := by
  simp [PyData.eqv]
  first | rfl | (rw [Bool.eq_iff_iff]; simp)
theorem eqv_tl (x y : Tl) : PyData.eqv (tlD x) (tlD y) = decide (x = y) := by
  obtain ⟨n, d, v, w, a⟩ := x
  obtain ⟨n', d', v', w', a'⟩ := y
  cases a <;> cases a' <;> simp [tlD, arD, PyData.eqv, PyData.eqvAll]
  all_goals (rw [Bool.eq_iff_iff]; simp)
theorem tl_ths {xs : List Tl} (h : ∀ x ∈ xs, TlOk x) (hl : xs.length ≤ 1000000) : Ths xs tlT (·.1) tlD := by
  refine ⟨fun x _ => ?_, fun x _ => ⟨_, rfl⟩, fun x _ => ?_, fun x hx => ?_, fun a _ b _ => eqv_tl a b, hl⟩
  · obtain ⟨n, d, v, w, a⟩ := x
    cases a <;> rfl
  · obtain ⟨n, d, v, w, a⟩ := x
    cases a <;> rfl
  · have := tl_small (h x hx)
    exact ⟨this.1, by omega⟩
theorem tl_hd (xs : List Tl) : Hd2 xs tlT (·.1) (·.2.1) := fun x _ => ⟨_, rfl⟩
theorem tls_small : ∀ {xs : List Tl}, (∀ x ∈ xs, TlOk x) → smallL (xs.map tlD) ∧ PyData.depthAll (xs.map tlD) ≤ 1 ∧ szL (xs.map tlD) ≤ 26 * xs.length
  | [], _ => ⟨by simp [smallL], by simp [PyData.depthAll], by simp [szL]⟩
  | x :: xs, h => by
    obtain ⟨a1, a2, a3⟩ := tl_small (h x List.mem_cons_self)
    obtain ⟨i1, i2, i3⟩ := tls_small (xs := xs) fun y hy => h y (List.mem_cons_of_mem _ hy)
    refine ⟨?_, ?_, ?_⟩
    · simp only [List.map_cons, smallL]
      exact ⟨a1, i1⟩
    · simp only [List.map_cons, PyData.depthAll]
      omega
    · simp only [List.map_cons, szL, List.length_cons]
      omega
theorem tls_good {xs : List Tl} (h : ∀ x ∈ xs, TlOk x) (hl : xs.length ≤ 300) : GoodD (.list (xs.map tlD)) := by
  obtain ⟨a, b, c⟩ := tls_small h
  refine ⟨?_, ?_, ?_⟩
  · simp only [smallD]
    exact a
  · simp only [PyData.depth]
    omega
  · simp only [szD]
    omega
theorem toP_tls (o : Bool) {xs : List Tl} (h : ∀ x ∈ xs, TlOk x) (hl : xs.length ≤ 1000000) : toP (.node o .lst (xs.map tlT)) = some (.list (xs.map tlD)) := by
  simp only [toP, (tl_ths h hl).toPL]
  rfl
theorem unT_tl (x : Tl) : unT (tlT x) = some x := by
  obtain ⟨n, d, v, w, a⟩ := x
  cases a <;> rfl
theorem tls_of {τs : List T} {xs : List Tl} (h : τs.Perm (xs.map tlT)) : ∃ ys : List Tl, τs = ys.map tlT ∧ ys.Perm xs := by
  have e : ∃ ys : List Tl, τs = ys.map tlT := by
    have all : ∀ τ ∈ τs, ∃ x : Tl, τ = tlT x := fun τ hτ => by
      obtain ⟨s, _, e⟩ := List.mem_map.mp (h.mem_iff.mp hτ)
      exact ⟨s, e.symm⟩
    clear h
    induction τs with
    | nil => exact ⟨[], rfl⟩
    | cons τ r ih =>
      obtain ⟨s, rfl⟩ := all τ List.mem_cons_self
      obtain ⟨vs, rfl⟩ := ih fun x hx => all x (List.mem_cons_of_mem _ hx)
      exact ⟨s :: vs, rfl⟩
  obtain ⟨ys, rfl⟩ := e
  refine ⟨ys, rfl, ?_⟩
  have := h.filterMap unT
  rw [List.filterMap_map, List.filterMap_map] at this
  have e2 : unT ∘ tlT = some := funext unT_tl
  rw [e2, List.filterMap_some, List.filterMap_some] at this
  exact this
theorem strs_cut (l : List Str) {n : Nat} (h : n ≤ l.length) : cutA (frzL (strsT l)) none (some (n : Int)) = strsT (l.take n) := by
  rw [frz_strs]
  have : cutA (strsT l) none (some (n : Int)) = (strsT l).take n := by
    have hl := strs_len l
    unfold cutA HT.sIx
    simp [hl]
    try split
    all_goals omega
  rw [this]
  unfold strsT
  rw [List.map_take]
theorem rd__law_voters {ts : List T} {Q : T → List T → Prop} {E : Value → List (Str × V) → List T → Prop} (h : sp__law_voters ts Q E) : t__law_voters (bodyEnds [true, false] Q E) (startE 3 (frzP [true, false] ts)) := by
  obtain ⟨bag, n, rfl, hb, h1, h2, q⟩ := h
  (try simp only [np_t, np_f, np_n, ne_c, ne_n, ne_0, nf_leaf, nf_pin, nf_node])
  (repeat (first | (refine Nx.mk ?_; ((try (dsimp only [nr_none, nr_some, nr_nil, nf_leaf, nf_pin, nf_node, nf_nil, nf_cons, ni_f, ni_t, nw_nil, nw_cons, ns_0, ns_s])); (try simp only [intsT_frz, frzL_frzL, frz_strs, tls_frz]))) | (refine And.intro ?_ ?_; focus (first | exact rfl | exact frz_frz _ | exact frz_nf _ _ | exact (show frz _ = _ by assumption) | (show frz _ = _; simp only [nf_node, nf_cons, nf_nil, nf_leaf, frzL_frzL, intsT_frz, frz_strs, tls_frz]; done) | exact frz_ints _ _ | exact Nat.le_of_ble_eq_true rfl | exact (show (0 : Int) < _ by decide) | exact (show (0 : Int) ≤ _ by decide) | exact ⟨show (0 : Int) < _ by decide, show Nat.log2 _ < _ by decide⟩ | exact Or.inl (Or.inr ⟨show (_ : Int) < _ by decide, show (_ : Int) < _ by decide⟩) | exact Or.inl (Or.inl ⟨show (_ : Int) < _ by decide, show (_ : Int) < _ by decide⟩) | exact ⟨show (0 : Int) ≤ _ by decide, show (_ : Int) ≤ _ by decide, show Int.natAbs _ < _ by decide⟩)) | refine Exists.intro _ (Exists.intro _ (And.intro rfl (And.intro rfl ?_))) | refine Exists.intro _ (And.intro (Le.rf _) ?_) | refine Exists.intro _ (And.intro rfl ?_)))
  (conv => whnf)
  refine ⟨_, _, _, rfl, hb, (show 13 ≤ 10000 by decide), fun τs b2 hp hb2 => ?_⟩
  have hp2 : τs.Perm (strsT votersM) := hp
  obtain ⟨vs, rfl, hv⟩ := strs_of hp2
  have hl : vs.length = 13 := hv.length_eq
  (conv => whnf)
  refine And.intro rfl ?_
  (conv => whnf)
  rw [strs_cut _ (by omega)]
  refine q _ b2 ?_ (fun v hv2 => hv.mem_iff.mp (List.mem_of_mem_take hv2)) ((hv.nodup_iff.mpr (by decide +kernel)).sublist (List.take_sublist _ _)) hb2
  rw [List.length_take]
  omega
theorem rd__law_day {ts : List T} {Q : T → List T → Prop} {E : Value → List (Str × V) → List T → Prop} (h : sp__law_day ts Q E) : t__law_day (bodyEnds [true] Q E) (startE 2 (frzP [true] ts)) := by
  obtain ⟨bag, rfl, hb, q⟩ := h
  (try simp only [np_t, np_f, np_n, ne_c, ne_n, ne_0, nf_leaf, nf_pin, nf_node])
  (repeat (first | (refine Nx.mk ?_; ((try (dsimp only [nr_none, nr_some, nr_nil, nf_leaf, nf_pin, nf_node, nf_nil, nf_cons, ni_f, ni_t, nw_nil, nw_cons, ns_0, ns_s])); (try simp only [intsT_frz, frzL_frzL, frz_strs, tls_frz]))) | (refine And.intro ?_ ?_; focus (first | exact rfl | exact frz_frz _ | exact frz_nf _ _ | exact (show frz _ = _ by assumption) | (show frz _ = _; simp only [nf_node, nf_cons, nf_nil, nf_leaf, frzL_frzL, intsT_frz, frz_strs, tls_frz]; done) | exact frz_ints _ _ | exact Nat.le_of_ble_eq_true rfl | exact (show (0 : Int) < _ by decide) | exact (show (0 : Int) ≤ _ by decide) | exact ⟨show (0 : Int) < _ by decide, show Nat.log2 _ < _ by decide⟩ | exact Or.inl (Or.inr ⟨show (_ : Int) < _ by decide, show (_ : Int) < _ by decide⟩) | exact Or.inl (Or.inl ⟨show (_ : Int) < _ by decide, show (_ : Int) < _ by decide⟩) | exact ⟨show (0 : Int) ≤ _ by decide, show (_ : Int) ≤ _ by decide, show Int.natAbs _ < _ by decide⟩)) | refine Exists.intro _ (Exists.intro _ (And.intro rfl (And.intro rfl ?_))) | refine Exists.intro _ (And.intro (Le.rf _) ?_) | refine Exists.intro _ (And.intro rfl ?_)))
  refine ⟨_, _, rfl, hb, by decide, .inl (by decide), fun r b2 hr1 hr2 hb2 => ?_⟩
  (conv => whnf)
  refine Nx.mk ?_
  ((try (dsimp only [nr_none, nr_some, nr_nil, nf_leaf, nf_pin, nf_node, nf_nil, nf_cons, ni_f, ni_t, nw_nil, nw_cons, ns_0, ns_s])); (try simp only [intsT_frz, frzL_frzL, frz_strs, tls_frz]))
  (repeat (first | (refine Nx.mk ?_; ((try (dsimp only [nr_none, nr_some, nr_nil, nf_leaf, nf_pin, nf_node, nf_nil, nf_cons, ni_f, ni_t, nw_nil, nw_cons, ns_0, ns_s])); (try simp only [intsT_frz, frzL_frzL, frz_strs, tls_frz]))) | (refine And.intro ?_ ?_; focus (first | exact rfl | exact frz_frz _ | exact frz_nf _ _ | exact (show frz _ = _ by assumption) | (show frz _ = _; simp only [nf_node, nf_cons, nf_nil, nf_leaf, frzL_frzL, intsT_frz, frz_strs, tls_frz]; done) | exact frz_ints _ _ | exact Nat.le_of_ble_eq_true rfl | exact (show (0 : Int) < _ by decide) | exact (show (0 : Int) ≤ _ by decide) | exact ⟨show (0 : Int) < _ by decide, show Nat.log2 _ < _ by decide⟩ | exact Or.inl (Or.inr ⟨show (_ : Int) < _ by decide, show (_ : Int) < _ by decide⟩) | exact Or.inl (Or.inl ⟨show (_ : Int) < _ by decide, show (_ : Int) < _ by decide⟩) | exact ⟨show (0 : Int) ≤ _ by decide, show (_ : Int) ≤ _ by decide, show Int.natAbs _ < _ by decide⟩)) | refine Exists.intro _ (Exists.intro _ (And.intro rfl (And.intro rfl ?_))) | refine Exists.intro _ (And.intro (Le.rf _) ?_) | refine Exists.intro _ (And.intro rfl ?_)))
  refine ifB_dec (p := r = 0) (fun hr => ?_) (fun hr => ?_)
  · (repeat (first | (refine Nx.mk ?_; ((try (dsimp only [nr_none, nr_some, nr_nil, nf_leaf, nf_pin, nf_node, nf_nil, nf_cons, ni_f, ni_t, nw_nil, nw_cons, ns_0, ns_s])); (try simp only [intsT_frz, frzL_frzL, frz_strs, tls_frz]))) | (refine And.intro ?_ ?_; focus (first | exact rfl | exact frz_frz _ | exact frz_nf _ _ | exact (show frz _ = _ by assumption) | (show frz _ = _; simp only [nf_node, nf_cons, nf_nil, nf_leaf, frzL_frzL, intsT_frz, frz_strs, tls_frz]; done) | exact frz_ints _ _ | exact Nat.le_of_ble_eq_true rfl | exact (show (0 : Int) < _ by decide) | exact (show (0 : Int) ≤ _ by decide) | exact ⟨show (0 : Int) < _ by decide, show Nat.log2 _ < _ by decide⟩ | exact Or.inl (Or.inr ⟨show (_ : Int) < _ by decide, show (_ : Int) < _ by decide⟩) | exact Or.inl (Or.inl ⟨show (_ : Int) < _ by decide, show (_ : Int) < _ by decide⟩) | exact ⟨show (0 : Int) ≤ _ by decide, show (_ : Int) ≤ _ by decide, show Int.natAbs _ < _ by decide⟩)) | refine Exists.intro _ (Exists.intro _ (And.intro rfl (And.intro rfl ?_))) | refine Exists.intro _ (And.intro (Le.rf _) ?_) | refine Exists.intro _ (And.intro rfl ?_)))
    refine ⟨_, _, rfl, hb2, by decide, .inl (by decide), fun d b3 hd1 hd2 hb3 => ?_⟩
    (repeat (first | (refine Nx.mk ?_; ((try (dsimp only [nr_none, nr_some, nr_nil, nf_leaf, nf_pin, nf_node, nf_nil, nf_cons, ni_f, ni_t, nw_nil, nw_cons, ns_0, ns_s])); (try simp only [intsT_frz, frzL_frzL, frz_strs, tls_frz]))) | (refine And.intro ?_ ?_; focus (first | exact rfl | exact frz_frz _ | exact frz_nf _ _ | exact (show frz _ = _ by assumption) | (show frz _ = _; simp only [nf_node, nf_cons, nf_nil, nf_leaf, frzL_frzL, intsT_frz, frz_strs, tls_frz]; done) | exact frz_ints _ _ | exact Nat.le_of_ble_eq_true rfl | exact (show (0 : Int) < _ by decide) | exact (show (0 : Int) ≤ _ by decide) | exact ⟨show (0 : Int) < _ by decide, show Nat.log2 _ < _ by decide⟩ | exact Or.inl (Or.inr ⟨show (_ : Int) < _ by decide, show (_ : Int) < _ by decide⟩) | exact Or.inl (Or.inl ⟨show (_ : Int) < _ by decide, show (_ : Int) < _ by decide⟩) | exact ⟨show (0 : Int) ≤ _ by decide, show (_ : Int) ≤ _ by decide, show Int.natAbs _ < _ by decide⟩)) | refine Exists.intro _ (Exists.intro _ (And.intro rfl (And.intro rfl ?_))) | refine Exists.intro _ (And.intro (Le.rf _) ?_) | refine Exists.intro _ (And.intro rfl ?_)))
    have e : ((10 : Int) ^ (9 : Int).toNat) = 1000000000 := by decide
    refine q _ b3 ?_ ?_ hb3
    · show 0 ≤ (10 : Int) ^ (9 : Int).toNat - d
      rw [e]
      omega
    · show (10 : Int) ^ (9 : Int).toNat - d ≤ _
      rw [e]
      omega
  · (repeat (first | (refine Nx.mk ?_; ((try (dsimp only [nr_none, nr_some, nr_nil, nf_leaf, nf_pin, nf_node, nf_nil, nf_cons, ni_f, ni_t, nw_nil, nw_cons, ns_0, ns_s])); (try simp only [intsT_frz, frzL_frzL, frz_strs, tls_frz]))) | (refine And.intro ?_ ?_; focus (first | exact rfl | exact frz_frz _ | exact frz_nf _ _ | exact (show frz _ = _ by assumption) | (show frz _ = _; simp only [nf_node, nf_cons, nf_nil, nf_leaf, frzL_frzL, intsT_frz, frz_strs, tls_frz]; done) | exact frz_ints _ _ | exact Nat.le_of_ble_eq_true rfl | exact (show (0 : Int) < _ by decide) | exact (show (0 : Int) ≤ _ by decide) | exact ⟨show (0 : Int) < _ by decide, show Nat.log2 _ < _ by decide⟩ | exact Or.inl (Or.inr ⟨show (_ : Int) < _ by decide, show (_ : Int) < _ by decide⟩) | exact Or.inl (Or.inl ⟨show (_ : Int) < _ by decide, show (_ : Int) < _ by decide⟩) | exact ⟨show (0 : Int) ≤ _ by decide, show (_ : Int) ≤ _ by decide, show Int.natAbs _ < _ by decide⟩)) | refine Exists.intro _ (Exists.intro _ (And.intro rfl (And.intro rfl ?_))) | refine Exists.intro _ (And.intro (Le.rf _) ?_) | refine Exists.intro _ (And.intro rfl ?_)))
    refine ⟨_, _, rfl, hb2, by decide, .inl (by decide), fun d b3 hd1 hd2 hb3 => ?_⟩
    (repeat (first | (refine Nx.mk ?_; ((try (dsimp only [nr_none, nr_some, nr_nil, nf_leaf, nf_pin, nf_node, nf_nil, nf_cons, ni_f, ni_t, nw_nil, nw_cons, ns_0, ns_s])); (try simp only [intsT_frz, frzL_frzL, frz_strs, tls_frz]))) | (refine And.intro ?_ ?_; focus (first | exact rfl | exact frz_frz _ | exact frz_nf _ _ | exact (show frz _ = _ by assumption) | (show frz _ = _; simp only [nf_node, nf_cons, nf_nil, nf_leaf, frzL_frzL, intsT_frz, frz_strs, tls_frz]; done) | exact frz_ints _ _ | exact Nat.le_of_ble_eq_true rfl | exact (show (0 : Int) < _ by decide) | exact (show (0 : Int) ≤ _ by decide) | exact ⟨show (0 : Int) < _ by decide, show Nat.log2 _ < _ by decide⟩ | exact Or.inl (Or.inr ⟨show (_ : Int) < _ by decide, show (_ : Int) < _ by decide⟩) | exact Or.inl (Or.inl ⟨show (_ : Int) < _ by decide, show (_ : Int) < _ by decide⟩) | exact ⟨show (0 : Int) ≤ _ by decide, show (_ : Int) ≤ _ by decide, show Int.natAbs _ < _ by decide⟩)) | refine Exists.intro _ (Exists.intro _ (And.intro rfl (And.intro rfl ?_))) | refine Exists.intro _ (And.intro (Le.rf _) ?_) | refine Exists.intro _ (And.intro rfl ?_)))
    exact q d b3 hd1 (by omega) hb3
theorem rd__law_telling {ts : List T} {Q : T → List T → Prop} {E : Value → List (Str × V) → List T → Prop} (h : sp__law_telling ts Q E) : t__law_telling (bodyEnds [true, false, false, false] Q E) (startE 6 (frzP [true, false, false, false] ts)) := by
  obtain ⟨bag, n, o, vs, m, rfl, hb, n0, n1, v0, vl, hv, m0, m1, q⟩ := h
  (try simp only [np_t, np_f, np_n, ne_c, ne_n, ne_0, nf_leaf, nf_pin, nf_node])
  (repeat (first | (refine Nx.mk ?_; ((try (dsimp only [nr_none, nr_some, nr_nil, nf_leaf, nf_pin, nf_node, nf_nil, nf_cons, ni_f, ni_t, nw_nil, nw_cons, ns_0, ns_s])); (try simp only [intsT_frz, frzL_frzL, frz_strs, tls_frz]))) | (refine And.intro ?_ ?_; focus (first | exact rfl | exact frz_frz _ | exact frz_nf _ _ | exact (show frz _ = _ by assumption) | (show frz _ = _; simp only [nf_node, nf_cons, nf_nil, nf_leaf, frzL_frzL, intsT_frz, frz_strs, tls_frz]; done) | exact frz_ints _ _ | exact Nat.le_of_ble_eq_true rfl | exact (show (0 : Int) < _ by decide) | exact (show (0 : Int) ≤ _ by decide) | exact ⟨show (0 : Int) < _ by decide, show Nat.log2 _ < _ by decide⟩ | exact Or.inl (Or.inr ⟨show (_ : Int) < _ by decide, show (_ : Int) < _ by decide⟩) | exact Or.inl (Or.inl ⟨show (_ : Int) < _ by decide, show (_ : Int) < _ by decide⟩) | exact ⟨show (0 : Int) ≤ _ by decide, show (_ : Int) ≤ _ by decide, show Int.natAbs _ < _ by decide⟩)) | refine Exists.intro _ (Exists.intro _ (And.intro rfl (And.intro rfl ?_))) | refine Exists.intro _ (And.intro (Le.rf _) ?_) | refine Exists.intro _ (And.intro rfl ?_)))
  (conv => whnf)
  refine ⟨_, _, _, rfl, hb, by simp, by show 6 < 1000000; decide, fun τw b2 hw hb2 => ?_⟩
  obtain ⟨w, rfl, hwm⟩ : ∃ w : Str, τw = .leaf (.str w) ∧ w ∈ wordsM := by
    simp only [List.mem_cons, List.not_mem_nil, or_false] at hw
    rcases hw with rfl | rfl | rfl | rfl | rfl | rfl
    · exact ⟨_, rfl, by simp [wordsM]⟩
    · exact ⟨_, rfl, by simp [wordsM]⟩
    · exact ⟨_, rfl, by simp [wordsM]⟩
    · exact ⟨_, rfl, by simp [wordsM]⟩
    · exact ⟨_, rfl, by simp [wordsM]⟩
    · exact ⟨_, rfl, by simp [wordsM]⟩
  (conv => whnf)
  refine Nx.mk ?_
  ((try (dsimp only [nr_none, nr_some, nr_nil, nf_leaf, nf_pin, nf_node, nf_nil, nf_cons, ni_f, ni_t, nw_nil, nw_cons, ns_0, ns_s])); (try simp only [intsT_frz, frzL_frzL, frz_strs, tls_frz]))
  have fin : ∀ (b3 : T) (ar : Option Int), IsBag b3 → (∀ a, ar = some a → 0 ≤ a ∧ a < m) → Nx t__law_telling_2 (bodyEnds [true, false, false, false] Q E) [some b3, some (.leaf (.int n)), some (.node false .lst (strsT vs)), some (.leaf (.int m)), some (.leaf (.str w)), some (arT ar)] := fun b3 ar hb3 har => by
    have harz : frz (arT ar) = arT ar := by cases ar <;> rfl
    refine Nx.mk ?_
    (repeat (first | (refine Nx.mk ?_; ((try (dsimp only [nr_none, nr_some, nr_nil, nf_leaf, nf_pin, nf_node, nf_nil, nf_cons, ni_f, ni_t, nw_nil, nw_cons, ns_0, ns_s])); (try simp only [intsT_frz, frzL_frzL, frz_strs, tls_frz]))) | (refine And.intro ?_ ?_; focus (first | exact rfl | exact frz_frz _ | exact frz_nf _ _ | exact (show frz _ = _ by assumption) | (show frz _ = _; simp only [nf_node, nf_cons, nf_nil, nf_leaf, frzL_frzL, intsT_frz, frz_strs, tls_frz]; done) | exact frz_ints _ _ | exact Nat.le_of_ble_eq_true rfl | exact (show (0 : Int) < _ by decide) | exact (show (0 : Int) ≤ _ by decide) | exact ⟨show (0 : Int) < _ by decide, show Nat.log2 _ < _ by decide⟩ | exact Or.inl (Or.inr ⟨show (_ : Int) < _ by decide, show (_ : Int) < _ by decide⟩) | exact Or.inl (Or.inl ⟨show (_ : Int) < _ by decide, show (_ : Int) < _ by decide⟩) | exact ⟨show (0 : Int) ≤ _ by decide, show (_ : Int) ≤ _ by decide, show Int.natAbs _ < _ by decide⟩)) | refine Exists.intro _ (Exists.intro _ (And.intro rfl (And.intro rfl ?_))) | refine Exists.intro _ (And.intro (Le.rf _) ?_) | refine Exists.intro _ (And.intro rfl ?_)))
    refine ⟨hb3, fun d b4 d0 d1 hb4 => ?_⟩
    (repeat (first | (refine Nx.mk ?_; ((try (dsimp only [nr_none, nr_some, nr_nil, nf_leaf, nf_pin, nf_node, nf_nil, nf_cons, ni_f, ni_t, nw_nil, nw_cons, ns_0, ns_s])); (try simp only [intsT_frz, frzL_frzL, frz_strs, tls_frz]))) | (refine And.intro ?_ ?_; focus (first | exact rfl | exact frz_frz _ | exact frz_nf _ _ | exact (show frz _ = _ by assumption) | (show frz _ = _; simp only [nf_node, nf_cons, nf_nil, nf_leaf, frzL_frzL, intsT_frz, frz_strs, tls_frz]; done) | exact frz_ints _ _ | exact Nat.le_of_ble_eq_true rfl | exact (show (0 : Int) < _ by decide) | exact (show (0 : Int) ≤ _ by decide) | exact ⟨show (0 : Int) < _ by decide, show Nat.log2 _ < _ by decide⟩ | exact Or.inl (Or.inr ⟨show (_ : Int) < _ by decide, show (_ : Int) < _ by decide⟩) | exact Or.inl (Or.inl ⟨show (_ : Int) < _ by decide, show (_ : Int) < _ by decide⟩) | exact ⟨show (0 : Int) ≤ _ by decide, show (_ : Int) ≤ _ by decide, show Int.natAbs _ < _ by decide⟩)) | refine Exists.intro _ (Exists.intro _ (And.intro rfl (And.intro rfl ?_))) | refine Exists.intro _ (And.intro (Le.rf _) ?_) | refine Exists.intro _ (And.intro rfl ?_)))
    refine ⟨_, _, _, rfl, hb4, ?_, ?_, fun τv b5 hv5 hb5 => ?_⟩
    · try rw [frz_strs]
      intro z
      unfold strsT at z
      exact v0 (List.map_eq_nil_iff.mp z)
    · try rw [frz_strs]
      rw [strs_len]
      omega
    try rw [frz_strs] at hv5
    obtain ⟨v, hvm, rfl⟩ := List.mem_map.mp hv5
    (repeat (first | (refine Nx.mk ?_; ((try (dsimp only [nr_none, nr_some, nr_nil, nf_leaf, nf_pin, nf_node, nf_nil, nf_cons, ni_f, ni_t, nw_nil, nw_cons, ns_0, ns_s])); (try simp only [intsT_frz, frzL_frzL, frz_strs, tls_frz]))) | (refine And.intro ?_ ?_; focus (first | exact rfl | exact frz_frz _ | exact frz_nf _ _ | exact (show frz _ = _ by assumption) | (show frz _ = _; simp only [nf_node, nf_cons, nf_nil, nf_leaf, frzL_frzL, intsT_frz, frz_strs, tls_frz]; done) | exact frz_ints _ _ | exact Nat.le_of_ble_eq_true rfl | exact (show (0 : Int) < _ by decide) | exact (show (0 : Int) ≤ _ by decide) | exact ⟨show (0 : Int) < _ by decide, show Nat.log2 _ < _ by decide⟩ | exact Or.inl (Or.inr ⟨show (_ : Int) < _ by decide, show (_ : Int) < _ by decide⟩) | exact Or.inl (Or.inl ⟨show (_ : Int) < _ by decide, show (_ : Int) < _ by decide⟩) | exact ⟨show (0 : Int) ≤ _ by decide, show (_ : Int) ≤ _ by decide, show Int.natAbs _ < _ by decide⟩)) | refine Exists.intro _ (Exists.intro _ (And.intro rfl (And.intro rfl ?_))) | refine Exists.intro _ (And.intro (Le.rf _) ?_) | refine Exists.intro _ (And.intro rfl ?_)))
    refine q (n, d, v, w, ar) b5 _ ⟨⟨n0, n1⟩, ⟨d0, d1⟩, hv v hvm, hwm, fun a ha => ?_⟩ rfl hvm (fun a ha => (har a ha).2) ?_ hb5
    · have := har a ha
      omega
    · show T.node false .tup [.leaf (.int n), .leaf (.int d), .leaf (.str v), .leaf (.str w), frz (arT ar)] = _
      rw [harz]
      rfl
  unfold t__law_telling_3
  (repeat (first | (refine Nx.mk ?_; ((try (dsimp only [nr_none, nr_some, nr_nil, nf_leaf, nf_pin, nf_node, nf_nil, nf_cons, ni_f, ni_t, nw_nil, nw_cons, ns_0, ns_s])); (try simp only [intsT_frz, frzL_frzL, frz_strs, tls_frz]))) | (refine And.intro ?_ ?_; focus (first | exact rfl | exact frz_frz _ | exact frz_nf _ _ | exact (show frz _ = _ by assumption) | (show frz _ = _; simp only [nf_node, nf_cons, nf_nil, nf_leaf, frzL_frzL, intsT_frz, frz_strs, tls_frz]; done) | exact frz_ints _ _ | exact Nat.le_of_ble_eq_true rfl | exact (show (0 : Int) < _ by decide) | exact (show (0 : Int) ≤ _ by decide) | exact ⟨show (0 : Int) < _ by decide, show Nat.log2 _ < _ by decide⟩ | exact Or.inl (Or.inr ⟨show (_ : Int) < _ by decide, show (_ : Int) < _ by decide⟩) | exact Or.inl (Or.inl ⟨show (_ : Int) < _ by decide, show (_ : Int) < _ by decide⟩) | exact ⟨show (0 : Int) ≤ _ by decide, show (_ : Int) ≤ _ by decide, show Int.natAbs _ < _ by decide⟩)) | refine Exists.intro _ (Exists.intro _ (And.intro rfl (And.intro rfl ?_))) | refine Exists.intro _ (And.intro (Le.rf _) ?_) | refine Exists.intro _ (And.intro rfl ?_)))
  (conv => whnf)
  refine ifB_of (fun hc => ?_) (fun hc => ?_)
  · (conv => whnf)
    refine And.intro rfl ?_
    (conv => whnf)
    refine ⟨_, _, rfl, hb2, by omega, .inl (by omega), fun a b3 ha0 ha1 hb3 => ?_⟩
    (conv => whnf)
    exact fin b3 (some a) hb3 fun a' e => by cases e; exact ⟨ha0, ha1⟩
  · (conv => whnf)
    exact fin b2 none hb2 fun a' e => by cases e
theorem rd__law_number {ts : List T} {Q : T → List T → Prop} {E : Value → List (Str × V) → List T → Prop} (h : sp__law_number ts Q E) : t__law_number (bodyEnds [true, false] Q E) (startE 2 (frzP [true, false] ts)) := by
  obtain ⟨bag, k, rfl, hb, k0, k1, q⟩ := h
  (try simp only [np_t, np_f, np_n, ne_c, ne_n, ne_0, nf_leaf, nf_pin, nf_node])
  (repeat (first | (refine Nx.mk ?_; ((try (dsimp only [nr_none, nr_some, nr_nil, nf_leaf, nf_pin, nf_node, nf_nil, nf_cons, ni_f, ni_t, nw_nil, nw_cons, ns_0, ns_s])); (try simp only [intsT_frz, frzL_frzL, frz_strs, tls_frz]))) | (refine And.intro ?_ ?_; focus (first | exact rfl | exact frz_frz _ | exact frz_nf _ _ | exact (show frz _ = _ by assumption) | (show frz _ = _; simp only [nf_node, nf_cons, nf_nil, nf_leaf, frzL_frzL, intsT_frz, frz_strs, tls_frz]; done) | exact frz_ints _ _ | exact Nat.le_of_ble_eq_true rfl | exact (show (0 : Int) < _ by decide) | exact (show (0 : Int) ≤ _ by decide) | exact ⟨show (0 : Int) < _ by decide, show Nat.log2 _ < _ by decide⟩ | exact Or.inl (Or.inr ⟨show (_ : Int) < _ by decide, show (_ : Int) < _ by decide⟩) | exact Or.inl (Or.inl ⟨show (_ : Int) < _ by decide, show (_ : Int) < _ by decide⟩) | exact ⟨show (0 : Int) ≤ _ by decide, show (_ : Int) ≤ _ by decide, show Int.natAbs _ < _ by decide⟩)) | refine Exists.intro _ (Exists.intro _ (And.intro rfl (And.intro rfl ?_))) | refine Exists.intro _ (And.intro (Le.rf _) ?_) | refine Exists.intro _ (And.intro rfl ?_)))
  refine ⟨_, _, rfl, hb, by omega, .inl (by omega), fun r1 b2 r10 r11 hb2 => ?_⟩
  (repeat (first | (refine Nx.mk ?_; ((try (dsimp only [nr_none, nr_some, nr_nil, nf_leaf, nf_pin, nf_node, nf_nil, nf_cons, ni_f, ni_t, nw_nil, nw_cons, ns_0, ns_s])); (try simp only [intsT_frz, frzL_frzL, frz_strs, tls_frz]))) | (refine And.intro ?_ ?_; focus (first | exact rfl | exact frz_frz _ | exact frz_nf _ _ | exact (show frz _ = _ by assumption) | (show frz _ = _; simp only [nf_node, nf_cons, nf_nil, nf_leaf, frzL_frzL, intsT_frz, frz_strs, tls_frz]; done) | exact frz_ints _ _ | exact Nat.le_of_ble_eq_true rfl | exact (show (0 : Int) < _ by decide) | exact (show (0 : Int) ≤ _ by decide) | exact ⟨show (0 : Int) < _ by decide, show Nat.log2 _ < _ by decide⟩ | exact Or.inl (Or.inr ⟨show (_ : Int) < _ by decide, show (_ : Int) < _ by decide⟩) | exact Or.inl (Or.inl ⟨show (_ : Int) < _ by decide, show (_ : Int) < _ by decide⟩) | exact ⟨show (0 : Int) ≤ _ by decide, show (_ : Int) ≤ _ by decide, show Int.natAbs _ < _ by decide⟩)) | refine Exists.intro _ (Exists.intro _ (And.intro rfl (And.intro rfl ?_))) | refine Exists.intro _ (And.intro (Le.rf _) ?_) | refine Exists.intro _ (And.intro rfl ?_)))
  have e : ((10 : Int) ^ (9 : Int).toNat) = 1000000000 := by decide
  refine ⟨_, _, rfl, hb2, by decide, .inl (by decide), fun d b3 hd1 hd2 hb3 => ?_⟩
  (repeat (first | (refine Nx.mk ?_; ((try (dsimp only [nr_none, nr_some, nr_nil, nf_leaf, nf_pin, nf_node, nf_nil, nf_cons, ni_f, ni_t, nw_nil, nw_cons, ns_0, ns_s])); (try simp only [intsT_frz, frzL_frzL, frz_strs, tls_frz]))) | (refine And.intro ?_ ?_; focus (first | exact rfl | exact frz_frz _ | exact frz_nf _ _ | exact (show frz _ = _ by assumption) | (show frz _ = _; simp only [nf_node, nf_cons, nf_nil, nf_leaf, frzL_frzL, intsT_frz, frz_strs, tls_frz]; done) | exact frz_ints _ _ | exact Nat.le_of_ble_eq_true rfl | exact (show (0 : Int) < _ by decide) | exact (show (0 : Int) ≤ _ by decide) | exact ⟨show (0 : Int) < _ by decide, show Nat.log2 _ < _ by decide⟩ | exact Or.inl (Or.inr ⟨show (_ : Int) < _ by decide, show (_ : Int) < _ by decide⟩) | exact Or.inl (Or.inl ⟨show (_ : Int) < _ by decide, show (_ : Int) < _ by decide⟩) | exact ⟨show (0 : Int) ≤ _ by decide, show (_ : Int) ≤ _ by decide, show Int.natAbs _ < _ by decide⟩)) | refine Exists.intro _ (Exists.intro _ (And.intro rfl (And.intro rfl ?_))) | refine Exists.intro _ (And.intro (Le.rf _) ?_) | refine Exists.intro _ (And.intro rfl ?_)))
  refine ⟨_, _, rfl, hb3, by decide, .inl (by decide), fun r b4 hr1 hr2 hb4 => ?_⟩
  (conv => whnf)
  have hr : r = 0 ∨ r = 1 ∨ r = 2 ∨ r = 3 ∨ r = 4 ∨ r = 5 := by omega
  have fin : ∀ x : Int, 0 ≤ x → x ≤ 1000000000 → Q (.leaf (.int x)) [b4] := fun x h1 h2 => q x b4 h1 h2 hb4
  rcases hr with rfl | rfl | rfl | rfl | rfl | rfl
  · exact ⟨_, rfl, fin k k0 (by omega)⟩
  · exact ⟨_, rfl, fin k k0 (by omega)⟩
  · exact ⟨_, rfl, fin k k0 (by omega)⟩
  · exact ⟨_, rfl, fin k k0 (by omega)⟩
  · exact ⟨_, rfl, fin r1 r10 (by omega)⟩
  · refine ⟨_, rfl, fin ((10 : Int) ^ (9 : Int).toNat - d) ?_ ?_⟩
    · rw [e]
      omega
    · rw [e]
      omega
theorem rd__law_tellings {ts : List T} {Q : T → List T → Prop} {E : Value → List (Str × V) → List T → Prop} (h : sp__law_tellings ts Q E) : t__law_tellings (bodyEnds [true, false, false, false] Q E) (startE 6 (frzP [true, false, false, false] ts)) := by
  obtain ⟨bag, o, vs, m, k, rfl, hb, v0, vl, hv, m0, m1, k0, k1, q⟩ := h
  (try simp only [np_t, np_f, np_n, ne_c, ne_n, ne_0, nf_leaf, nf_pin, nf_node])
  (repeat (first | (refine Nx.mk ?_; ((try (dsimp only [nr_none, nr_some, nr_nil, nf_leaf, nf_pin, nf_node, nf_nil, nf_cons, ni_f, ni_t, nw_nil, nw_cons, ns_0, ns_s])); (try simp only [intsT_frz, frzL_frzL, frz_strs, tls_frz]))) | (refine And.intro ?_ ?_; focus (first | exact rfl | exact frz_frz _ | exact frz_nf _ _ | exact (show frz _ = _ by assumption) | (show frz _ = _; simp only [nf_node, nf_cons, nf_nil, nf_leaf, frzL_frzL, intsT_frz, frz_strs, tls_frz]; done) | exact frz_ints _ _ | exact Nat.le_of_ble_eq_true rfl | exact (show (0 : Int) < _ by decide) | exact (show (0 : Int) ≤ _ by decide) | exact ⟨show (0 : Int) < _ by decide, show Nat.log2 _ < _ by decide⟩ | exact Or.inl (Or.inr ⟨show (_ : Int) < _ by decide, show (_ : Int) < _ by decide⟩) | exact Or.inl (Or.inl ⟨show (_ : Int) < _ by decide, show (_ : Int) < _ by decide⟩) | exact ⟨show (0 : Int) ≤ _ by decide, show (_ : Int) ≤ _ by decide, show Int.natAbs _ < _ by decide⟩)) | refine Exists.intro _ (Exists.intro _ (And.intro rfl (And.intro rfl ?_))) | refine Exists.intro _ (And.intro (Le.rf _) ?_) | refine Exists.intro _ (And.intro rfl ?_)))
  (conv => whnf)
  refine And.intro (by omega) (And.intro (by omega) ?_)
  (conv => whnf)
  try rw [frz_strs]
  have hkn : k.toNat ≤ 70 := by omega
  refine Loop.rg (fun z : T × List T => [some (some z.1), some (some (.node false .lst (strsT vs))), some (some (.leaf (.int m))), some (some (.leaf (.int k))), some (some (.node true .lst z.2)), none]) (fun i z => IsBag z.1 ∧ ∃ xs : List Tl, frzL z.2 = xs.map tlT ∧ xs.length ≤ 2 * i ∧ ∀ x ∈ xs, TlOk x) (bag, []) ⟨hb, [], rfl, Nat.zero_le _, nofun⟩ (by repeat' (first | exact Fits.e | refine Fits.n ?_ | refine Fits.s rfl ?_)) (fun i z g hlt hI hF R hR => ?_) fun z g hI hF => ?_
  · (repeat (first | (obtain ⟨_, rfl, hF⟩ := hF) | (obtain ⟨_, _, rfl, hF⟩ := hF))); (try cases hF)
    obtain ⟨b1, τs⟩ := z
    obtain ⟨hb1, xs, hxs, hxl, hxo⟩ := hI
    have hb1 : IsBag b1 := hb1
    have hxs : frzL τs = xs.map tlT := hxs
    have hτl : τs.length = xs.length := by
      have := congrArg List.length hxs
      rw [frzL_length, List.length_map] at this
      exact this
    simp only [Int.zero_add]
    (repeat (first | (refine Nx.mk ?_; ((try (dsimp only [nr_none, nr_some, nr_nil, nf_leaf, nf_pin, nf_node, nf_nil, nf_cons, ni_f, ni_t, nw_nil, nw_cons, ns_0, ns_s])); (try simp only [intsT_frz, frzL_frzL, frz_strs, tls_frz]))) | (refine And.intro ?_ ?_; focus (first | exact rfl | exact frz_frz _ | exact frz_nf _ _ | exact (show frz _ = _ by assumption) | (show frz _ = _; simp only [nf_node, nf_cons, nf_nil, nf_leaf, frzL_frzL, intsT_frz, frz_strs, tls_frz]; done) | exact frz_ints _ _ | exact Nat.le_of_ble_eq_true rfl | exact (show (0 : Int) < _ by decide) | exact (show (0 : Int) ≤ _ by decide) | exact ⟨show (0 : Int) < _ by decide, show Nat.log2 _ < _ by decide⟩ | exact Or.inl (Or.inr ⟨show (_ : Int) < _ by decide, show (_ : Int) < _ by decide⟩) | exact Or.inl (Or.inl ⟨show (_ : Int) < _ by decide, show (_ : Int) < _ by decide⟩) | exact ⟨show (0 : Int) ≤ _ by decide, show (_ : Int) ≤ _ by decide, show Int.natAbs _ < _ by decide⟩)) | refine Exists.intro _ (Exists.intro _ (And.intro rfl (And.intro rfl ?_))) | refine Exists.intro _ (And.intro (Le.rf _) ?_) | refine Exists.intro _ (And.intro rfl ?_)))
    refine ⟨_, _, rfl, hb1, by omega, by omega, fun n b2 n0 n1 hb2 => ?_⟩
    (repeat (first | (refine Nx.mk ?_; ((try (dsimp only [nr_none, nr_some, nr_nil, nf_leaf, nf_pin, nf_node, nf_nil, nf_cons, ni_f, ni_t, nw_nil, nw_cons, ns_0, ns_s])); (try simp only [intsT_frz, frzL_frzL, frz_strs, tls_frz]))) | (refine And.intro ?_ ?_; focus (first | exact rfl | exact frz_frz _ | exact frz_nf _ _ | exact (show frz _ = _ by assumption) | (show frz _ = _; simp only [nf_node, nf_cons, nf_nil, nf_leaf, frzL_frzL, intsT_frz, frz_strs, tls_frz]; done) | exact frz_ints _ _ | exact Nat.le_of_ble_eq_true rfl | exact (show (0 : Int) < _ by decide) | exact (show (0 : Int) ≤ _ by decide) | exact ⟨show (0 : Int) < _ by decide, show Nat.log2 _ < _ by decide⟩ | exact Or.inl (Or.inr ⟨show (_ : Int) < _ by decide, show (_ : Int) < _ by decide⟩) | exact Or.inl (Or.inl ⟨show (_ : Int) < _ by decide, show (_ : Int) < _ by decide⟩) | exact ⟨show (0 : Int) ≤ _ by decide, show (_ : Int) ≤ _ by decide, show Int.natAbs _ < _ by decide⟩)) | refine Exists.intro _ (Exists.intro _ (And.intro rfl (And.intro rfl ?_))) | refine Exists.intro _ (And.intro (Le.rf _) ?_) | refine Exists.intro _ (And.intro rfl ?_)))
    (conv => whnf)
    refine ⟨_, n, _, vs, m, rfl, hb2, n0, n1, v0, vl, hv, m0, m1, fun x b3 τ ho _ _ _ hτ hb3 => ?_⟩
    (conv => whnf)
    refine And.intro (by show τs.length < 16777216; omega) ?_
    (conv => whnf)
    refine Nx.mk ?_
    unfold t__law_tellings_2 t__law_tellings_1
    (repeat (first | (refine Nx.mk ?_; ((try (dsimp only [nr_none, nr_some, nr_nil, nf_leaf, nf_pin, nf_node, nf_nil, nf_cons, ni_f, ni_t, nw_nil, nw_cons, ns_0, ns_s])); (try simp only [intsT_frz, frzL_frzL, frz_strs, tls_frz]))) | (refine And.intro ?_ ?_; focus (first | exact rfl | exact frz_frz _ | exact frz_nf _ _ | exact (show frz _ = _ by assumption) | (show frz _ = _; simp only [nf_node, nf_cons, nf_nil, nf_leaf, frzL_frzL, intsT_frz, frz_strs, tls_frz]; done) | exact frz_ints _ _ | exact Nat.le_of_ble_eq_true rfl | exact (show (0 : Int) < _ by decide) | exact (show (0 : Int) ≤ _ by decide) | exact ⟨show (0 : Int) < _ by decide, show Nat.log2 _ < _ by decide⟩ | exact Or.inl (Or.inr ⟨show (_ : Int) < _ by decide, show (_ : Int) < _ by decide⟩) | exact Or.inl (Or.inl ⟨show (_ : Int) < _ by decide, show (_ : Int) < _ by decide⟩) | exact ⟨show (0 : Int) ≤ _ by decide, show (_ : Int) ≤ _ by decide, show Int.natAbs _ < _ by decide⟩)) | refine Exists.intro _ (Exists.intro _ (And.intro rfl (And.intro rfl ?_))) | refine Exists.intro _ (And.intro (Le.rf _) ?_) | refine Exists.intro _ (And.intro rfl ?_)))
    refine ⟨_, _, rfl, hb3, by decide, .inl (by decide), fun r b4 hr1 hr2 hb4 => ?_⟩
    have hxs2 : frzL (τs ++ [τ]) = (xs ++ [x]).map tlT := by
      rw [frzL_map, List.map_append, ← frzL_map, hxs]
      show _ ++ [frz τ] = _
      rw [hτ]
      simp
    have hxo2 : ∀ y ∈ xs ++ [x], TlOk y := fun y hy => by
      rcases List.mem_append.mp hy with h | h
      · exact hxo y h
      · rw [List.mem_singleton.mp h]
        exact ho
    (conv => whnf)
    refine ifB_dec (p := r = 0) (fun hr => ?_) (fun hr => ?_)
    · (conv => whnf)
      refine And.intro (by rw [frz_frz]) ?_
      (conv => whnf)
      refine And.intro rfl ?_
      (conv => whnf)
      have hn9 : (frzL (τs ++ [τ])).length = xs.length + 1 := by rw [hxs2]; simp
      refine ⟨_, _, rfl, hb4, by omega, .inl (by omega), fun r5 b5 hr5 hr6 hb5 => ?_⟩
      obtain ⟨j, rfl⟩ := Int.eq_ofNat_of_zero_le hr5
      have hjl : j < (τs ++ [τ]).length := by rw [← frzL_length]; omega
      (conv => whnf)
      refine ⟨j, (τs ++ [τ])[j], by rw [ixN_nat, if_pos hjl], List.getElem?_eq_getElem hjl, ?_⟩
      (conv => whnf)
      rw [List.length_set]
      refine And.intro (by rw [← frzL_length]; show _ < 16777216; omega) ?_
      obtain ⟨y, hy⟩ : ∃ y, (xs ++ [x])[j]? = some y := ⟨_, List.getElem?_eq_getElem (by rw [frzL_length] at hn9; simp at hjl hn9 ⊢; omega)⟩
      have hyt : frz (τs ++ [τ])[j] = tlT y := by
        have : (frzL (τs ++ [τ]))[j]? = some (tlT y) := by rw [hxs2, List.getElem?_map, hy]; rfl
        rw [frzL_map, List.getElem?_map, List.getElem?_eq_getElem hjl] at this
        exact Option.some.inj this
      have hset : frzL ((τs ++ [τ]).set j (frz (τs ++ [τ])[j]) ++ [frz (τs ++ [τ])[j]]) = (xs ++ [x] ++ [y]).map tlT := by
        rw [frzL_map, List.map_append, List.map_set, ← frzL_map, hxs2, frz_frz, hyt]
        have e1 : ((xs ++ [x]).map tlT).set j (tlT y) = (xs ++ [x]).map tlT := set_at (by rw [List.getElem?_map, hy]; rfl)
        have e2 : frz (tlT y) = tlT y := by rw [← hyt, frz_frz]
        rw [e1, List.map_cons, e2]
        simp
      refine hR (b5, _) _ ⟨hb5, xs ++ [x] ++ [y], hset, by simp; omega, fun z hz => ?_⟩ (by repeat' (first | exact Fits.e | refine Fits.n ?_ | refine Fits.s rfl ?_))
      rcases List.mem_append.mp hz with h | h
      · exact hxo2 z h
      · rw [List.mem_singleton.mp h]
        exact hxo2 y (List.mem_of_getElem? hy)
    · (conv => whnf)
      exact hR (b4, τs ++ [τ]) _ ⟨hb4, xs ++ [x], hxs2, by rw [List.length_append]; show _ ≤ 2 * (i + 1); simp; omega, hxo2⟩ (by repeat' (first | exact Fits.e | refine Fits.n ?_ | refine Fits.s rfl ?_))
  · (repeat (first | (obtain ⟨_, rfl, hF⟩ := hF) | (obtain ⟨_, _, rfl, hF⟩ := hF))); (try cases hF)
    obtain ⟨b1, τs⟩ := z
    obtain ⟨hb1, xs, hxs, hxl, hxo⟩ := hI
    (refine Nx.mk ?_; ((try (dsimp only [nr_none, nr_some, nr_nil, nf_leaf, nf_pin, nf_node, nf_nil, nf_cons, ni_f, ni_t, nw_nil, nw_cons, ns_0, ns_s])); (try simp only [intsT_frz, frzL_frzL, frz_strs, tls_frz])))
    (repeat (first | (refine Nx.mk ?_; ((try (dsimp only [nr_none, nr_some, nr_nil, nf_leaf, nf_pin, nf_node, nf_nil, nf_cons, ni_f, ni_t, nw_nil, nw_cons, ns_0, ns_s])); (try simp only [intsT_frz, frzL_frzL, frz_strs, tls_frz]))) | (refine And.intro ?_ ?_; focus (first | exact rfl | exact frz_frz _ | exact frz_nf _ _ | exact (show frz _ = _ by assumption) | (show frz _ = _; simp only [nf_node, nf_cons, nf_nil, nf_leaf, frzL_frzL, intsT_frz, frz_strs, tls_frz]; done) | exact frz_ints _ _ | exact Nat.le_of_ble_eq_true rfl | exact (show (0 : Int) < _ by decide) | exact (show (0 : Int) ≤ _ by decide) | exact ⟨show (0 : Int) < _ by decide, show Nat.log2 _ < _ by decide⟩ | exact Or.inl (Or.inr ⟨show (_ : Int) < _ by decide, show (_ : Int) < _ by decide⟩) | exact Or.inl (Or.inl ⟨show (_ : Int) < _ by decide, show (_ : Int) < _ by decide⟩) | exact ⟨show (0 : Int) ≤ _ by decide, show (_ : Int) ≤ _ by decide, show Int.natAbs _ < _ by decide⟩)) | refine Exists.intro _ (Exists.intro _ (And.intro rfl (And.intro rfl ?_))) | refine Exists.intro _ (And.intro (Le.rf _) ?_) | refine Exists.intro _ (And.intro rfl ?_)))
    unfold t__law_tellings_5
    (repeat (first | (refine Nx.mk ?_; ((try (dsimp only [nr_none, nr_some, nr_nil, nf_leaf, nf_pin, nf_node, nf_nil, nf_cons, ni_f, ni_t, nw_nil, nw_cons, ns_0, ns_s])); (try simp only [intsT_frz, frzL_frzL, frz_strs, tls_frz]))) | (refine And.intro ?_ ?_; focus (first | exact rfl | exact frz_frz _ | exact frz_nf _ _ | exact (show frz _ = _ by assumption) | (show frz _ = _; simp only [nf_node, nf_cons, nf_nil, nf_leaf, frzL_frzL, intsT_frz, frz_strs, tls_frz]; done) | exact frz_ints _ _ | exact Nat.le_of_ble_eq_true rfl | exact (show (0 : Int) < _ by decide) | exact (show (0 : Int) ≤ _ by decide) | exact ⟨show (0 : Int) < _ by decide, show Nat.log2 _ < _ by decide⟩ | exact Or.inl (Or.inr ⟨show (_ : Int) < _ by decide, show (_ : Int) < _ by decide⟩) | exact Or.inl (Or.inl ⟨show (_ : Int) < _ by decide, show (_ : Int) < _ by decide⟩) | exact ⟨show (0 : Int) ≤ _ by decide, show (_ : Int) ≤ _ by decide, show Int.natAbs _ < _ by decide⟩)) | refine Exists.intro _ (Exists.intro _ (And.intro rfl (And.intro rfl ?_))) | refine Exists.intro _ (And.intro (Le.rf _) ?_) | refine Exists.intro _ (And.intro rfl ?_)))
    (conv => whnf)
    rw [frz_node, hxs]
    refine ⟨_, _, _, rfl, hb1, by rw [List.length_map]; omega, fun its b2 hp hb2 => ?_⟩
    rw [tls_frz] at hp
    obtain ⟨ys, rfl, hys⟩ := tls_of hp
    refine q ys (ys.map tlT) b2 (by have := hys.length_eq; omega) (fun x hx => hxo x (hys.mem_iff.mp hx)) (tls_frz ys) hb2
def dueD (xs : List Tl) : PyData := .list [.list ((byDay (fun x : Tl => x.1) (fun x => x.2.1) (alnL (grp (fun x : Tl => x.1) xs))).map tlD), .list ((clashL (grp (fun x : Tl => x.1) xs)).map .int)]
def dueT (xs : List Tl) : T := .node false .lst [.node false .lst ((byDay (fun x : Tl => x.1) (fun x => x.2.1) (alnL (grp (fun x : Tl => x.1) xs))).map tlT), .node false .lst (intsT (clashL (grp (fun x : Tl => x.1) xs)))]
theorem bday_sub {xs : List Tl} : ∀ x ∈ byDay (fun x : Tl => x.1) (fun x => x.2.1) (alnL (grp (fun x : Tl => x.1) xs)), x ∈ xs := fun x hx => (mem_alnL.mp ((byDay_perm _).mem_iff.mp hx)).1
theorem bday_len {xs : List Tl} : (byDay (fun x : Tl => x.1) (fun x => x.2.1) (alnL (grp (fun x : Tl => x.1) xs))).length ≤ xs.length := by
  rw [(byDay_perm _).length_eq]
  unfold alnL
  refine Nat.le_trans (List.length_filterMap_le _ _) ?_
  rw [List.length_mergeSort, List.length_map]
  exact grp_len xs
theorem clash_mem {xs : List Tl} (h : ∀ x ∈ xs, TlOk x) : ∀ n ∈ clashL (grp (fun x : Tl => x.1) xs), 0 ≤ n ∧ n ≤ 1000000000 := fun n hn => by
  have h1 := (List.mergeSort_perm _ _).mem_iff.mp (List.mem_filter.mp hn).1
  obtain ⟨p, hp, rfl⟩ := List.mem_map.mp h1
  obtain ⟨a, b, c⟩ := (grp_ok (num := fun x : Tl => x.1) xs).el p hp
  cases hp2 : p.2 with
  | nil => exact absurd hp2 a
  | cons x r =>
    have := (c x).mp (by rw [hp2]; exact List.mem_cons_self)
    rw [← this.2]
    exact (h x this.1).n
theorem clash_len {xs : List Tl} : (clashL (grp (fun x : Tl => x.1) xs)).length ≤ xs.length := by
  unfold clashL
  refine Nat.le_trans (List.length_filter_le _ _) ?_
  rw [List.length_mergeSort, List.length_map]
  exact grp_len xs
theorem ints_small : ∀ {ns : List Int}, (∀ n ∈ ns, 0 ≤ n ∧ n ≤ 1000000000) → smallL (ns.map .int)
  | [], _ => by simp [smallL]
  | n :: ns, h => by
    have := h n List.mem_cons_self
    simp only [List.map_cons, smallL, smallD]
    exact ⟨small62 (by omega), ints_small fun m hm => h m (List.mem_cons_of_mem _ hm)⟩
theorem due_good {xs : List Tl} (h : ∀ x ∈ xs, TlOk x) (hl : xs.length ≤ 140) : GoodD (dueD xs) := by
  obtain ⟨a, b, c⟩ := tls_small (xs := byDay (fun x : Tl => x.1) (fun x => x.2.1) (alnL (grp (fun x : Tl => x.1) xs))) fun x hx => h x (bday_sub x hx)
  have a2 := ints_small (clash_mem h)
  have l1 := bday_len (xs := xs)
  have l2 := clash_len (xs := xs)
  refine ⟨?_, ?_, ?_⟩
  · simp only [dueD, smallD, smallL]
    exact ⟨a, a2, trivial⟩
  · simp only [dueD, PyData.depth, PyData.depthAll, depthAll_ints]
    omega
  · simp only [dueD, szD, szL, szL_ints]
    omega
theorem due_toP {xs : List Tl} (h : ∀ x ∈ xs, TlOk x) (hl : xs.length ≤ 140) : toP (dueT xs) = some (dueD xs) := by
  have h1 : ∀ x ∈ byDay (fun x : Tl => x.1) (fun x => x.2.1) (alnL (grp (fun x : Tl => x.1) xs)), TlOk x := fun x hx => h x (bday_sub x hx)
  have l1 := bday_len (xs := xs)
  unfold dueT dueD
  simp only [toP, toPL, toPL_ints, (tl_ths h1 (by omega)).toPL]
  rfl
theorem same_due {xs ys : List Tl} (h : ∀ x, x ∈ ys ↔ x ∈ xs) (o1 o2 o3 : Bool) : frz (.node o1 .lst [.node o2 .lst ((standB (fun x : Tl => x.1) (fun x => x.2.1) ys).map tlT), .node o3 .lst (intsT (clashG (grp (fun x : Tl => x.1) ys)))]) = dueT xs := by
  unfold dueT
  rw [law_stand h, law_clash h]
  show T.node false .lst [.node false .lst (frzL _), .node false .lst (frzL _)] = _
  rw [tls_frz, intsT_frz]
theorem frzL_app (a b : List T) : frzL (a ++ b) = frzL a ++ frzL b := by
  rw [frzL_map, List.map_append, ← frzL_map, ← frzL_map]
theorem turn_ok {xs ys : List Tl} (hx : ∀ x ∈ xs, TlOk x) (hxl : xs.length ≤ 140) (hm : ∀ x, x ∈ ys ↔ x ∈ xs) (hyl : ys.length ≤ 1000) {D : DEnds} {x0 x1 x2 x3 x4 x5 x6 x9 : Option T} {R : Ev → Prop}
    (hR : ∀ y9, R [x0, x1, x2, x3, x4, x5, x6, some (dueT xs), some (.node false .lst (ys.map tlT)), y9]) :
    t_law_6 (lpE R D) [x0, x1, x2, x3, x4, x5, x6, some (dueT xs), some (.node false .lst (ys.map tlT)), x9] := by
  have hy : ∀ x ∈ ys, TlOk x := fun x h => hx x ((hm x).mp h)
  unfold t_law_6
  (repeat (first | (refine Nx.mk ?_; ((try (dsimp only [nr_none, nr_some, nr_nil, nf_leaf, nf_pin, nf_node, nf_nil, nf_cons, ni_f, ni_t, nw_nil, nw_cons, ns_0, ns_s])); (try simp only [intsT_frz, frzL_frzL, frz_strs, tls_frz]))) | (refine And.intro ?_ ?_; focus (first | exact rfl | exact frz_frz _ | exact frz_nf _ _ | exact (show frz _ = _ by assumption) | (show frz _ = _; simp only [nf_node, nf_cons, nf_nil, nf_leaf, frzL_frzL, intsT_frz, frz_strs, tls_frz]; done) | exact frz_ints _ _ | exact Nat.le_of_ble_eq_true rfl | exact (show (0 : Int) < _ by decide) | exact (show (0 : Int) ≤ _ by decide) | exact ⟨show (0 : Int) < _ by decide, show Nat.log2 _ < _ by decide⟩ | exact Or.inl (Or.inr ⟨show (_ : Int) < _ by decide, show (_ : Int) < _ by decide⟩) | exact Or.inl (Or.inl ⟨show (_ : Int) < _ by decide, show (_ : Int) < _ by decide⟩) | exact ⟨show (0 : Int) ≤ _ by decide, show (_ : Int) ≤ _ by decide, show Int.natAbs _ < _ by decide⟩)) | refine Exists.intro _ (Exists.intro _ (And.intro rfl (And.intro rfl ?_))) | refine Exists.intro _ (And.intro (Le.rf _) ?_) | refine Exists.intro _ (And.intro rfl ?_)))
  (conv => whnf)
  try refine And.intro (show frz (T.node false .lst (ys.map tlT)) = T.node false .lst (ys.map tlT) by rw [frz_node, tls_frz]) ?_
  (conv => whnf)
  refine ⟨_, Tl, inferInstance, ys, tlT, (·.1), (·.2.1), tlD, rfl, ⟨false, _, rfl, tls_frz ys⟩, tl_ths hy (by omega), tl_hd ys, ?_⟩
  (conv => whnf)
  refine And.intro (by rw [frz_node, tls_frz]) ?_
  (conv => whnf)
  refine ⟨_, Tl, inferInstance, ys, tlT, (·.1), tlD, rfl, ⟨false, _, rfl, tls_frz ys⟩, tl_ths hy (by omega), ?_⟩
  (conv => whnf)
  refine And.intro (show 2 ≤ 16777216 by decide) ?_
  (conv => whnf)
  refine Nx.mk ?_
  ((try (dsimp only [nr_none, nr_some, nr_nil, nf_leaf, nf_pin, nf_node, nf_nil, nf_cons, ni_f, ni_t, nw_nil, nw_cons, ns_0, ns_s])); (try simp only [intsT_frz, frzL_frzL, frz_strs, tls_frz]))
  (repeat (first | (refine Nx.mk ?_; ((try (dsimp only [nr_none, nr_some, nr_nil, nf_leaf, nf_pin, nf_node, nf_nil, nf_cons, ni_f, ni_t, nw_nil, nw_cons, ns_0, ns_s])); (try simp only [intsT_frz, frzL_frzL, frz_strs, tls_frz]))) | (refine And.intro ?_ ?_; focus (first | exact rfl | exact frz_frz _ | exact frz_nf _ _ | exact (show frz _ = _ by assumption) | (show frz _ = _; simp only [nf_node, nf_cons, nf_nil, nf_leaf, frzL_frzL, intsT_frz, frz_strs, tls_frz]; done) | exact frz_ints _ _ | exact Nat.le_of_ble_eq_true rfl | exact (show (0 : Int) < _ by decide) | exact (show (0 : Int) ≤ _ by decide) | exact ⟨show (0 : Int) < _ by decide, show Nat.log2 _ < _ by decide⟩ | exact Or.inl (Or.inr ⟨show (_ : Int) < _ by decide, show (_ : Int) < _ by decide⟩) | exact Or.inl (Or.inl ⟨show (_ : Int) < _ by decide, show (_ : Int) < _ by decide⟩) | exact ⟨show (0 : Int) ≤ _ by decide, show (_ : Int) ≤ _ by decide, show Int.natAbs _ < _ by decide⟩)) | refine Exists.intro _ (Exists.intro _ (And.intro rfl (And.intro rfl ?_))) | refine Exists.intro _ (And.intro (Le.rf _) ?_) | refine Exists.intro _ (And.intro rfl ?_)))
  refine ⟨_, _, dueD xs, rfl, by rw [same_due hm, due_toP hx hxl], by rw [toP_frz, due_toP hx hxl], due_good hx hxl, ?_⟩
  (conv => whnf)
  refine Nx.mk ?_
  unfold t_law_4
  (conv => whnf)
  refine ⟨_, 0, _, rfl, rfl, rfl, ?_, ?_⟩
  · rw [List.length_map, law_stand hm]
    have := bday_len (xs := xs)
    show _ < 16777216
    omega
  (conv => whnf)
  refine And.intro rfl ?_
  (conv => whnf)
  refine Nx.mk ?_
  unfold t_law_2
  (conv => whnf)
  refine ⟨_, 1, _, rfl, rfl, rfl, ?_, ?_⟩
  · unfold intsT
    rw [List.length_map, law_clash hm]
    have := clash_len (xs := xs)
    show _ < 16777216
    omega
  (conv => whnf)
  refine And.intro rfl ?_
  exact hR _
theorem rd_law {ts : List T} {Q : T → List T → Prop} {E : Value → List (Str × V) → List T → Prop} (h : sp_law ts Q E) : t_law (bodyEnds [false] Q E) (startE 10 (frzP [false] ts)) := by
  obtain ⟨ns, rfl, hn, q⟩ := h
  (try simp only [np_t, np_f, np_n, ne_c, ne_n, ne_0, nf_leaf, nf_pin, nf_node])
  (repeat (first | (refine Nx.mk ?_; ((try (dsimp only [nr_none, nr_some, nr_nil, nf_leaf, nf_pin, nf_node, nf_nil, nf_cons, ni_f, ni_t, nw_nil, nw_cons, ns_0, ns_s])); (try simp only [intsT_frz, frzL_frzL, frz_strs, tls_frz]))) | (refine And.intro ?_ ?_; focus (first | exact rfl | exact frz_frz _ | exact frz_nf _ _ | exact (show frz _ = _ by assumption) | (show frz _ = _; simp only [nf_node, nf_cons, nf_nil, nf_leaf, frzL_frzL, intsT_frz, frz_strs, tls_frz]; done) | exact frz_ints _ _ | exact Nat.le_of_ble_eq_true rfl | exact (show (0 : Int) < _ by decide) | exact (show (0 : Int) ≤ _ by decide) | exact ⟨show (0 : Int) < _ by decide, show Nat.log2 _ < _ by decide⟩ | exact Or.inl (Or.inr ⟨show (_ : Int) < _ by decide, show (_ : Int) < _ by decide⟩) | exact Or.inl (Or.inl ⟨show (_ : Int) < _ by decide, show (_ : Int) < _ by decide⟩) | exact ⟨show (0 : Int) ≤ _ by decide, show (_ : Int) ≤ _ by decide, show Int.natAbs _ < _ by decide⟩)) | refine Exists.intro _ (Exists.intro _ (And.intro rfl (And.intro rfl ?_))) | refine Exists.intro _ (And.intro (Le.rf _) ?_) | refine Exists.intro _ (And.intro rfl ?_)))
  refine ⟨hn, fun bag hb => ?_⟩
  (repeat (first | (refine Nx.mk ?_; ((try (dsimp only [nr_none, nr_some, nr_nil, nf_leaf, nf_pin, nf_node, nf_nil, nf_cons, ni_f, ni_t, nw_nil, nw_cons, ns_0, ns_s])); (try simp only [intsT_frz, frzL_frzL, frz_strs, tls_frz]))) | (refine And.intro ?_ ?_; focus (first | exact rfl | exact frz_frz _ | exact frz_nf _ _ | exact (show frz _ = _ by assumption) | (show frz _ = _; simp only [nf_node, nf_cons, nf_nil, nf_leaf, frzL_frzL, intsT_frz, frz_strs, tls_frz]; done) | exact frz_ints _ _ | exact Nat.le_of_ble_eq_true rfl | exact (show (0 : Int) < _ by decide) | exact (show (0 : Int) ≤ _ by decide) | exact ⟨show (0 : Int) < _ by decide, show Nat.log2 _ < _ by decide⟩ | exact Or.inl (Or.inr ⟨show (_ : Int) < _ by decide, show (_ : Int) < _ by decide⟩) | exact Or.inl (Or.inl ⟨show (_ : Int) < _ by decide, show (_ : Int) < _ by decide⟩) | exact ⟨show (0 : Int) ≤ _ by decide, show (_ : Int) ≤ _ by decide, show Int.natAbs _ < _ by decide⟩)) | refine Exists.intro _ (Exists.intro _ (And.intro rfl (And.intro rfl ?_))) | refine Exists.intro _ (And.intro (Le.rf _) ?_) | refine Exists.intro _ (And.intro rfl ?_)))
  (conv => whnf)
  refine ⟨_, Tl, inferInstance, [], tlT, (·.1), (·.2.1), tlD, rfl, ⟨true, [], rfl, rfl⟩, tl_ths (fun x hx => by cases hx) (Nat.zero_le _), tl_hd [], ?_⟩
  (conv => whnf)
  refine And.intro (Nat.zero_le _) ?_
  (conv => whnf)
  have e1 : standB (fun x : Tl => x.1) (fun x => x.2.1) [] = [] := by simp [standB, aloneG, grp]
  have e2 : clashG (grp (fun x : Tl => x.1) []) = [] := by simp [clashG, grp]
  rw [e1]
  refine ⟨.list [], .list [], rfl, rfl, by decide +kernel, by decide +kernel, ?_⟩
  rw [show PyData.eqv (.list []) (.list []) = true by decide +kernel]
  (conv => whnf)
  refine And.intro (Nat.zero_le _) ?_
  (conv => whnf)
  refine ⟨_, Tl, inferInstance, [], tlT, (·.1), tlD, rfl, ⟨true, [], rfl, rfl⟩, tl_ths (fun x hx => by cases hx) (Nat.zero_le _), ?_⟩
  (conv => whnf)
  refine And.intro (Nat.zero_le _) ?_
  (conv => whnf)
  rw [e2]
  refine ⟨.list [], .list [], rfl, rfl, by decide +kernel, by decide +kernel, ?_⟩
  rw [show PyData.eqv (.list []) (.list []) = true by decide +kernel]
  (conv => whnf)
  refine Nx.mk ?_
  ((try (dsimp only [nr_none, nr_some, nr_nil, nf_leaf, nf_pin, nf_node, nf_nil, nf_cons, ni_f, ni_t, nw_nil, nw_cons, ns_0, ns_s])); (try simp only [intsT_frz, frzL_frzL, frz_strs, tls_frz]))
  (repeat (first | (refine Nx.mk ?_; ((try (dsimp only [nr_none, nr_some, nr_nil, nf_leaf, nf_pin, nf_node, nf_nil, nf_cons, ni_f, ni_t, nw_nil, nw_cons, ns_0, ns_s])); (try simp only [intsT_frz, frzL_frzL, frz_strs, tls_frz]))) | (refine And.intro ?_ ?_; focus (first | exact rfl | exact frz_frz _ | exact frz_nf _ _ | exact (show frz _ = _ by assumption) | (show frz _ = _; simp only [nf_node, nf_cons, nf_nil, nf_leaf, frzL_frzL, intsT_frz, frz_strs, tls_frz]; done) | exact frz_ints _ _ | exact Nat.le_of_ble_eq_true rfl | exact (show (0 : Int) < _ by decide) | exact (show (0 : Int) ≤ _ by decide) | exact ⟨show (0 : Int) < _ by decide, show Nat.log2 _ < _ by decide⟩ | exact Or.inl (Or.inr ⟨show (_ : Int) < _ by decide, show (_ : Int) < _ by decide⟩) | exact Or.inl (Or.inl ⟨show (_ : Int) < _ by decide, show (_ : Int) < _ by decide⟩) | exact ⟨show (0 : Int) ≤ _ by decide, show (_ : Int) ≤ _ by decide, show Int.natAbs _ < _ by decide⟩)) | refine Exists.intro _ (Exists.intro _ (And.intro rfl (And.intro rfl ?_))) | refine Exists.intro _ (And.intro (Le.rf _) ?_) | refine Exists.intro _ (And.intro rfl ?_)))
  unfold t_law_17
  refine ?_
  (conv => whnf)
  refine And.intro (by decide) (And.intro (by decide) ?_)
  refine Loop.rg (fun b : T => [some (some (.pin .lst (ns.map V.int))), some (some b), none, none, none, none, none, none, none, none]) (fun i b => IsBag b) bag hb (by repeat' (first | exact Fits.e | refine Fits.n ?_ | refine Fits.s rfl ?_)) (fun i b g hlt hI hF R hR => ?_) fun b g hI hF => ?_
  · (repeat (first | (obtain ⟨_, rfl, hF⟩ := hF) | (obtain ⟨_, _, rfl, hF⟩ := hF))); (try cases hF)
    simp only [Int.zero_add]
    (conv => whnf)
    refine ⟨_, _, rfl, hI, by decide, .inl (by decide), fun r b2 hr1 hr2 hb2 => ?_⟩
    obtain ⟨j, rfl⟩ := Int.eq_ofNat_of_zero_le hr1
    (conv => whnf)
    refine ⟨_, 1 + j, ?_, hb2, by omega, by omega, fun vs b3 hvl hv _ hb3 => ?_⟩
    · show [b2, T.leaf (.int (1 + (j : Int)))] = _
      rw [show (1 : Int) + (j : Int) = ((1 + j : Nat) : Int) by omega]
    have hv0 : vs ≠ [] := fun z => by rw [z] at hvl; simp at hvl; omega
    have go : ∀ (b4 : T) (k : Int) (x5 x6 x7 x8 x9 : Option T), IsBag b4 → 0 ≤ k → k ≤ 70 → Nx t_law_11 (lpE R (seqE t_law_15 (bodyEnds [false] Q E))) [some (.pin .lst (ns.map V.int)), some b4, some (.leaf (.int (i : Nat))), some (.node false .lst (strsT vs)), some (.leaf (.int k)), x5, x6, x7, x8, x9] := fun b4 k x5 x6 x7 x8 x9 hb4 k0 k1 => by
      refine Nx.mk ?_
      (repeat (first | (refine Nx.mk ?_; ((try (dsimp only [nr_none, nr_some, nr_nil, nf_leaf, nf_pin, nf_node, nf_nil, nf_cons, ni_f, ni_t, nw_nil, nw_cons, ns_0, ns_s])); (try simp only [intsT_frz, frzL_frzL, frz_strs, tls_frz]))) | (refine And.intro ?_ ?_; focus (first | exact rfl | exact frz_frz _ | exact frz_nf _ _ | exact (show frz _ = _ by assumption) | (show frz _ = _; simp only [nf_node, nf_cons, nf_nil, nf_leaf, frzL_frzL, intsT_frz, frz_strs, tls_frz]; done) | exact frz_ints _ _ | exact Nat.le_of_ble_eq_true rfl | exact (show (0 : Int) < _ by decide) | exact (show (0 : Int) ≤ _ by decide) | exact ⟨show (0 : Int) < _ by decide, show Nat.log2 _ < _ by decide⟩ | exact Or.inl (Or.inr ⟨show (_ : Int) < _ by decide, show (_ : Int) < _ by decide⟩) | exact Or.inl (Or.inl ⟨show (_ : Int) < _ by decide, show (_ : Int) < _ by decide⟩) | exact ⟨show (0 : Int) ≤ _ by decide, show (_ : Int) ≤ _ by decide, show Int.natAbs _ < _ by decide⟩)) | refine Exists.intro _ (Exists.intro _ (And.intro rfl (And.intro rfl ?_))) | refine Exists.intro _ (And.intro (Le.rf _) ?_) | refine Exists.intro _ (And.intro rfl ?_)))
      (conv => whnf)
      refine ⟨_, _, rfl, hb4, by decide, .inl (by decide), fun r b5 hr1 hr2 hb5 => ?_⟩
      (conv => whnf)
      refine And.intro rfl ?_
      (conv => whnf)
      refine ⟨_, _, vs, _, k, rfl, hb5, hv0, by omega, hv, by omega, by omega, k0, k1, fun xs τs b6 hxl hxo hxs hb6 => ?_⟩
      (conv => whnf)
      refine Nx.mk ?_
      ((try (dsimp only [nr_none, nr_some, nr_nil, nf_leaf, nf_pin, nf_node, nf_nil, nf_cons, ni_f, ni_t, nw_nil, nw_cons, ns_0, ns_s])); (try simp only [intsT_frz, frzL_frzL, frz_strs, tls_frz]))
      rw [hxs]
      (repeat (first | (refine Nx.mk ?_; ((try (dsimp only [nr_none, nr_some, nr_nil, nf_leaf, nf_pin, nf_node, nf_nil, nf_cons, ni_f, ni_t, nw_nil, nw_cons, ns_0, ns_s])); (try simp only [intsT_frz, frzL_frzL, frz_strs, tls_frz]))) | (refine And.intro ?_ ?_; focus (first | exact rfl | exact frz_frz _ | exact frz_nf _ _ | exact (show frz _ = _ by assumption) | (show frz _ = _; simp only [nf_node, nf_cons, nf_nil, nf_leaf, frzL_frzL, intsT_frz, frz_strs, tls_frz]; done) | exact frz_ints _ _ | exact Nat.le_of_ble_eq_true rfl | exact (show (0 : Int) < _ by decide) | exact (show (0 : Int) ≤ _ by decide) | exact ⟨show (0 : Int) < _ by decide, show Nat.log2 _ < _ by decide⟩ | exact Or.inl (Or.inr ⟨show (_ : Int) < _ by decide, show (_ : Int) < _ by decide⟩) | exact Or.inl (Or.inl ⟨show (_ : Int) < _ by decide, show (_ : Int) < _ by decide⟩) | exact ⟨show (0 : Int) ≤ _ by decide, show (_ : Int) ≤ _ by decide, show Int.natAbs _ < _ by decide⟩)) | refine Exists.intro _ (Exists.intro _ (And.intro rfl (And.intro rfl ?_))) | refine Exists.intro _ (And.intro (Le.rf _) ?_) | refine Exists.intro _ (And.intro rfl ?_)))
      (conv => whnf)
      have gx := tls_good hxo (show xs.length ≤ 300 by omega)
      try refine And.intro (show frz (T.node false .lst (xs.map tlT)) = T.node false .lst (xs.map tlT) by rw [frz_node, tls_frz]) ?_
      refine ⟨_, ReprS.of (toP_tls false hxo (by omega)) gx, ?_⟩
      (conv => whnf)
      refine And.intro (by rw [frz_node, tls_frz]) ?_
      (conv => whnf)
      refine ⟨_, Tl, inferInstance, xs, tlT, (·.1), (·.2.1), tlD, rfl, ⟨false, _, rfl, tls_frz xs⟩, tl_ths hxo (by omega), tl_hd xs, ?_⟩
      (conv => whnf)
      try refine And.intro (show frz (T.node false .lst (xs.map tlT)) = T.node false .lst (xs.map tlT) by rw [frz_node, tls_frz]) ?_
      (conv => whnf)
      refine ⟨_, 0, Tl, inferInstance, xs, tlT, (·.1), tlD, rfl, ⟨false, _, rfl, tls_frz xs⟩, tl_ths hxo (by omega), fun _ _ => ⟨_, rfl, rfl⟩, ?_⟩
      (conv => whnf)
      refine And.intro (show 2 ≤ 16777216 by decide) ?_
      (conv => whnf)
      refine Nx.mk ?_
      ((try (dsimp only [nr_none, nr_some, nr_nil, nf_leaf, nf_pin, nf_node, nf_nil, nf_cons, ni_f, ni_t, nw_nil, nw_cons, ns_0, ns_s])); (try simp only [intsT_frz, frzL_frzL, frz_strs, tls_frz]))
      rw [show T.node false .lst [T.node false .lst ((byDay (fun x : Tl => x.1) (fun x => x.2.1) (alnL (grp (fun x : Tl => x.1) xs))).map tlT), T.node false .lst (intsT (clashL (grp (fun x : Tl => x.1) xs)))] = dueT xs from rfl]
      unfold t_law_9 t_law_7
      (repeat (first | (refine Nx.mk ?_; ((try (dsimp only [nr_none, nr_some, nr_nil, nf_leaf, nf_pin, nf_node, nf_nil, nf_cons, ni_f, ni_t, nw_nil, nw_cons, ns_0, ns_s])); (try simp only [intsT_frz, frzL_frzL, frz_strs, tls_frz]))) | (refine And.intro ?_ ?_; focus (first | exact rfl | exact frz_frz _ | exact frz_nf _ _ | exact (show frz _ = _ by assumption) | (show frz _ = _; simp only [nf_node, nf_cons, nf_nil, nf_leaf, frzL_frzL, intsT_frz, frz_strs, tls_frz]; done) | exact frz_ints _ _ | exact Nat.le_of_ble_eq_true rfl | exact (show (0 : Int) < _ by decide) | exact (show (0 : Int) ≤ _ by decide) | exact ⟨show (0 : Int) < _ by decide, show Nat.log2 _ < _ by decide⟩ | exact Or.inl (Or.inr ⟨show (_ : Int) < _ by decide, show (_ : Int) < _ by decide⟩) | exact Or.inl (Or.inl ⟨show (_ : Int) < _ by decide, show (_ : Int) < _ by decide⟩) | exact ⟨show (0 : Int) ≤ _ by decide, show (_ : Int) ≤ _ by decide, show Int.natAbs _ < _ by decide⟩)) | refine Exists.intro _ (Exists.intro _ (And.intro rfl (And.intro rfl ?_))) | refine Exists.intro _ (And.intro (Le.rf _) ?_) | refine Exists.intro _ (And.intro rfl ?_)))
      (conv => whnf)
      refine And.intro (by rw [List.length_map]; show _ ≤ 16777216; omega) ?_
      (conv => whnf)
      refine ⟨_, _, _, rfl, hb6, by rw [tls_frz]; simp only [List.length_append, List.length_map]; omega, fun its' b7 hp hb7 => ?_⟩
      rw [tls_frz, frzL_app, tls_frz, ← List.map_append] at hp
      obtain ⟨ys, rfl, hys⟩ := tls_of hp
      (conv => whnf)
      refine And.intro (show frz (T.node false .lst (xs.map tlT)) = T.node false .lst (xs.map tlT) by rw [frz_node, tls_frz]) ?_
      (conv => whnf)
      refine And.intro (show frz (T.node false .lst (xs.map tlT)) = T.node false .lst (xs.map tlT) by rw [frz_node, tls_frz]) ?_
      (conv => whnf)
      refine And.intro (by rw [List.length_map]; show _ ≤ 16777216; unfold cutA; simp only [List.length_take, List.length_drop, tls_frz, List.length_map]; omega) ?_
      (conv => whnf)
      refine And.intro (show 4 ≤ 16777216 by decide) ?_
      (conv => whnf)
      have ec : cutA (xs.map tlT) none (some 2) = (cutA xs none (some 2)).map tlT := by
        unfold cutA
        rw [List.length_map, List.map_take, List.map_drop]
      have hl : frzL [T.node false .lst (xs.map tlT), T.node true .lst (frzL (xs.map tlT)).reverse, T.node true .lst (ys.map tlT), T.node true .lst (frzL (xs.map tlT) ++ frzL (cutA (frzL (xs.map tlT)) none (some 2)))] = [xs, xs.reverse, ys, xs ++ cutA xs none (some 2)].map fun l => T.node false .lst (l.map tlT) := by
        rw [tls_frz, ec, tls_frz, ← List.map_append, ← List.map_reverse]
        show [frz _, frz _, frz _, frz _] = _
        simp only [frz_node, tls_frz]
        rfl
      refine Loop.fit [xs, xs.reverse, ys, xs ++ cutA xs none (some 2)] (fun l => T.node false .lst (l.map tlT)) hl (fun _ : Unit => [some (some (.pin .lst (ns.map V.int))), some (some b7), none, none, none, some (some (.node false .lst (xs.map tlT))), some (some (.leaf (.str (PyData.list (xs.map tlD)).shown))), some (some (dueT xs)), none, none]) (fun _ _ => True) () trivial (by repeat' (first | exact Fits.e | refine Fits.n ?_ | refine Fits.s rfl ?_)) (fun i l _ g hx _ hF R2 hR2 => ?_) fun _ g _ hF => ?_
      · (repeat (first | (obtain ⟨_, rfl, hF⟩ := hF) | (obtain ⟨_, _, rfl, hF⟩ := hF))); (try cases hF)
        show t_law_6 _ [_, _, _, _, _, _, _, _, some (frz (T.node false .lst (l.map tlT))), _]
        rw [frz_node, tls_frz]
        have hcs : ∀ x ∈ cutA xs none (some 2), x ∈ xs := fun x h => List.mem_of_mem_drop (List.mem_of_mem_take h)
        have hcl : (cutA xs none (some 2)).length ≤ xs.length := by
          unfold cutA
          rw [List.length_take, List.length_drop]
          omega
        have hyl := hys.length_eq
        rw [List.length_append] at hyl
        have hml : l = xs ∨ l = xs.reverse ∨ l = ys ∨ l = xs ++ cutA xs none (some 2) := by
          have := List.mem_of_getElem? hx
          simp only [List.mem_cons, List.not_mem_nil, or_false] at this
          exact this
        refine turn_ok hxo hxl (fun x => ?_) ?_ fun y9 => hR2 () _ trivial (by repeat' (first | exact Fits.e | refine Fits.n ?_ | refine Fits.s rfl ?_))
        · rcases hml with rfl | rfl | rfl | rfl
          · rfl
          · rw [List.mem_reverse]
          · rw [hys.mem_iff, List.mem_append, or_self]
          · rw [List.mem_append]
            exact ⟨fun h => h.elim id (hcs x), .inl⟩
        · rcases hml with rfl | rfl | rfl | rfl
          · omega
          · rw [List.length_reverse]
            omega
          · omega
          · rw [List.length_append]
            omega
      · (repeat (first | (obtain ⟨_, rfl, hF⟩ := hF) | (obtain ⟨_, _, rfl, hF⟩ := hF))); (try cases hF)
        (refine Nx.mk ?_; ((try (dsimp only [nr_none, nr_some, nr_nil, nf_leaf, nf_pin, nf_node, nf_nil, nf_cons, ni_f, ni_t, nw_nil, nw_cons, ns_0, ns_s])); (try simp only [intsT_frz, frzL_frzL, frz_strs, tls_frz])))
        unfold t_law_8 t_law_1
        (repeat (first | (refine Nx.mk ?_; ((try (dsimp only [nr_none, nr_some, nr_nil, nf_leaf, nf_pin, nf_node, nf_nil, nf_cons, ni_f, ni_t, nw_nil, nw_cons, ns_0, ns_s])); (try simp only [intsT_frz, frzL_frzL, frz_strs, tls_frz]))) | (refine And.intro ?_ ?_; focus (first | exact rfl | exact frz_frz _ | exact frz_nf _ _ | exact (show frz _ = _ by assumption) | (show frz _ = _; simp only [nf_node, nf_cons, nf_nil, nf_leaf, frzL_frzL, intsT_frz, frz_strs, tls_frz]; done) | exact frz_ints _ _ | exact Nat.le_of_ble_eq_true rfl | exact (show (0 : Int) < _ by decide) | exact (show (0 : Int) ≤ _ by decide) | exact ⟨show (0 : Int) < _ by decide, show Nat.log2 _ < _ by decide⟩ | exact Or.inl (Or.inr ⟨show (_ : Int) < _ by decide, show (_ : Int) < _ by decide⟩) | exact Or.inl (Or.inl ⟨show (_ : Int) < _ by decide, show (_ : Int) < _ by decide⟩) | exact ⟨show (0 : Int) ≤ _ by decide, show (_ : Int) ≤ _ by decide, show Int.natAbs _ < _ by decide⟩)) | refine Exists.intro _ (Exists.intro _ (And.intro rfl (And.intro rfl ?_))) | refine Exists.intro _ (And.intro (Le.rf _) ?_) | refine Exists.intro _ (And.intro rfl ?_)))
        (conv => whnf)
        refine ⟨_, ReprS.of (toP_tls false hxo (by omega)) gx, ?_⟩
        (conv => whnf)
        refine And.intro rfl ?_
        (conv => whnf)
        rw [show decide ((PyData.list (xs.map tlD)).shown = (PyData.list (xs.map tlD)).shown) = true from decide_eq_true rfl]
        (conv => whnf)
        try refine And.intro (show frz (T.node false .lst (xs.map tlT)) = T.node false .lst (xs.map tlT) by rw [frz_node, tls_frz]) ?_
        (conv => whnf)
        refine ⟨_, Tl, inferInstance, xs, tlT, (·.1), (·.2.1), tlD, rfl, ⟨false, _, rfl, tls_frz xs⟩, tl_ths hxo (by omega), tl_hd xs, ?_⟩
        (conv => whnf)
        refine And.intro (show frz (T.node false .lst (xs.map tlT)) = T.node false .lst (xs.map tlT) by rw [frz_node, tls_frz]) ?_
        (conv => whnf)
        refine ⟨_, Tl, inferInstance, xs, tlT, (·.1), tlD, rfl, ⟨false, _, rfl, tls_frz xs⟩, tl_ths hxo (by omega), ?_⟩
        (conv => whnf)
        refine And.intro (show 2 ≤ 16777216 by decide) ?_
        (conv => whnf)
        refine And.intro (by unfold dueT; rw [frz_node]; show T.node false .lst [frz _, frz _] = _; rw [frz_node, frz_node, tls_frz, intsT_frz]) ?_
        (conv => whnf)
        refine ⟨_, _, dueD xs, rfl, ?_, ?_, due_good hxo hxl, ?_⟩
        · rw [← toP_frz, same_due (fun _ => Iff.rfl), due_toP hxo hxl]
        · rw [due_toP hxo hxl]
        (conv => whnf)
        exact hR _ _ hb7 (by repeat' (first | exact Fits.e | refine Fits.n ?_ | refine Fits.s rfl ?_))
    (conv => whnf)
    refine Nx.mk ?_
    ((try (dsimp only [nr_none, nr_some, nr_nil, nf_leaf, nf_pin, nf_node, nf_nil, nf_cons, ni_f, ni_t, nw_nil, nw_cons, ns_0, ns_s])); (try simp only [intsT_frz, frzL_frzL, frz_strs, tls_frz]))
    (repeat (first | (refine Nx.mk ?_; ((try (dsimp only [nr_none, nr_some, nr_nil, nf_leaf, nf_pin, nf_node, nf_nil, nf_cons, ni_f, ni_t, nw_nil, nw_cons, ns_0, ns_s])); (try simp only [intsT_frz, frzL_frzL, frz_strs, tls_frz]))) | (refine And.intro ?_ ?_; focus (first | exact rfl | exact frz_frz _ | exact frz_nf _ _ | exact (show frz _ = _ by assumption) | (show frz _ = _; simp only [nf_node, nf_cons, nf_nil, nf_leaf, frzL_frzL, intsT_frz, frz_strs, tls_frz]; done) | exact frz_ints _ _ | exact Nat.le_of_ble_eq_true rfl | exact (show (0 : Int) < _ by decide) | exact (show (0 : Int) ≤ _ by decide) | exact ⟨show (0 : Int) < _ by decide, show Nat.log2 _ < _ by decide⟩ | exact Or.inl (Or.inr ⟨show (_ : Int) < _ by decide, show (_ : Int) < _ by decide⟩) | exact Or.inl (Or.inl ⟨show (_ : Int) < _ by decide, show (_ : Int) < _ by decide⟩) | exact ⟨show (0 : Int) ≤ _ by decide, show (_ : Int) ≤ _ by decide, show Int.natAbs _ < _ by decide⟩)) | refine Exists.intro _ (Exists.intro _ (And.intro rfl (And.intro rfl ?_))) | refine Exists.intro _ (And.intro (Le.rf _) ?_) | refine Exists.intro _ (And.intro rfl ?_)))
    refine ifB_dec (p := ((i : Nat) : Int) = 0) (fun hi => ?_) (fun hi => ?_)
    · (conv => whnf)
      refine ⟨_, _, rfl, hb3, by decide, .inl (by decide), fun r b4 hr1 hr2 hb4 => ?_⟩
      (conv => whnf)
      refine ifB_dec (p := r = 0) (fun hr => ?_) (fun hr => ?_)
      · (conv => whnf)
        exact go b4 70 _ _ _ _ _ hb4 (by decide) (by decide)
      · (conv => whnf)
        refine ⟨_, _, rfl, hb4, by decide, .inl (by decide), fun r b5 hr1 hr2 hb5 => ?_⟩
        (conv => whnf)
        exact go b5 r _ _ _ _ _ hb5 hr1 (by omega)
    · (conv => whnf)
      refine ⟨_, _, rfl, hb3, by decide, .inl (by decide), fun r b5 hr1 hr2 hb5 => ?_⟩
      (conv => whnf)
      exact go b5 r _ _ _ _ _ hb5 hr1 (by omega)
  · (repeat (first | (obtain ⟨_, rfl, hF⟩ := hF) | (obtain ⟨_, _, rfl, hF⟩ := hF))); (try cases hF)
    (refine Nx.mk ?_; ((try (dsimp only [nr_none, nr_some, nr_nil, nf_leaf, nf_pin, nf_node, nf_nil, nf_cons, ni_f, ni_t, nw_nil, nw_cons, ns_0, ns_s])); (try simp only [intsT_frz, frzL_frzL, frz_strs, tls_frz])))
    (repeat (first | (refine Nx.mk ?_; ((try (dsimp only [nr_none, nr_some, nr_nil, nf_leaf, nf_pin, nf_node, nf_nil, nf_cons, ni_f, ni_t, nw_nil, nw_cons, ns_0, ns_s])); (try simp only [intsT_frz, frzL_frzL, frz_strs, tls_frz]))) | (refine And.intro ?_ ?_; focus (first | exact rfl | exact frz_frz _ | exact frz_nf _ _ | exact (show frz _ = _ by assumption) | (show frz _ = _; simp only [nf_node, nf_cons, nf_nil, nf_leaf, frzL_frzL, intsT_frz, frz_strs, tls_frz]; done) | exact frz_ints _ _ | exact Nat.le_of_ble_eq_true rfl | exact (show (0 : Int) < _ by decide) | exact (show (0 : Int) ≤ _ by decide) | exact ⟨show (0 : Int) < _ by decide, show Nat.log2 _ < _ by decide⟩ | exact Or.inl (Or.inr ⟨show (_ : Int) < _ by decide, show (_ : Int) < _ by decide⟩) | exact Or.inl (Or.inl ⟨show (_ : Int) < _ by decide, show (_ : Int) < _ by decide⟩) | exact ⟨show (0 : Int) ≤ _ by decide, show (_ : Int) ≤ _ by decide, show Int.natAbs _ < _ by decide⟩)) | refine Exists.intro _ (Exists.intro _ (And.intro rfl (And.intro rfl ?_))) | refine Exists.intro _ (And.intro (Le.rf _) ?_) | refine Exists.intro _ (And.intro rfl ?_)))
    exact q
end L31
set_option Elab.async false
set_option linter.all false
set_option maxRecDepth 100000
set_option maxHeartbeats 4000000
namespace L31
open PySem L2 DL
theorem ok_telling_key {P : Program} {w : World} {K : PySem.W.Frag} {mg : Str → Option Value} {base : Heap} (T : Txt K mg) : FnG P w K mg base 1 T.a_telling_key T.d_telling_key ["telling"] (spD K mg [false] sp_telling_key) := by
  refine fnD_of2 (N := N_telling_key) (k := 0) T.F_telling_key sc_telling_key rfl fun cdv A outer s H E hr hgd => ⟨t_telling_key, ?_, fun ts Q E hl h => rd_telling_key h⟩
  exact (dss_one (ds_ret (d_tup (da_cons (d_ix (d_var 0 (pv 0)) d_int) (da_cons (d_ix (d_var 0 (pv 0)) d_int) da_nil)))))
theorem ok_by_numbers {P : Program} {w : World} {K : PySem.W.Frag} {mg : Str → Option Value} {base : Heap} (T : Txt K mg) : FnG P w K mg base 1 T.a_by_numbers T.d_by_numbers ["things"] (spD K mg [false] sp_by_numbers) := by
  refine fnD_of2 (N := N_by_numbers) (k := 0) T.F_by_numbers sc_by_numbers rfl fun cdv A outer s H E hr hgd => ⟨t_by_numbers, ?_, fun ts Q E hl h => rd_by_numbers h⟩
  exact (dss_cons (ds_set (i := 1) true (sc_by_numbers).nd rfl (by first | exact Or.inl rfl | exact Or.inr rfl) d_dict0 rfl)
(dss_cons (ds_for (passes_of rfl) rfl (di_seq (d_var 0 (pv 0))) (dg_name false (i := 2) (sc_by_numbers).nd rfl (by first | exact Or.inl rfl | exact Or.inr rfl) rfl)
 (dss_setd (i := 1) (c := 2) (j := 3) dss_nil (u65 hr) (sc_by_numbers).nd rfl (by first | exact Or.inl rfl | exact Or.inr rfl) rfl (pv 1) (d_ix (d_var 2 (pv 2)) d_int) ⟨rfl, rfl, rfl, rfl⟩ (pv 2) (pv 3) (pv 2) (pv 3)))
(dss_one (ds_ret (d_mov 1 (pv 1))))))
theorem ok__law_bag {P : Program} {w : World} {K : PySem.W.Frag} {mg : Str → Option Value} {base : Heap} (T : Txt K mg) : FnG P w K mg base 1 T.a__law_bag T.d__law_bag ["_law_script"] (spD K mg [false] sp__law_bag) := by
  refine fnD_of2 (N := N__law_bag) (k := 0) T.F__law_bag sc__law_bag rfl fun cdv A outer s H E hr hgd => ⟨t__law_bag, ?_, fun ts Q E hl h => rd__law_bag h⟩
  exact (dss_one (ds_ret (d_lst (da_cons d_int (da_cons d_int (da_cons d_int (da_cons (d_lc (own := [("_law_cell", 1)]) rfl (sc__law_bag).nd (di_seq (d_sliceA (d_var 0 (pv 0)) do_none (do_some d_int))) (blkOk_by (N := N__law_bag) (sc := defScope s__law_bag) (by decide +kernel)) (fun _ _ _ _ _ => (dg_name false (i := 1) (sc__law_bag).nd rfl (by first | exact Or.inl rfl | exact Or.inr rfl) rfl)) (fun _ _ _ _ _ => dts_nil) (fun _ _ _ _ _ => (d_callB n_abs (by rfl) T.n_abs bo_abs (da_cons (d_var 1 (pv 1)) da_nil)))) da_nil)))))))
theorem ok__law_take {P : Program} {w : World} {K : PySem.W.Frag} {mg : Str → Option Value} {base : Heap} (T : Txt K mg) : FnG P w K mg base 1 T.a__law_take T.d__law_take ["_law_bag_here", "_law_many"] (spD K mg [true, false] sp__law_take) := by
  refine fnD_of2 (N := N__law_take) (k := 0) T.F__law_take sc__law_take rfl fun cdv A outer s H E hr hgd => ⟨t__law_take, ?_, fun ts Q E hl h => rd__law_take h⟩
  exact (dss_cons (ds_if (dt_eq hr.units (d_ixO 0 (pv 0) d_int) d_int)
 (dss_cons (ds_set (i := 4) false (sc__law_take).nd rfl (by first | exact Or.inl rfl | exact Or.inr rfl) d_int rfl)
(dss_cons (ds_if (dt_lt (d_ixO 0 (pv 0) d_int) (d_callB n_len (by rfl) T.n_len bo_len (da_cons (d_ixO 0 (pv 0) d_int) da_nil)))
 (dss_one (ds_set (i := 4) false (sc__law_take).nd rfl (by first | exact Or.inl rfl | exact Or.inr rfl) (d_ix (d_ixO 0 (pv 0) d_int) (d_ixO 0 (pv 0) d_int)) rfl))
 dss_nil)
(dss_cons (ds_augI 0 (pv 0) d_int d_int iop_add op2_I0)
(dss_cons (ds_if (dt_ge (d_var 4 (pv 4)) d_int)
 (dss_one (ds_asg (d_var 4 (pv 4)) (dg_setI 0 (pv 0) d_int)))
 dss_nil)
(dss_cons (ds_set (i := 5) false (sc__law_take).nd rfl (by first | exact Or.inl rfl | exact Or.inr rfl) (d_add4 (d_add4 (d_mul3 (d_ixO 0 (pv 0) d_int) d_int) (d_mod (d_callTy n_int2 (by rfl) T.n_int bo_int (da_cons (d_var 4 (pv 4)) da_nil)) d_int)) (d_mul3 d_int (d_ixO 0 (pv 0) d_int))) rfl)
(dss_one (ds_asg (d_mod (d_callTy n_int2 (by rfl) T.n_int bo_int (da_cons (d_var 5 (pv 5)) da_nil)) d_int) (dg_setI 0 (pv 0) d_int))))))))
 dss_nil)
(dss_cons (ds_if (dt_gt (d_ixO 0 (pv 0) d_int) d_int)
 (dss_cons (ds_set (i := 6) false (sc__law_take).nd rfl (by first | exact Or.inl rfl | exact Or.inr rfl) (d_mod (d_callTy n_int2 (by rfl) T.n_int bo_int (da_cons (d_ixO 0 (pv 0) d_int) da_nil)) (d_var 1 (pv 1))) rfl)
(dss_cons (ds_asg (d_div (d_callTy n_int2 (by rfl) T.n_int bo_int (da_cons (d_ixO 0 (pv 0) d_int) da_nil)) (d_var 1 (pv 1))) (dg_setI 0 (pv 0) d_int))
(dss_one (ds_ret (d_var 6 (pv 6))))))
 dss_nil)
(dss_cons (ds_set (i := 2) false (sc__law_take).nd rfl (by first | exact Or.inl rfl | exact Or.inr rfl) (d_mod (d_callTy n_int2 (by rfl) T.n_int bo_int (da_cons (d_mul3 (d_add4 (d_ixO 0 (pv 0) d_int) d_int) d_int) da_nil)) d_int) rfl)
(dss_cons (ds_set (i := 3) false (sc__law_take).nd rfl (by first | exact Or.inl rfl | exact Or.inr rfl) (d_mod (d_callTy n_int2 (by rfl) T.n_int bo_int (da_cons (d_mul3 (d_mod (d_callTy n_int2 (by rfl) T.n_int bo_int (da_cons (d_mul3 (d_var 2 (pv 2)) (d_var 2 (pv 2))) da_nil)) d_int) d_int) da_nil)) d_int) rfl)
(dss_one (ds_ret (d_mod (d_callTy n_int2 (by rfl) T.n_int bo_int (da_cons (d_div (d_var 3 (pv 3)) d_int) da_nil)) (d_var 1 (pv 1)))))))))
theorem ok__law_alike {P : Program} {w : World} {K : PySem.W.Frag} {mg : Str → Option Value} {base : Heap} (T : Txt K mg) : FnG P w K mg base 1 T.a__law_alike T.d__law_alike ["_law_found", "_law_due"] (spD K mg [false, false] sp__law_alike) := by
  refine fnD_of2 (N := N__law_alike) (k := 0) T.F__law_alike sc__law_alike rfl fun cdv A outer s H E hr hgd => ⟨t__law_alike, ?_, fun ts Q E hl h => rd__law_alike h⟩
  exact (dss_one (ds_ret (d_and (d_eq hr.units (d_var 0 (pv 0)) (d_var 1 (pv 1))) (d_one (d_eq hr.units (d_callB (n_repr2 hgd hr.units) (by rfl) T.n_repr bo_repr (da_cons (d_var 0 (pv 0)) da_nil)) (d_callB (n_repr2 hgd hr.units) (by rfl) T.n_repr bo_repr (da_cons (d_var 1 (pv 1)) da_nil)))))))
theorem ok__law_kept {P : Program} {w : World} {K : PySem.W.Frag} {mg : Str → Option Value} {base : Heap} (T : Txt K mg) : FnG P w K mg base 1 T.a__law_kept T.d__law_kept ["_law_things", "_law_at"] (spD K mg [false, false] sp__law_kept) := by
  refine fnD_of2 (N := N__law_kept) (k := 0) T.F__law_kept sc__law_kept rfl fun cdv A outer s H E hr hgd => ⟨t__law_kept, ?_, fun ts Q E hl h => rd__law_kept h⟩
  exact (dss_cons (ds_set (i := 2) true (sc__law_kept).nd rfl (by first | exact Or.inl rfl | exact Or.inr rfl) d_dict0 rfl)
(dss_cons (ds_for (passes_of rfl) rfl (di_seq (d_var 0 (pv 0))) (dg_name false (i := 3) (sc__law_kept).nd rfl (by first | exact Or.inl rfl | exact Or.inr rfl) rfl)
 (dss_cons (ds_set (i := 4) false (sc__law_kept).nd rfl (by first | exact Or.inl rfl | exact Or.inr rfl) (d_dget2O 2 (du1 hr.units) (pv 2) (d_ix (d_var 3 (pv 3)) (d_var 1 (pv 1))) (d_lst da_nil) ⟨rfl, rfl, rfl, rfl⟩) rfl)
(dss_one (ds_dput 2 (du1 hr.units) (pv 2) (d_ix (d_var 3 (pv 3)) (d_var 1 (pv 1))) (d_fz (d_add4 (d_var 4 (pv 4)) (d_mul3 (d_lst (da_cons (d_var 3 (pv 3)) da_nil)) (d_callTy n_int2 (by rfl) T.n_int bo_int (da_cons (d_notinL (u65 hr) (by with_unfolding_all rfl) (d_var 3 (pv 3)) (d_var 4 (pv 4))) da_nil)))))))))
(dss_one (ds_ret (d_mov 2 (pv 2))))))
theorem ok__law_by_day {P : Program} {w : World} {K : PySem.W.Frag} {mg : Str → Option Value} {base : Heap} (T : Txt K mg) : FnG P w K mg base 1 T.a__law_by_day T.d__law_by_day ["_law_things", "_law_at"] (spD K mg [false, false] sp__law_by_day) := by
  refine fnD_of2 (N := N__law_by_day) (k := 0) T.F__law_by_day sc__law_by_day rfl fun cdv A outer s H E hr hgd => ⟨t__law_by_day, ?_, fun ts Q E hl h => rd__law_by_day h⟩
  exact (dss_cons (ds_set (i := 2) false (sc__law_by_day).nd rfl (by first | exact Or.inl rfl | exact Or.inr rfl) (d_callB (n_sortedB hr.units) (by rfl) T.n_sorted bo_sorted (da_cons (d_lc (own := [("_law_k", 4), ("_law_thing", 5)]) rfl (sc__law_by_day).nd (di_enum (by rfl) T.n_enumerate (da_cons (d_var 0 (pv 0)) da_nil)) (blkOk_by (N := N__law_by_day) (sc := defScope s__law_by_day) (by decide +kernel)) (fun _ _ _ _ _ => (dg_seq rfl (dgs_cons (dg_name false (i := 4) (sc__law_by_day).nd rfl (by first | exact Or.inl rfl | exact Or.inr rfl) rfl) (dgs_cons (dg_name false (i := 5) (sc__law_by_day).nd rfl (by first | exact Or.inl rfl | exact Or.inr rfl) rfl) dgs_nil)))) (fun _ _ _ _ _ => dts_nil) (fun _ _ _ _ _ => (d_tup (da_cons (d_ix (d_var 5 (pv 5)) (d_var 1 (pv 1))) (da_cons (d_ix (d_var 5 (pv 5)) d_int) (da_cons (d_var 4 (pv 4)) da_nil)))))) da_nil)) rfl)
(dss_one (ds_ret (d_lc (own := [("_law_row", 3)]) rfl (sc__law_by_day).nd (di_seq (d_var 2 (pv 2))) (blkOk_by (N := N__law_by_day) (sc := defScope s__law_by_day) (by decide +kernel)) (fun _ _ _ _ _ => (dg_name false (i := 3) (sc__law_by_day).nd rfl (by first | exact Or.inl rfl | exact Or.inr rfl) rfl)) (fun _ _ _ _ _ => dts_nil) (fun _ _ _ _ _ => (d_ix (d_var 0 (pv 0)) (d_ix (d_var 3 (pv 3)) d_int)))))))
theorem ok_alone {P : Program} {w : World} {K : PySem.W.Frag} {mg : Str → Option Value} {base : Heap} (T : Txt K mg) : FnG P w K mg base 2 T.a_alone T.d_alone ["things"] (spD K mg [false] sp_alone) := by
  refine fnD_of2 (N := N_alone) (k := 1) T.F_alone sc_alone rfl fun cdv A outer s H E hr hgd => ⟨t_alone, ?_, fun ts Q E hl h => rd_alone h⟩
  exact (dss_one (ds_ret (d_lc (own := [("some", 1)]) rfl (sc_alone).nd (di_values (d_call (ok_by_numbers T) mono_by_numbers hr hgd (by rfl) T.g_by_numbers T.F_by_numbers.kp T.b_by_numbers (takesN (takes_of rfl rfl rfl rfl)) (da_cons (d_var 0 (pv 0)) da_nil))) (blkOk_by (N := N_alone) (sc := defScope s_alone) (by decide +kernel)) (fun _ _ _ _ _ => (dg_name false (i := 1) (sc_alone).nd rfl (by first | exact Or.inl rfl | exact Or.inr rfl) rfl)) (fun _ _ _ _ _ => (dts_one (dt_eq hr.units (d_callB n_len (by rfl) T.n_len bo_len (da_cons (d_var 1 (pv 1)) da_nil)) d_int))) (fun _ _ _ _ _ => (d_ix (d_var 1 (pv 1)) d_int)))))
theorem ok_clashing {P : Program} {w : World} {K : PySem.W.Frag} {mg : Str → Option Value} {base : Heap} (T : Txt K mg) : FnG P w K mg base 2 T.a_clashing T.d_clashing ["tellings"] (spD K mg [false] sp_clashing) := by
  refine fnD_of2 (N := N_clashing) (k := 1) T.F_clashing sc_clashing rfl fun cdv A outer s H E hr hgd => ⟨t_clashing, ?_, fun ts Q E hl h => rd_clashing h⟩
  exact (dss_one (ds_ret (d_callB n_sortedI (by rfl) T.n_sorted bo_sorted (da_cons (d_lc (own := [("number", 1), ("some", 2)]) rfl (sc_clashing).nd (di_items (d_call (ok_by_numbers T) mono_by_numbers hr hgd (by rfl) T.g_by_numbers T.F_by_numbers.kp T.b_by_numbers (takesN (takes_of rfl rfl rfl rfl)) (da_cons (d_var 0 (pv 0)) da_nil))) (blkOk_by (N := N_clashing) (sc := defScope s_clashing) (by decide +kernel)) (fun _ _ _ _ _ => (dg_seq rfl (dgs_cons (dg_name false (i := 1) (sc_clashing).nd rfl (by first | exact Or.inl rfl | exact Or.inr rfl) rfl) (dgs_cons (dg_name false (i := 2) (sc_clashing).nd rfl (by first | exact Or.inl rfl | exact Or.inr rfl) rfl) dgs_nil)))) (fun _ _ _ _ _ => (dts_one (dt_gt (d_callB n_len (by rfl) T.n_len bo_len (da_cons (d_var 2 (pv 2)) da_nil)) d_int))) (fun _ _ _ _ _ => (d_var 1 (pv 1)))) da_nil))))
theorem ok__law_one {P : Program} {w : World} {K : PySem.W.Frag} {mg : Str → Option Value} {base : Heap} (T : Txt K mg) : FnG P w K mg base 2 T.a__law_one T.d__law_one ["_law_bag_here", "_law_some"] (spD K mg [true, false] sp__law_one) := by
  refine fnD_of2 (N := N__law_one) (k := 1) T.F__law_one sc__law_one rfl fun cdv A outer s H E hr hgd => ⟨t__law_one, ?_, fun ts Q E hl h => rd__law_one h⟩
  exact (dss_one (ds_ret (d_ix (d_var 1 (pv 1)) (d_call (ok__law_take T) mono__law_take hr hgd (by rfl) T.g__law_take T.F__law_take.kp T.b__law_take (takesN (takes_of rfl rfl rfl rfl)) (da_late 0 (pv 0) (da_cons (d_callB n_len (by rfl) T.n_len bo_len (da_cons (d_var 1 (pv 1)) da_nil)) da_nil))))))
theorem ok__law_mixed {P : Program} {w : World} {K : PySem.W.Frag} {mg : Str → Option Value} {base : Heap} (T : Txt K mg) : FnG P w K mg base 2 T.a__law_mixed T.d__law_mixed ["_law_bag_here", "_law_things"] (spD K mg [true, false] sp__law_mixed) := by
  refine fnD_of2 (N := N__law_mixed) (k := 1) T.F__law_mixed sc__law_mixed rfl fun cdv A outer s H E hr hgd => ⟨t__law_mixed, ?_, fun ts Q E hl h => rd__law_mixed h⟩
  exact (dss_cons (ds_set (i := 2) true (sc__law_mixed).nd rfl (by first | exact Or.inl rfl | exact Or.inr rfl) (d_lst da_nil) rfl)
(dss_cons (ds_for (passes_of rfl) rfl (di_seq (d_var 1 (pv 1))) (dg_name false (i := 3) (sc__law_mixed).nd rfl (by first | exact Or.inl rfl | exact Or.inr rfl) rfl)
 (dss_one (ds_expr (d_ins 2 (pv 2) (d_call (ok__law_take T) mono__law_take hr hgd (by rfl) T.g__law_take T.F__law_take.kp T.b__law_take (takesN (takes_of rfl rfl rfl rfl)) (da_late 0 (pv 0) (da_cons (d_bor (d_add4 (d_callB n_len (by rfl) T.n_len bo_len (da_cons (d_var 2 (pv 2)) da_nil)) d_int)) da_nil))) (d_var 3 (pv 3))))))
(dss_one (ds_ret (d_mov 2 (pv 2))))))
theorem ok__law_day {P : Program} {w : World} {K : PySem.W.Frag} {mg : Str → Option Value} {base : Heap} (T : Txt K mg) : FnG P w K mg base 2 T.a__law_day T.d__law_day ["_law_bag_here"] (spD K mg [true] sp__law_day) := by
  refine fnD_of2 (N := N__law_day) (k := 1) T.F__law_day sc__law_day rfl fun cdv A outer s H E hr hgd => ⟨t__law_day, ?_, fun ts Q E hl h => rd__law_day h⟩
  exact (dss_cons (ds_set (i := 1) false (sc__law_day).nd rfl (by first | exact Or.inl rfl | exact Or.inr rfl) (d_call (ok__law_take T) mono__law_take hr hgd (by rfl) T.g__law_take T.F__law_take.kp T.b__law_take (takesN (takes_of rfl rfl rfl rfl)) (da_late 0 (pv 0) (da_cons d_int da_nil))) rfl)
(dss_cons (ds_if (dt_eq hr.units (d_var 1 (pv 1)) d_int)
 (dss_one (ds_ret (d_sub (d_pow d_int d_int) (d_call (ok__law_take T) mono__law_take hr hgd (by rfl) T.g__law_take T.F__law_take.kp T.b__law_take (takesN (takes_of rfl rfl rfl rfl)) (da_late 0 (pv 0) (da_cons d_int da_nil))))))
 dss_nil)
(dss_one (ds_ret (d_call (ok__law_take T) mono__law_take hr hgd (by rfl) T.g__law_take T.F__law_take.kp T.b__law_take (takesN (takes_of rfl rfl rfl rfl)) (da_late 0 (pv 0) (da_cons d_int da_nil)))))))
theorem ok__law_number {P : Program} {w : World} {K : PySem.W.Frag} {mg : Str → Option Value} {base : Heap} (T : Txt K mg) : FnG P w K mg base 2 T.a__law_number T.d__law_number ["_law_bag_here", "_law_k"] (spD K mg [true, false] sp__law_number) := by
  refine fnD_of2 (N := N__law_number) (k := 1) T.F__law_number sc__law_number rfl fun cdv A outer s H E hr hgd => ⟨t__law_number, ?_, fun ts Q E hl h => rd__law_number h⟩
  exact (dss_one (ds_ret (d_ix (d_lst (da_cons (d_var 1 (pv 1)) (da_cons (d_var 1 (pv 1)) (da_cons (d_var 1 (pv 1)) (da_cons (d_var 1 (pv 1)) (da_cons (d_call (ok__law_take T) mono__law_take hr hgd (by rfl) T.g__law_take T.F__law_take.kp T.b__law_take (takesN (takes_of rfl rfl rfl rfl)) (da_late 0 (pv 0) (da_cons (d_add4 (d_var 1 (pv 1)) d_int) da_nil))) (da_cons (d_sub (d_pow d_int d_int) (d_call (ok__law_take T) mono__law_take hr hgd (by rfl) T.g__law_take T.F__law_take.kp T.b__law_take (takesN (takes_of rfl rfl rfl rfl)) (da_late 0 (pv 0) (da_cons d_int da_nil)))) da_nil))))))) (d_call (ok__law_take T) mono__law_take hr hgd (by rfl) T.g__law_take T.F__law_take.kp T.b__law_take (takesN (takes_of rfl rfl rfl rfl)) (da_late 0 (pv 0) (da_cons d_int da_nil))))))
theorem ok__law_alone {P : Program} {w : World} {K : PySem.W.Frag} {mg : Str → Option Value} {base : Heap} (T : Txt K mg) : FnG P w K mg base 2 T.a__law_alone T.d__law_alone ["_law_things", "_law_at"] (spD K mg [false, false] sp__law_alone) := by
  refine fnD_of2 (N := N__law_alone) (k := 1) T.F__law_alone sc__law_alone rfl fun cdv A outer s H E hr hgd => ⟨t__law_alone, ?_, fun ts Q E hl h => rd__law_alone h⟩
  exact (dss_cons (ds_set (i := 2) false (sc__law_alone).nd rfl (by first | exact Or.inl rfl | exact Or.inr rfl) (d_call (ok__law_kept T) mono__law_kept hr hgd (by rfl) T.g__law_kept T.F__law_kept.kp T.b__law_kept (takesN (takes_of rfl rfl rfl rfl)) (da_cons (d_var 0 (pv 0)) (da_cons (d_var 1 (pv 1)) da_nil))) rfl)
(dss_one (ds_ret (d_lc (own := [("_law_number_here", 3)]) rfl (sc__law_alone).nd (di_seq (d_sortKI rfl hr.units (by rfl) T.n_sorted (d_var 2 (pv 2)))) (blkOk_by (N := N__law_alone) (sc := defScope s__law_alone) (by decide +kernel)) (fun _ _ _ _ _ => (dg_name false (i := 3) (sc__law_alone).nd rfl (by first | exact Or.inl rfl | exact Or.inr rfl) rfl)) (fun _ _ _ _ _ => (dts_one (dt_eq hr.units (d_callB n_len (by rfl) T.n_len bo_len (da_cons (d_dget (du1 hr.units) (d_var 2 (pv 2)) (d_var 3 (pv 3))) da_nil)) d_int))) (fun _ _ _ _ _ => (d_ix (d_dget (du1 hr.units) (d_var 2 (pv 2)) (d_var 3 (pv 3))) d_int))))))
theorem ok__law_clashing {P : Program} {w : World} {K : PySem.W.Frag} {mg : Str → Option Value} {base : Heap} (T : Txt K mg) : FnG P w K mg base 2 T.a__law_clashing T.d__law_clashing ["_law_things", "_law_at"] (spD K mg [false, false] sp__law_clashing) := by
  refine fnD_of2 (N := N__law_clashing) (k := 1) T.F__law_clashing sc__law_clashing rfl fun cdv A outer s H E hr hgd => ⟨t__law_clashing, ?_, fun ts Q E hl h => rd__law_clashing h⟩
  exact (dss_cons (ds_set (i := 2) false (sc__law_clashing).nd rfl (by first | exact Or.inl rfl | exact Or.inr rfl) (d_call (ok__law_kept T) mono__law_kept hr hgd (by rfl) T.g__law_kept T.F__law_kept.kp T.b__law_kept (takesN (takes_of rfl rfl rfl rfl)) (da_cons (d_var 0 (pv 0)) (da_cons (d_var 1 (pv 1)) da_nil))) rfl)
(dss_one (ds_ret (d_lc (own := [("_law_number_here", 3)]) rfl (sc__law_clashing).nd (di_seq (d_sortKI rfl hr.units (by rfl) T.n_sorted (d_var 2 (pv 2)))) (blkOk_by (N := N__law_clashing) (sc := defScope s__law_clashing) (by decide +kernel)) (fun _ _ _ _ _ => (dg_name false (i := 3) (sc__law_clashing).nd rfl (by first | exact Or.inl rfl | exact Or.inr rfl) rfl)) (fun _ _ _ _ _ => (dts_one (dt_gt (d_callB n_len (by rfl) T.n_len bo_len (da_cons (d_dget (du1 hr.units) (d_var 2 (pv 2)) (d_var 3 (pv 3))) da_nil)) d_int))) (fun _ _ _ _ _ => (d_var 3 (pv 3)))))))
theorem ok__law_voters {P : Program} {w : World} {K : PySem.W.Frag} {mg : Str → Option Value} {base : Heap} (T : Txt K mg) : FnG P w K mg base 3 T.a__law_voters T.d__law_voters ["_law_bag_here", "_law_many"] (spD K mg [true, false] sp__law_voters) := by
  refine fnD_of2 (N := N__law_voters) (k := 2) T.F__law_voters sc__law_voters rfl fun cdv A outer s H E hr hgd => ⟨t__law_voters, ?_, fun ts Q E hl h => rd__law_voters h⟩
  exact (dss_cons (ds_set (i := 2) false (sc__law_voters).nd rfl (by first | exact Or.inl rfl | exact Or.inr rfl) (d_lst (da_cons d_str (da_cons d_str (da_cons d_str (da_cons d_str (da_cons d_str (da_cons d_str (da_cons d_str (da_cons d_str (da_cons d_str (da_cons d_str (da_cons d_str (da_cons d_str (da_cons d_str da_nil)))))))))))))) rfl)
(dss_one (ds_ret (d_sliceA (d_call (ok__law_mixed T) mono__law_mixed hr hgd (by rfl) T.g__law_mixed T.F__law_mixed.kp T.b__law_mixed (takesN (takes_of rfl rfl rfl rfl)) (da_late 0 (pv 0) (da_cons (d_var 2 (pv 2)) da_nil))) do_none (do_some (d_var 1 (pv 1)))))))
theorem ok__law_telling {P : Program} {w : World} {K : PySem.W.Frag} {mg : Str → Option Value} {base : Heap} (T : Txt K mg) : FnG P w K mg base 3 T.a__law_telling T.d__law_telling ["_law_bag_here", "_law_number_here", "_law_voters_here", "_law_areas"] (spD K mg [true, false, false, false] sp__law_telling) := by
  refine fnD_of2 (N := N__law_telling) (k := 2) T.F__law_telling sc__law_telling rfl fun cdv A outer s H E hr hgd => ⟨t__law_telling, ?_, fun ts Q E hl h => rd__law_telling h⟩
  exact (dss_cons (ds_par (i := 4) (j := 5) rfl (sc__law_telling).nd rfl rfl (by decide) rfl rfl rfl rfl (da_cons (d_call (ok__law_one T) mono__law_one hr hgd (by rfl) T.g__law_one T.F__law_one.kp T.b__law_one (takesN (takes_of rfl rfl rfl rfl)) (da_late 0 (pv 0) (da_cons (d_lst (da_cons d_str (da_cons d_str (da_cons d_str (da_cons d_str (da_cons d_str (da_cons d_str da_nil))))))) da_nil))) (da_cons d_non da_nil)) (by rfl))
(dss_cons (ds_if (dt_eq hr.units (d_var 4 (pv 4)) d_str)
 (dss_one (ds_set (i := 5) false (sc__law_telling).nd rfl (by first | exact Or.inl rfl | exact Or.inr rfl) (d_call ((ok__law_take T).mono (by decide)) mono__law_take hr hgd (by rfl) T.g__law_take T.F__law_take.kp T.b__law_take (takesN (takes_of rfl rfl rfl rfl)) (da_late 0 (pv 0) (da_cons (d_var 3 (pv 3)) da_nil))) rfl))
 dss_nil)
(dss_one (ds_ret (d_tup (da_cons (d_var 1 (pv 1)) (da_cons (d_call (ok__law_day T) mono__law_day hr hgd (by rfl) T.g__law_day T.F__law_day.kp T.b__law_day (takesN (takes_of rfl rfl rfl rfl)) (da_late 0 (pv 0) da_nil)) (da_cons (d_call (ok__law_one T) mono__law_one hr hgd (by rfl) T.g__law_one T.F__law_one.kp T.b__law_one (takesN (takes_of rfl rfl rfl rfl)) (da_late 0 (pv 0) (da_cons (d_var 2 (pv 2)) da_nil))) (da_cons (d_var 4 (pv 4)) (da_cons (d_var 5 (pv 5)) da_nil))))))))))
theorem ok__law_stand {P : Program} {w : World} {K : PySem.W.Frag} {mg : Str → Option Value} {base : Heap} (T : Txt K mg) : FnG P w K mg base 3 T.a__law_stand T.d__law_stand ["_law_tellings_here"] (spD K mg [false] sp__law_stand) := by
  refine fnD_of2 (N := N__law_stand) (k := 2) T.F__law_stand sc__law_stand rfl fun cdv A outer s H E hr hgd => ⟨t__law_stand, ?_, fun ts Q E hl h => rd__law_stand h⟩
  exact (dss_one (ds_ret (d_call ((ok__law_by_day T).mono (by decide)) mono__law_by_day hr hgd (by rfl) T.g__law_by_day T.F__law_by_day.kp T.b__law_by_day (takesN (takes_of rfl rfl rfl rfl)) (da_cons (d_call (ok__law_alone T) mono__law_alone hr hgd (by rfl) T.g__law_alone T.F__law_alone.kp T.b__law_alone (takesN (takes_of rfl rfl rfl rfl)) (da_cons (d_var 0 (pv 0)) (da_cons d_int da_nil))) (da_cons d_int da_nil)))))
theorem ok_standing {P : Program} {w : World} {K : PySem.W.Frag} {mg : Str → Option Value} {base : Heap} (T : Txt K mg) : FnG P w K mg base 4 T.a_standing T.d_standing ["tellings"] (spD K mg [false] sp_standing) := by
  refine fnD_of2 (N := N_standing) (k := 3) T.F_standing sc_standing rfl fun cdv A outer s H E hr hgd => ⟨t_standing, ?_, fun ts Q E hl h => rd_standing h⟩
  exact (dss_one (ds_ret (d_sortKey (k := 1) ((ok_telling_key T).mono (by decide)) mono_telling_key hr hgd T.b_telling_key (by rfl) T.n_sorted (by rfl) T.g_telling_key (d_call ((ok_alone T).mono (by decide)) mono_alone hr hgd (by rfl) T.g_alone T.F_alone.kp T.b_alone (takesN (takes_of rfl rfl rfl rfl)) (da_cons (d_var 0 (pv 0)) da_nil)))))
theorem ok__law_tellings {P : Program} {w : World} {K : PySem.W.Frag} {mg : Str → Option Value} {base : Heap} (T : Txt K mg) : FnG P w K mg base 4 T.a__law_tellings T.d__law_tellings ["_law_bag_here", "_law_voters_here", "_law_areas", "_law_many"] (spD K mg [true, false, false, false] sp__law_tellings) := by
  refine fnD_of2 (N := N__law_tellings) (k := 3) T.F__law_tellings sc__law_tellings rfl fun cdv A outer s H E hr hgd => ⟨t__law_tellings, ?_, fun ts Q E hl h => rd__law_tellings h⟩
  exact (dss_cons (ds_set (i := 4) true (sc__law_tellings).nd rfl (by first | exact Or.inl rfl | exact Or.inr rfl) (d_lst da_nil) rfl)
(dss_cons (ds_for (passes_of rfl) rfl (di_range1 (by rfl) T.n_range (da_cons (d_var 3 (pv 3)) da_nil)) (dg_name false (i := 5) (sc__law_tellings).nd rfl (by first | exact Or.inl rfl | exact Or.inr rfl) rfl)
 (dss_cons (ds_expr (d_app 4 (pv 4) (d_call (ok__law_telling T) mono__law_telling hr hgd (by rfl) T.g__law_telling T.F__law_telling.kp T.b__law_telling (takesN (takes_of rfl rfl rfl rfl)) (da_late 0 (pv 0) (da_cons (d_call ((ok__law_number T).mono (by decide)) mono__law_number hr hgd (by rfl) T.g__law_number T.F__law_number.kp T.b__law_number (takesN (takes_of rfl rfl rfl rfl)) (da_late 0 (pv 0) (da_cons (d_var 5 (pv 5)) da_nil))) (da_cons (d_var 1 (pv 1)) (da_cons (d_var 2 (pv 2)) da_nil)))))))
(dss_one (ds_if (dt_eq hr.units (d_call ((ok__law_take T).mono (by decide)) mono__law_take hr hgd (by rfl) T.g__law_take T.F__law_take.kp T.b__law_take (takesN (takes_of rfl rfl rfl rfl)) (da_late 0 (pv 0) (da_cons d_int da_nil))) d_int)
 (dss_one (ds_expr (d_app 4 (pv 4) (d_ixO 4 (pv 4) (d_call ((ok__law_take T).mono (by decide)) mono__law_take hr hgd (by rfl) T.g__law_take T.F__law_take.kp T.b__law_take (takesN (takes_of rfl rfl rfl rfl)) (da_late 0 (pv 0) (da_cons (d_bor (d_callB n_len (by rfl) T.n_len bo_len (da_cons (d_var 4 (pv 4)) da_nil))) da_nil)))))))
 dss_nil))))
(dss_one (ds_ret (d_call ((ok__law_mixed T).mono (by decide)) mono__law_mixed hr hgd (by rfl) T.g__law_mixed T.F__law_mixed.kp T.b__law_mixed (takesN (takes_of rfl rfl rfl rfl)) (da_late 0 (pv 0) (da_cons (d_frz 4 (pv 4)) da_nil)))))))
theorem ok_law {P : Program} {w : World} {K : PySem.W.Frag} {mg : Str → Option Value} {base : Heap} (T : Txt K mg) : FnG P w K mg base 5 T.a_law T.d_law ["_law_script"] (spD K mg [false] sp_law) := by
  refine fnD_of2 (N := N_law) (k := 4) T.F_law sc_law rfl fun cdv A outer s H E hr hgd => ⟨t_law, ?_, fun ts Q E hl h => rd_law h⟩
  exact (dss_cons (ds_set (i := 1) true (sc_law).nd rfl (by first | exact Or.inl rfl | exact Or.inr rfl) (d_call ((ok__law_bag T).mono (by decide)) mono__law_bag hr hgd (by rfl) T.g__law_bag T.F__law_bag.kp T.b__law_bag (takesN (takes_of rfl rfl rfl rfl)) (da_cons (d_var 0 (pv 0)) da_nil)) rfl)
(dss_cons (ds_if ((dw_or (dt_ne hr.units (d_call (ok_standing T) mono_standing hr hgd (by rfl) T.g_standing T.F_standing.kp T.b_standing (takesN (takes_of rfl rfl rfl rfl)) (da_cons (d_lst da_nil) da_nil)) (d_lst da_nil)) (dw_or1 (dt_ne hr.units (d_call ((ok_clashing T).mono (by decide)) mono_clashing hr hgd (by rfl) T.g_clashing T.F_clashing.kp T.b_clashing (takesN (takes_of rfl rfl rfl rfl)) (da_cons (d_lst da_nil) da_nil)) (d_lst da_nil))))).dt
 (dss_one (ds_ret d_bl))
 dss_nil)
(dss_cons (ds_for (passes_of rfl) rfl (di_range1 (by rfl) T.n_range (da_cons d_int da_nil)) (dg_name false (i := 2) (sc_law).nd rfl (by first | exact Or.inl rfl | exact Or.inr rfl) rfl)
 (dss_cons (ds_set (i := 3) false (sc_law).nd rfl (by first | exact Or.inl rfl | exact Or.inr rfl) (d_call ((ok__law_voters T).mono (by decide)) mono__law_voters hr hgd (by rfl) T.g__law_voters T.F__law_voters.kp T.b__law_voters (takesN (takes_of rfl rfl rfl rfl)) (da_late 1 (pv 1) (da_cons (d_add4 d_int (d_call ((ok__law_take T).mono (by decide)) mono__law_take hr hgd (by rfl) T.g__law_take T.F__law_take.kp T.b__law_take (takesN (takes_of rfl rfl rfl rfl)) (da_late 1 (pv 1) (da_cons d_int da_nil)))) da_nil))) rfl)
(dss_cons (ds_set (i := 4) false (sc_law).nd rfl (by first | exact Or.inl rfl | exact Or.inr rfl) (d_ite ((dw_and (dt_eq hr.units (d_var 2 (pv 2)) d_int) (dw_and1 (dt_eq hr.units (d_call ((ok__law_take T).mono (by decide)) mono__law_take hr hgd (by rfl) T.g__law_take T.F__law_take.kp T.b__law_take (takesN (takes_of rfl rfl rfl rfl)) (da_late 1 (pv 1) (da_cons d_int da_nil))) d_int)))).dt d_int (d_call ((ok__law_take T).mono (by decide)) mono__law_take hr hgd (by rfl) T.g__law_take T.F__law_take.kp T.b__law_take (takesN (takes_of rfl rfl rfl rfl)) (da_late 1 (pv 1) (da_cons d_int da_nil)))) rfl)
(dss_cons (ds_set (i := 5) false (sc_law).nd rfl (by first | exact Or.inl rfl | exact Or.inr rfl) (d_call (ok__law_tellings T) mono__law_tellings hr hgd (by rfl) T.g__law_tellings T.F__law_tellings.kp T.b__law_tellings (takesN (takes_of rfl rfl rfl rfl)) (da_late 1 (pv 1) (da_cons (d_var 3 (pv 3)) (da_cons (d_add4 d_int (d_call ((ok__law_take T).mono (by decide)) mono__law_take hr hgd (by rfl) T.g__law_take T.F__law_take.kp T.b__law_take (takesN (takes_of rfl rfl rfl rfl)) (da_late 1 (pv 1) (da_cons d_int da_nil)))) (da_cons (d_var 4 (pv 4)) da_nil))))) rfl)
(dss_cons (ds_par (i := 6) (j := 7) rfl (sc_law).nd rfl rfl (by decide) rfl rfl rfl rfl (da_cons (d_callB (n_repr2 hgd hr.units) (by rfl) T.n_repr bo_repr (da_cons (d_var 5 (pv 5)) da_nil)) (da_cons (d_lst (da_cons (d_call ((ok__law_stand T).mono (by decide)) mono__law_stand hr hgd (by rfl) T.g__law_stand T.F__law_stand.kp T.b__law_stand (takesN (takes_of rfl rfl rfl rfl)) (da_cons (d_var 5 (pv 5)) da_nil)) (da_cons (d_call ((ok__law_clashing T).mono (by decide)) mono__law_clashing hr hgd (by rfl) T.g__law_clashing T.F__law_clashing.kp T.b__law_clashing (takesN (takes_of rfl rfl rfl rfl)) (da_cons (d_var 5 (pv 5)) (da_cons d_int da_nil))) da_nil))) da_nil)) (by rfl))
(dss_cons (ds_for (passes_of rfl) rfl (di_seq (d_tup (da_cons (d_var 5 (pv 5)) (da_cons (d_rev (d_var 5 (pv 5))) (da_cons (d_call ((ok__law_mixed T).mono (by decide)) mono__law_mixed hr hgd (by rfl) T.g__law_mixed T.F__law_mixed.kp T.b__law_mixed (takesN (takes_of rfl rfl rfl rfl)) (da_late 1 (pv 1) (da_cons (d_add4 (d_var 5 (pv 5)) (d_var 5 (pv 5))) da_nil))) (da_cons (d_add4 (d_var 5 (pv 5)) (d_sliceA (d_var 5 (pv 5)) do_none (do_some d_int))) da_nil)))))) (dg_name false (i := 8) (sc_law).nd rfl (by first | exact Or.inl rfl | exact Or.inr rfl) rfl)
 (dss_cons (ds_set (i := 9) true (sc_law).nd rfl (by first | exact Or.inl rfl | exact Or.inr rfl) (d_lst (da_cons (d_call (ok_standing T) mono_standing hr hgd (by rfl) T.g_standing T.F_standing.kp T.b_standing (takesN (takes_of rfl rfl rfl rfl)) (da_cons (d_var 8 (pv 8)) da_nil)) (da_cons (d_call ((ok_clashing T).mono (by decide)) mono_clashing hr hgd (by rfl) T.g_clashing T.F_clashing.kp T.b_clashing (takesN (takes_of rfl rfl rfl rfl)) (da_cons (d_var 8 (pv 8)) da_nil)) da_nil))) rfl)
(dss_cons (ds_if (dt_bor (dt_not (dt_truth (d_call ((ok__law_alike T).mono (by decide)) mono__law_alike hr hgd (by rfl) T.g__law_alike T.F__law_alike.kp T.b__law_alike (takesN (takes_of rfl rfl rfl rfl)) (da_cons (d_var 9 (pv 9)) (da_cons (d_var 7 (pv 7)) da_nil))))))
 (dss_one (ds_ret d_bl))
 dss_nil)
(dss_cons (ds_expr (d_appI 9 (pv 9) d_int d_non))
(dss_one (ds_expr (d_appI 9 (pv 9) d_int d_non)))))))
(dss_one (ds_if ((dw_or (dt_ne hr.units (d_callB (n_repr2 hgd hr.units) (by rfl) T.n_repr bo_repr (da_cons (d_var 5 (pv 5)) da_nil)) (d_var 6 (pv 6))) (dw_or1 (dt_not (dt_truth (d_call ((ok__law_alike T).mono (by decide)) mono__law_alike hr hgd (by rfl) T.g__law_alike T.F__law_alike.kp T.b__law_alike (takesN (takes_of rfl rfl rfl rfl)) (da_cons (d_lst (da_cons (d_call (ok_standing T) mono_standing hr hgd (by rfl) T.g_standing T.F_standing.kp T.b_standing (takesN (takes_of rfl rfl rfl rfl)) (da_cons (d_var 5 (pv 5)) da_nil)) (da_cons (d_call ((ok_clashing T).mono (by decide)) mono_clashing hr hgd (by rfl) T.g_clashing T.F_clashing.kp T.b_clashing (takesN (takes_of rfl rfl rfl rfl)) (da_cons (d_var 5 (pv 5)) da_nil)) da_nil))) (da_cons (d_var 7 (pv 7)) da_nil)))))))).dt
 (dss_one (ds_ret d_bl))
 dss_nil))))))))
(dss_one (ds_ret d_bl)))))
theorem all_mk {l : PySem.W.OpenLaw} {w : World} {K : PySem.W.Frag} {h : Heap} {mg : Str → Option Value} {fa f0 f1 f2 f3 f4 f5 f6 f7 f8 f9 f10 f11 f12 f13 f14 f15 f16 f17 f18 f19 f20 : Addr} (X : K.In h) (G : h.Ns mainGlobals mg) (hfa : mg "law" = some (.ref fa))
    {od0 an0 od1 an1 od2 an2 od3 an3 od4 an4 od5 an5 od6 an6 od7 an7 od8 an8 od9 an9 od10 an10 od11 an11 od12 an12 od13 an13 od14 an14 od15 an15 od16 an16 od17 an17 od18 an18 od19 an19 od20 an20 : Option Addr} {sl0 sl1 sl2 sl3 sl4 sl5 sl6 sl7 sl8 sl9 sl10 sl11 sl12 sl13 sl14 sl15 sl16 sl17 sl18 sl19 sl20 : Array (Option Value)} {oc0 kV0 dc0 pm0 cd0 ct0 oc1 kV1 dc1 pm1 cd1 ct1 oc2 kV2 dc2 pm2 cd2 ct2 oc3 kV3 dc3 pm3 cd3 ct3 oc4 kV4 dc4 pm4 cd4 ct4 oc5 kV5 dc5 pm5 cd5 ct5 oc6 kV6 dc6 pm6 cd6 ct6 oc7 kV7 dc7 pm7 cd7 ct7 oc8 kV8 dc8 pm8 cd8 ct8 oc9 kV9 dc9 pm9 cd9 ct9 oc10 kV10 dc10 pm10 cd10 ct10 oc11 kV11 dc11 pm11 cd11 ct11 oc12 kV12 dc12 pm12 cd12 ct12 oc13 kV13 dc13 pm13 cd13 ct13 oc14 kV14 dc14 pm14 cd14 ct14 oc15 kV15 dc15 pm15 cd15 ct15 oc16 kV16 dc16 pm16 cd16 ct16 oc17 kV17 dc17 pm17 cd17 ct17 oc18 kV18 dc18 pm18 cd18 ct18 oc19 kV19 dc19 pm19 cd19 ct19 oc20 kV20 dc20 pm20 cd20 ct20 : Value}
    (a0 : PySem.W.nsIn K mainGlobals "telling_key" = some (some (.ref f0))) (l0 : K.lookup f0 = some ⟨oc0, od0, .func (PySem.W.fnOf "telling_key" "telling_key" (defArgs s_telling_key) (defBody s_telling_key) (defScope s_telling_key) .none kV0 dc0 pm0 an0 cd0 ct0), sl0⟩) (c0 : PySem.W.codeIn K cd0 "telling_key" = true) (k0 : PySem.W.keepIn K (.ref f0) = true)
    (a1 : PySem.W.nsIn K mainGlobals "by_numbers" = some (some (.ref f1))) (l1 : K.lookup f1 = some ⟨oc1, od1, .func (PySem.W.fnOf "by_numbers" "by_numbers" (defArgs s_by_numbers) (defBody s_by_numbers) (defScope s_by_numbers) .none kV1 dc1 pm1 an1 cd1 ct1), sl1⟩) (c1 : PySem.W.codeIn K cd1 "by_numbers" = true) (k1 : PySem.W.keepIn K (.ref f1) = true)
    (a2 : PySem.W.nsIn K mainGlobals "alone" = some (some (.ref f2))) (l2 : K.lookup f2 = some ⟨oc2, od2, .func (PySem.W.fnOf "alone" "alone" (defArgs s_alone) (defBody s_alone) (defScope s_alone) .none kV2 dc2 pm2 an2 cd2 ct2), sl2⟩) (c2 : PySem.W.codeIn K cd2 "alone" = true) (k2 : PySem.W.keepIn K (.ref f2) = true)
    (a3 : PySem.W.nsIn K mainGlobals "standing" = some (some (.ref f3))) (l3 : K.lookup f3 = some ⟨oc3, od3, .func (PySem.W.fnOf "standing" "standing" (defArgs s_standing) (defBody s_standing) (defScope s_standing) .none kV3 dc3 pm3 an3 cd3 ct3), sl3⟩) (c3 : PySem.W.codeIn K cd3 "standing" = true) (k3 : PySem.W.keepIn K (.ref f3) = true)
    (a4 : PySem.W.nsIn K mainGlobals "clashing" = some (some (.ref f4))) (l4 : K.lookup f4 = some ⟨oc4, od4, .func (PySem.W.fnOf "clashing" "clashing" (defArgs s_clashing) (defBody s_clashing) (defScope s_clashing) .none kV4 dc4 pm4 an4 cd4 ct4), sl4⟩) (c4 : PySem.W.codeIn K cd4 "clashing" = true) (k4 : PySem.W.keepIn K (.ref f4) = true)
    (a5 : PySem.W.nsIn K mainGlobals "_law_bag" = some (some (.ref f5))) (l5 : K.lookup f5 = some ⟨oc5, od5, .func (PySem.W.fnOf "_law_bag" "_law_bag" (defArgs s__law_bag) (defBody s__law_bag) (defScope s__law_bag) .none kV5 dc5 pm5 an5 cd5 ct5), sl5⟩) (c5 : PySem.W.codeIn K cd5 "_law_bag" = true) (k5 : PySem.W.keepIn K (.ref f5) = true)
    (a6 : PySem.W.nsIn K mainGlobals "_law_take" = some (some (.ref f6))) (l6 : K.lookup f6 = some ⟨oc6, od6, .func (PySem.W.fnOf "_law_take" "_law_take" (defArgs s__law_take) (defBody s__law_take) (defScope s__law_take) .none kV6 dc6 pm6 an6 cd6 ct6), sl6⟩) (c6 : PySem.W.codeIn K cd6 "_law_take" = true) (k6 : PySem.W.keepIn K (.ref f6) = true)
    (a7 : PySem.W.nsIn K mainGlobals "_law_one" = some (some (.ref f7))) (l7 : K.lookup f7 = some ⟨oc7, od7, .func (PySem.W.fnOf "_law_one" "_law_one" (defArgs s__law_one) (defBody s__law_one) (defScope s__law_one) .none kV7 dc7 pm7 an7 cd7 ct7), sl7⟩) (c7 : PySem.W.codeIn K cd7 "_law_one" = true) (k7 : PySem.W.keepIn K (.ref f7) = true)
    (a8 : PySem.W.nsIn K mainGlobals "_law_mixed" = some (some (.ref f8))) (l8 : K.lookup f8 = some ⟨oc8, od8, .func (PySem.W.fnOf "_law_mixed" "_law_mixed" (defArgs s__law_mixed) (defBody s__law_mixed) (defScope s__law_mixed) .none kV8 dc8 pm8 an8 cd8 ct8), sl8⟩) (c8 : PySem.W.codeIn K cd8 "_law_mixed" = true) (k8 : PySem.W.keepIn K (.ref f8) = true)
    (a9 : PySem.W.nsIn K mainGlobals "_law_alike" = some (some (.ref f9))) (l9 : K.lookup f9 = some ⟨oc9, od9, .func (PySem.W.fnOf "_law_alike" "_law_alike" (defArgs s__law_alike) (defBody s__law_alike) (defScope s__law_alike) .none kV9 dc9 pm9 an9 cd9 ct9), sl9⟩) (c9 : PySem.W.codeIn K cd9 "_law_alike" = true) (k9 : PySem.W.keepIn K (.ref f9) = true)
    (a10 : PySem.W.nsIn K mainGlobals "_law_voters" = some (some (.ref f10))) (l10 : K.lookup f10 = some ⟨oc10, od10, .func (PySem.W.fnOf "_law_voters" "_law_voters" (defArgs s__law_voters) (defBody s__law_voters) (defScope s__law_voters) .none kV10 dc10 pm10 an10 cd10 ct10), sl10⟩) (c10 : PySem.W.codeIn K cd10 "_law_voters" = true) (k10 : PySem.W.keepIn K (.ref f10) = true)
    (a11 : PySem.W.nsIn K mainGlobals "_law_day" = some (some (.ref f11))) (l11 : K.lookup f11 = some ⟨oc11, od11, .func (PySem.W.fnOf "_law_day" "_law_day" (defArgs s__law_day) (defBody s__law_day) (defScope s__law_day) .none kV11 dc11 pm11 an11 cd11 ct11), sl11⟩) (c11 : PySem.W.codeIn K cd11 "_law_day" = true) (k11 : PySem.W.keepIn K (.ref f11) = true)
    (a12 : PySem.W.nsIn K mainGlobals "_law_telling" = some (some (.ref f12))) (l12 : K.lookup f12 = some ⟨oc12, od12, .func (PySem.W.fnOf "_law_telling" "_law_telling" (defArgs s__law_telling) (defBody s__law_telling) (defScope s__law_telling) .none kV12 dc12 pm12 an12 cd12 ct12), sl12⟩) (c12 : PySem.W.codeIn K cd12 "_law_telling" = true) (k12 : PySem.W.keepIn K (.ref f12) = true)
    (a13 : PySem.W.nsIn K mainGlobals "_law_number" = some (some (.ref f13))) (l13 : K.lookup f13 = some ⟨oc13, od13, .func (PySem.W.fnOf "_law_number" "_law_number" (defArgs s__law_number) (defBody s__law_number) (defScope s__law_number) .none kV13 dc13 pm13 an13 cd13 ct13), sl13⟩) (c13 : PySem.W.codeIn K cd13 "_law_number" = true) (k13 : PySem.W.keepIn K (.ref f13) = true)
    (a14 : PySem.W.nsIn K mainGlobals "_law_tellings" = some (some (.ref f14))) (l14 : K.lookup f14 = some ⟨oc14, od14, .func (PySem.W.fnOf "_law_tellings" "_law_tellings" (defArgs s__law_tellings) (defBody s__law_tellings) (defScope s__law_tellings) .none kV14 dc14 pm14 an14 cd14 ct14), sl14⟩) (c14 : PySem.W.codeIn K cd14 "_law_tellings" = true) (k14 : PySem.W.keepIn K (.ref f14) = true)
    (a15 : PySem.W.nsIn K mainGlobals "_law_kept" = some (some (.ref f15))) (l15 : K.lookup f15 = some ⟨oc15, od15, .func (PySem.W.fnOf "_law_kept" "_law_kept" (defArgs s__law_kept) (defBody s__law_kept) (defScope s__law_kept) .none kV15 dc15 pm15 an15 cd15 ct15), sl15⟩) (c15 : PySem.W.codeIn K cd15 "_law_kept" = true) (k15 : PySem.W.keepIn K (.ref f15) = true)
    (a16 : PySem.W.nsIn K mainGlobals "_law_alone" = some (some (.ref f16))) (l16 : K.lookup f16 = some ⟨oc16, od16, .func (PySem.W.fnOf "_law_alone" "_law_alone" (defArgs s__law_alone) (defBody s__law_alone) (defScope s__law_alone) .none kV16 dc16 pm16 an16 cd16 ct16), sl16⟩) (c16 : PySem.W.codeIn K cd16 "_law_alone" = true) (k16 : PySem.W.keepIn K (.ref f16) = true)
    (a17 : PySem.W.nsIn K mainGlobals "_law_clashing" = some (some (.ref f17))) (l17 : K.lookup f17 = some ⟨oc17, od17, .func (PySem.W.fnOf "_law_clashing" "_law_clashing" (defArgs s__law_clashing) (defBody s__law_clashing) (defScope s__law_clashing) .none kV17 dc17 pm17 an17 cd17 ct17), sl17⟩) (c17 : PySem.W.codeIn K cd17 "_law_clashing" = true) (k17 : PySem.W.keepIn K (.ref f17) = true)
    (a18 : PySem.W.nsIn K mainGlobals "_law_by_day" = some (some (.ref f18))) (l18 : K.lookup f18 = some ⟨oc18, od18, .func (PySem.W.fnOf "_law_by_day" "_law_by_day" (defArgs s__law_by_day) (defBody s__law_by_day) (defScope s__law_by_day) .none kV18 dc18 pm18 an18 cd18 ct18), sl18⟩) (c18 : PySem.W.codeIn K cd18 "_law_by_day" = true) (k18 : PySem.W.keepIn K (.ref f18) = true)
    (a19 : PySem.W.nsIn K mainGlobals "_law_stand" = some (some (.ref f19))) (l19 : K.lookup f19 = some ⟨oc19, od19, .func (PySem.W.fnOf "_law_stand" "_law_stand" (defArgs s__law_stand) (defBody s__law_stand) (defScope s__law_stand) .none kV19 dc19 pm19 an19 cd19 ct19), sl19⟩) (c19 : PySem.W.codeIn K cd19 "_law_stand" = true) (k19 : PySem.W.keepIn K (.ref f19) = true)
    (a20 : PySem.W.nsIn K mainGlobals "law" = some (some (.ref f20))) (l20 : K.lookup f20 = some ⟨oc20, od20, .func (PySem.W.fnOf "law" "law" (defArgs s_law) (defBody s_law) (defScope s_law) .none kV20 dc20 pm20 an20 cd20 ct20), sl20⟩) (c20 : PySem.W.codeIn K cd20 "law" = true) (k20 : PySem.W.keepIn K (.ref f20) = true)
    (z_abs : PySem.W.nsIn K mainGlobals "abs" = some none)
    (z_enumerate : PySem.W.nsIn K mainGlobals "enumerate" = some none)
    (z_int : PySem.W.nsIn K mainGlobals "int" = some none)
    (z_len : PySem.W.nsIn K mainGlobals "len" = some none)
    (z_range : PySem.W.nsIn K mainGlobals "range" = some none)
    (z_repr : PySem.W.nsIn K mainGlobals "repr" = some none)
    (z_sorted : PySem.W.nsIn K mainGlobals "sorted" = some none)
    : ∃ fd : FuncData, (∀ (s : Shared) (v : Value), BindsTo s fd ⟨[v], []⟩ [("_law_script", v)]) ∧ ∀ base : Heap, K.In base → base.Ns mainGlobals mg → FnG l.prog w K mg base 5 fa fd ["_law_script"] (spD K mg [false] sp_law) := by
  have e := hfa.symm.trans (PySem.W.mg_of X G a20)
  cases e
  have F0 := fun_mk (st := s_telling_key) l0 c0 k0
  have b0 := F0.binds (ps := ["telling"]) fun _ _ _ _ _ _ us hl => match us, hl with | [_], _ => rfl
  have F1 := fun_mk (st := s_by_numbers) l1 c1 k1
  have b1 := F1.binds (ps := ["things"]) fun _ _ _ _ _ _ us hl => match us, hl with | [_], _ => rfl
  have F2 := fun_mk (st := s_alone) l2 c2 k2
  have b2 := F2.binds (ps := ["things"]) fun _ _ _ _ _ _ us hl => match us, hl with | [_], _ => rfl
  have F3 := fun_mk (st := s_standing) l3 c3 k3
  have b3 := F3.binds (ps := ["tellings"]) fun _ _ _ _ _ _ us hl => match us, hl with | [_], _ => rfl
  have F4 := fun_mk (st := s_clashing) l4 c4 k4
  have b4 := F4.binds (ps := ["tellings"]) fun _ _ _ _ _ _ us hl => match us, hl with | [_], _ => rfl
  have F5 := fun_mk (st := s__law_bag) l5 c5 k5
  have b5 := F5.binds (ps := ["_law_script"]) fun _ _ _ _ _ _ us hl => match us, hl with | [_], _ => rfl
  have F6 := fun_mk (st := s__law_take) l6 c6 k6
  have b6 := F6.binds (ps := ["_law_bag_here", "_law_many"]) fun _ _ _ _ _ _ us hl => match us, hl with | [_, _], _ => rfl
  have F7 := fun_mk (st := s__law_one) l7 c7 k7
  have b7 := F7.binds (ps := ["_law_bag_here", "_law_some"]) fun _ _ _ _ _ _ us hl => match us, hl with | [_, _], _ => rfl
  have F8 := fun_mk (st := s__law_mixed) l8 c8 k8
  have b8 := F8.binds (ps := ["_law_bag_here", "_law_things"]) fun _ _ _ _ _ _ us hl => match us, hl with | [_, _], _ => rfl
  have F9 := fun_mk (st := s__law_alike) l9 c9 k9
  have b9 := F9.binds (ps := ["_law_found", "_law_due"]) fun _ _ _ _ _ _ us hl => match us, hl with | [_, _], _ => rfl
  have F10 := fun_mk (st := s__law_voters) l10 c10 k10
  have b10 := F10.binds (ps := ["_law_bag_here", "_law_many"]) fun _ _ _ _ _ _ us hl => match us, hl with | [_, _], _ => rfl
  have F11 := fun_mk (st := s__law_day) l11 c11 k11
  have b11 := F11.binds (ps := ["_law_bag_here"]) fun _ _ _ _ _ _ us hl => match us, hl with | [_], _ => rfl
  have F12 := fun_mk (st := s__law_telling) l12 c12 k12
  have b12 := F12.binds (ps := ["_law_bag_here", "_law_number_here", "_law_voters_here", "_law_areas"]) fun _ _ _ _ _ _ us hl => match us, hl with | [_, _, _, _], _ => rfl
  have F13 := fun_mk (st := s__law_number) l13 c13 k13
  have b13 := F13.binds (ps := ["_law_bag_here", "_law_k"]) fun _ _ _ _ _ _ us hl => match us, hl with | [_, _], _ => rfl
  have F14 := fun_mk (st := s__law_tellings) l14 c14 k14
  have b14 := F14.binds (ps := ["_law_bag_here", "_law_voters_here", "_law_areas", "_law_many"]) fun _ _ _ _ _ _ us hl => match us, hl with | [_, _, _, _], _ => rfl
  have F15 := fun_mk (st := s__law_kept) l15 c15 k15
  have b15 := F15.binds (ps := ["_law_things", "_law_at"]) fun _ _ _ _ _ _ us hl => match us, hl with | [_, _], _ => rfl
  have F16 := fun_mk (st := s__law_alone) l16 c16 k16
  have b16 := F16.binds (ps := ["_law_things", "_law_at"]) fun _ _ _ _ _ _ us hl => match us, hl with | [_, _], _ => rfl
  have F17 := fun_mk (st := s__law_clashing) l17 c17 k17
  have b17 := F17.binds (ps := ["_law_things", "_law_at"]) fun _ _ _ _ _ _ us hl => match us, hl with | [_, _], _ => rfl
  have F18 := fun_mk (st := s__law_by_day) l18 c18 k18
  have b18 := F18.binds (ps := ["_law_things", "_law_at"]) fun _ _ _ _ _ _ us hl => match us, hl with | [_, _], _ => rfl
  have F19 := fun_mk (st := s__law_stand) l19 c19 k19
  have b19 := F19.binds (ps := ["_law_tellings_here"]) fun _ _ _ _ _ _ us hl => match us, hl with | [_], _ => rfl
  have F20 := fun_mk (st := s_law) l20 c20 k20
  have b20 := F20.binds (ps := ["_law_script"]) fun _ _ _ _ _ _ us hl => match us, hl with | [_], _ => rfl
  have T : Txt K mg := { a_telling_key := _, d_telling_key := _, F_telling_key := F0, b_telling_key := b0, g_telling_key := PySem.W.mg_of X G a0, a_by_numbers := _, d_by_numbers := _, F_by_numbers := F1, b_by_numbers := b1, g_by_numbers := PySem.W.mg_of X G a1, a_alone := _, d_alone := _, F_alone := F2, b_alone := b2, g_alone := PySem.W.mg_of X G a2, a_standing := _, d_standing := _, F_standing := F3, b_standing := b3, g_standing := PySem.W.mg_of X G a3, a_clashing := _, d_clashing := _, F_clashing := F4, b_clashing := b4, g_clashing := PySem.W.mg_of X G a4, a__law_bag := _, d__law_bag := _, F__law_bag := F5, b__law_bag := b5, g__law_bag := PySem.W.mg_of X G a5, a__law_take := _, d__law_take := _, F__law_take := F6, b__law_take := b6, g__law_take := PySem.W.mg_of X G a6, a__law_one := _, d__law_one := _, F__law_one := F7, b__law_one := b7, g__law_one := PySem.W.mg_of X G a7, a__law_mixed := _, d__law_mixed := _, F__law_mixed := F8, b__law_mixed := b8, g__law_mixed := PySem.W.mg_of X G a8, a__law_alike := _, d__law_alike := _, F__law_alike := F9, b__law_alike := b9, g__law_alike := PySem.W.mg_of X G a9, a__law_voters := _, d__law_voters := _, F__law_voters := F10, b__law_voters := b10, g__law_voters := PySem.W.mg_of X G a10, a__law_day := _, d__law_day := _, F__law_day := F11, b__law_day := b11, g__law_day := PySem.W.mg_of X G a11, a__law_telling := _, d__law_telling := _, F__law_telling := F12, b__law_telling := b12, g__law_telling := PySem.W.mg_of X G a12, a__law_number := _, d__law_number := _, F__law_number := F13, b__law_number := b13, g__law_number := PySem.W.mg_of X G a13, a__law_tellings := _, d__law_tellings := _, F__law_tellings := F14, b__law_tellings := b14, g__law_tellings := PySem.W.mg_of X G a14, a__law_kept := _, d__law_kept := _, F__law_kept := F15, b__law_kept := b15, g__law_kept := PySem.W.mg_of X G a15, a__law_alone := _, d__law_alone := _, F__law_alone := F16, b__law_alone := b16, g__law_alone := PySem.W.mg_of X G a16, a__law_clashing := _, d__law_clashing := _, F__law_clashing := F17, b__law_clashing := b17, g__law_clashing := PySem.W.mg_of X G a17, a__law_by_day := _, d__law_by_day := _, F__law_by_day := F18, b__law_by_day := b18, g__law_by_day := PySem.W.mg_of X G a18, a__law_stand := _, d__law_stand := _, F__law_stand := F19, b__law_stand := b19, g__law_stand := PySem.W.mg_of X G a19, a_law := _, d_law := _, F_law := F20, b_law := b20, g_law := PySem.W.mg_of X G a20, n_abs := PySem.W.mg_none_of X G z_abs, n_enumerate := PySem.W.mg_none_of X G z_enumerate, n_int := PySem.W.mg_none_of X G z_int, n_len := PySem.W.mg_none_of X G z_len, n_range := PySem.W.mg_none_of X G z_range, n_repr := PySem.W.mg_none_of X G z_repr, n_sorted := PySem.W.mg_none_of X G z_sorted }
  exact ⟨_, fun s v => .of_eq rfl, fun base _ _ => ok_law (T := { a_telling_key := _, d_telling_key := _, F_telling_key := F0, b_telling_key := b0, g_telling_key := PySem.W.mg_of X G a0, a_by_numbers := _, d_by_numbers := _, F_by_numbers := F1, b_by_numbers := b1, g_by_numbers := PySem.W.mg_of X G a1, a_alone := _, d_alone := _, F_alone := F2, b_alone := b2, g_alone := PySem.W.mg_of X G a2, a_standing := _, d_standing := _, F_standing := F3, b_standing := b3, g_standing := PySem.W.mg_of X G a3, a_clashing := _, d_clashing := _, F_clashing := F4, b_clashing := b4, g_clashing := PySem.W.mg_of X G a4, a__law_bag := _, d__law_bag := _, F__law_bag := F5, b__law_bag := b5, g__law_bag := PySem.W.mg_of X G a5, a__law_take := _, d__law_take := _, F__law_take := F6, b__law_take := b6, g__law_take := PySem.W.mg_of X G a6, a__law_one := _, d__law_one := _, F__law_one := F7, b__law_one := b7, g__law_one := PySem.W.mg_of X G a7, a__law_mixed := _, d__law_mixed := _, F__law_mixed := F8, b__law_mixed := b8, g__law_mixed := PySem.W.mg_of X G a8, a__law_alike := _, d__law_alike := _, F__law_alike := F9, b__law_alike := b9, g__law_alike := PySem.W.mg_of X G a9, a__law_voters := _, d__law_voters := _, F__law_voters := F10, b__law_voters := b10, g__law_voters := PySem.W.mg_of X G a10, a__law_day := _, d__law_day := _, F__law_day := F11, b__law_day := b11, g__law_day := PySem.W.mg_of X G a11, a__law_telling := _, d__law_telling := _, F__law_telling := F12, b__law_telling := b12, g__law_telling := PySem.W.mg_of X G a12, a__law_number := _, d__law_number := _, F__law_number := F13, b__law_number := b13, g__law_number := PySem.W.mg_of X G a13, a__law_tellings := _, d__law_tellings := _, F__law_tellings := F14, b__law_tellings := b14, g__law_tellings := PySem.W.mg_of X G a14, a__law_kept := _, d__law_kept := _, F__law_kept := F15, b__law_kept := b15, g__law_kept := PySem.W.mg_of X G a15, a__law_alone := _, d__law_alone := _, F__law_alone := F16, b__law_alone := b16, g__law_alone := PySem.W.mg_of X G a16, a__law_clashing := _, d__law_clashing := _, F__law_clashing := F17, b__law_clashing := b17, g__law_clashing := PySem.W.mg_of X G a17, a__law_by_day := _, d__law_by_day := _, F__law_by_day := F18, b__law_by_day := b18, g__law_by_day := PySem.W.mg_of X G a18, a__law_stand := _, d__law_stand := _, F__law_stand := F19, b__law_stand := b19, g__law_stand := PySem.W.mg_of X G a19, a_law := _, d_law := _, F_law := F20, b_law := b20, g_law := PySem.W.mg_of X G a20, n_abs := PySem.W.mg_none_of X G z_abs, n_enumerate := PySem.W.mg_none_of X G z_enumerate, n_int := PySem.W.mg_none_of X G z_int, n_len := PySem.W.mg_none_of X G z_len, n_range := PySem.W.mg_none_of X G z_range, n_repr := PySem.W.mg_none_of X G z_repr, n_sorted := PySem.W.mg_none_of X G z_sorted })⟩
end L31
open PySem PySem.W PyProof.Rows
set_option maxHeartbeats 0 in
theorem PySem.Challenge.cw_wholepoll_k31_tellings_that_stand_holds : PySem.Challenge.rw_wholepoll_k31_tellings_that_stand.Holds := by
  w_on; o_law; k_head; (case hw => w_witness2)
  k_fill
  refine DL.walk_ofG (l := PySem.Challenge.rw_wholepoll_k31_tellings_that_stand) (n := 63) (k := 5) (x := "_law_script") (sp := L31.sp_law) rfl (by decide) rfl ⟨rfl, by decide, by decide⟩ (fun w h Y => PySem.W.kIn_of Y) L31.mono_law ?F (fun ns hl => L31.law_sp ns hl)
  case F =>
    intro w mg fa h KX G hmg
    refine' L31.all_mk KX G hmg ?a0 ?l0 ?c0 ?k0 ?a1 ?l1 ?c1 ?k1 ?a2 ?l2 ?c2 ?k2 ?a3 ?l3 ?c3 ?k3 ?a4 ?l4 ?c4 ?k4 ?a5 ?l5 ?c5 ?k5 ?a6 ?l6 ?c6 ?k6 ?a7 ?l7 ?c7 ?k7 ?a8 ?l8 ?c8 ?k8 ?a9 ?l9 ?c9 ?k9 ?a10 ?l10 ?c10 ?k10 ?a11 ?l11 ?c11 ?k11 ?a12 ?l12 ?c12 ?k12 ?a13 ?l13 ?c13 ?k13 ?a14 ?l14 ?c14 ?k14 ?a15 ?l15 ?c15 ?k15 ?a16 ?l16 ?c16 ?k16 ?a17 ?l17 ?c17 ?k17 ?a18 ?l18 ?c18 ?k18 ?a19 ?l19 ?c19 ?k19 ?a20 ?l20 ?c20 ?k20 ?z_abs ?z_enumerate ?z_int ?z_len ?z_range ?z_repr ?z_sorted
    (case a0 => k_is); (case l0 => k_is); (case c0 => k_is); (case k0 => k_is); (case a1 => k_is); (case l1 => k_is); (case c1 => k_is); (case k1 => k_is); (case a2 => k_is); (case l2 => k_is); (case c2 => k_is); (case k2 => k_is); (case a3 => k_is); (case l3 => k_is); (case c3 => k_is); (case k3 => k_is); (case a4 => k_is); (case l4 => k_is); (case c4 => k_is); (case k4 => k_is); (case a5 => k_is); (case l5 => k_is); (case c5 => k_is); (case k5 => k_is); (case a6 => k_is); (case l6 => k_is); (case c6 => k_is); (case k6 => k_is); (case a7 => k_is); (case l7 => k_is); (case c7 => k_is); (case k7 => k_is); (case a8 => k_is); (case l8 => k_is); (case c8 => k_is); (case k8 => k_is); (case a9 => k_is); (case l9 => k_is); (case c9 => k_is); (case k9 => k_is); (case a10 => k_is); (case l10 => k_is); (case c10 => k_is); (case k10 => k_is); (case a11 => k_is); (case l11 => k_is); (case c11 => k_is); (case k11 => k_is); (case a12 => k_is); (case l12 => k_is); (case c12 => k_is); (case k12 => k_is); (case a13 => k_is); (case l13 => k_is); (case c13 => k_is); (case k13 => k_is); (case a14 => k_is); (case l14 => k_is); (case c14 => k_is); (case k14 => k_is); (case a15 => k_is); (case l15 => k_is); (case c15 => k_is); (case k15 => k_is); (case a16 => k_is); (case l16 => k_is); (case c16 => k_is); (case k16 => k_is); (case a17 => k_is); (case l17 => k_is); (case c17 => k_is); (case k17 => k_is); (case a18 => k_is); (case l18 => k_is); (case c18 => k_is); (case k18 => k_is); (case a19 => k_is); (case l19 => k_is); (case c19 => k_is); (case k19 => k_is); (case a20 => k_is); (case l20 => k_is); (case c20 => k_is); (case k20 => k_is); (case z_abs => k_is); (case z_enumerate => k_is); (case z_int => k_is); (case z_len => k_is); (case z_range => k_is); (case z_repr => k_is); (case z_sorted => k_is)
