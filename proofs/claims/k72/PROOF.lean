import PyProof.Rows.All
import Wide.All
import OpenK.AllK
import Wide.FinOn
import HandS.ForMost
import HandS.ExcIs
import HandS.ExcValue
import HandS.ForExc
import HandS.Wide
import HandS.Style
import HandS.Conv
import HandS.SortInts
import HandS.IsInst
import PyProof.ReprRoads
import HandS.WideBits
import HandS.Ends
import PyProof.ReprLen
import PyProof.FitsBits
import HandS.TupAny
import HandS.TupLe
import HandS.TryOnly
import HandS.Zip
import HandS.Text
import PyProof.StrOps2
import PyProof.Draws
import KE.GoesMore
import KE.GoesEnum
import HandS.SetFor
import HandS.Strs
import KE.IntTextLaws
import HandS.Dict
import HandS.More
import KE.SortData
import HandS.DictTup
import KE.KDictCopyH
import KE.KDictPairs
import KE.KDictSum
import HandS.ListItems
import PyProof.SumWalkG
import HandS.Deep
import HandS.TupSets
import HandS.Iter
import PyProof.ListStr
import HandS.SetKeys
import HandS.SortKw
import KE.SortKeyHeap
import HandS.Keys
import HandS.Star
import HandS.ClsMeth
import HandS.Defaults
import KE.KeyNested
import KE.KDictKeyed
import PyProof.Rows.SeqRoads
import HandS.DictComp
import KE.KIntText
import HandS.IntHex
import HandS.DeepEq
import HandS.DictEq
import HandS.SlotsVar
import KE.KAssignIn
import HandS.Flow
import KE.KEqDict
import HandS.Set
import KE.BitLaws
import PySem.Challenge.RW_wholepoll_k72_marks_that_wait
set_option Elab.async false
set_option linter.all false
set_option maxRecDepth 100000
set_option maxHeartbeats 4000000
namespace DL
open PySem L2
inductive Sh where
  | lst | tup | dK (ks : List Key) | dT (ks : List (List Key)) | ins (C dx : Addr) (ns : List Str)
  | ext (φ : List V → Addr → Heap → Prop) | exc (n : Nat)
  | lk (od : Obj) (s : Sh)
def Sh.mk : Sh → Addr → List V → HO
  | .lst, _, vs => .lst vs
  | .tup, _, vs => .tup vs
  | .dK ks, _, vs => .dK (ks.zip vs)
  | .dT ks, _, vs => .dT (ks.zip vs)
  | .ins C dx ns, _, vs => .ins C dx (ns.zip vs)
  | .ext φ, a, vs => .ext (φ vs a)
  | .exc _, _, _ => .ext fun _ => False
  | .lk od s, a, vs => .frz od (s.mk a vs)
theorem Sh.mk_tup {s : Sh} {a : Addr} {vs ws : List V} (h : s.mk a vs = .tup ws) : s = .tup ∧ vs = ws := by
  cases s <;> first | (exact nomatch (show HO.lst _ = HO.tup _ from h)) | (exact nomatch (show HO.dK _ = HO.tup _ from h)) | (exact nomatch (show HO.dT _ = HO.tup _ from h)) | (exact nomatch (show HO.ins _ _ _ = HO.tup _ from h)) | (exact nomatch (show HO.ext _ = HO.tup _ from h)) | (exact nomatch (show HO.frz _ _ = HO.tup _ from h)) | (exact ⟨rfl, HO.tup.inj h⟩)
inductive T where
  | leaf (v : V)
  | node (o : Bool) (s : Sh) (k : List T)
  | pin (s : Sh) (vs : List V)
def Konst (K : PySem.W.Frag) (a : Addr) (vs : List V) : Sh → Prop
  | .lst => ∃ (o : Obj) (its : Array Value) (n : Nat), K.lookup a = some o ∧ o.cls = .type "list" ∧ o.dict = none ∧ o.data = .seq its n ∧ its.size ≤ sizeLine ∧ Vals vs its.toList
  | .tup => ∃ (o : Obj) (its : Array Value) (n : Nat), K.lookup a = some o ∧ o.cls = .type "tuple" ∧ o.data = .seq its n ∧ its.size ≤ sizeLine ∧ Vals vs its.toList
  | _ => False
def KzOk (vs : List V) : Prop := vs = [.int 0, .int 1] ∨ ∃ x r, vs = .str x :: r
structure ExcV (K : PySem.W.Frag) (D : Addr) : Prop where
  ex : ExcC K D
  kit : ∀ c : String, c ∈ ["int", "bool", "str", "list", "tuple", "dict"] → PySem.W.kitOne K (.ref D) (.type c) = some false
mutual
inductive OwnP (K : PySem.W.Frag) (F : Addr → Prop) (H : Hp) : V → T → List Addr → Prop
  | leaf (v : V) : OwnP K F H v (.leaf v) []
  | fz {a : Addr} {s : Sh} {vs : List V} {ts : List T} : F a → H a = some (s.mk a vs) → OwnL K F H vs ts [] → OwnP K F H (.ref a) (.node false s ts) []
  | pinF {a : Addr} {s : Sh} {vs : List V} : F a → Rd H a (s.mk a vs) → OwnP K F H (.ref a) (.pin s vs) []
  | pinK {a : Addr} {s : Sh} {vs : List V} : Konst K a vs s → OwnP K F H (.ref a) (.pin s vs) []
  | pinT {a : Addr} {vs : List V} : H a = some (.tup vs) → OwnP K F H (.ref a) (.pin .tup vs) []
  | tk {a : Addr} {vs : List V} {ts : List T} : H a = some (.tup vs) → OwnL K F H vs ts [] → OwnP K F H (.ref a) (.node false .tup ts) []
  | fx {a D : Addr} {n : Nat} : F a → H a = some (ExO (.ref D) a) → ExcV K D → OwnP K F H (.ref a) (.pin (.exc n) []) []
  | kz {a : Addr} {vs : List V} {ts : List T} : Konst K a vs .tup → KzOk vs → OwnL K F H vs ts [] → OwnP K F H (.ref a) (.node false .tup ts) []
  | own {a : Addr} {s : Sh} {vs : List V} {ts : List T} {fp : List Addr} : H a = some (s.mk a vs) → OwnL K F H vs ts fp → OwnP K F H (.ref a) (.node true s ts) (a :: fp)
inductive OwnL (K : PySem.W.Frag) (F : Addr → Prop) (H : Hp) : List V → List T → List Addr → Prop
  | nil : OwnL K F H [] [] []
  | cons {v : V} {t : T} {fp : List Addr} {vs : List V} {ts : List T} {fp' : List Addr} : OwnP K F H v t fp → OwnL K F H vs ts fp' → OwnL K F H (v :: vs) (t :: ts) (fp ++ fp')
end
mutual
def frz : T → T
  | .leaf v => .leaf v
  | .pin s vs => .pin s vs
  | .node _ s k => .node false s (frzL k)
def frzL : List T → List T
  | [] => []
  | t :: ts => frz t :: frzL ts
end
theorem frzL_map : ∀ ts : List T, frzL ts = ts.map frz
  | [] => by simp [frzL]
  | t :: ts => by simp [frzL, frzL_map ts]
mutual
theorem frz_frz : ∀ t : T, frz (frz t) = frz t
  | .leaf _ => by simp [frz]
  | .pin _ _ => by simp [frz]
  | .node _ s k => by simp [frz, frzL_frzL k]
theorem frzL_frzL : ∀ ts : List T, frzL (frzL ts) = frzL ts
  | [] => by simp [frzL]
  | t :: ts => by simp [frzL, frz_frz t, frzL_frzL ts]
end
section
variable {K : PySem.W.Frag} {F F' : Addr → Prop} {H H' : Hp}
theorem OwnL.length : ∀ {vs : List V} {ts : List T} {fp : List Addr}, OwnL K F H vs ts fp → vs.length = ts.length
  | _, _, _, .nil => rfl
  | _, _, _, .cons _ h => by simp [OwnL.length h]
mutual
theorem OwnP.mono (hF : ∀ a, F a → F' a) : ∀ (t : T) {v : V} {fp : List Addr}, OwnP K F H v t fp → (∀ a, (F a ∨ a ∈ fp) → ∀ o, H a = some o → H' a = some o) → (∀ a vs, H a = some (.tup vs) → H' a = some (.tup vs)) → OwnP K F' H' v t fp
  | .leaf _, _, _, h, _, _ => by
    cases h
    exact .leaf _
  | .pin _ _, _, _, h, hH, hT => by
    cases h with
    | pinF hf hr =>
      refine .pinF (hF _ hf) ?_
      rcases hr with hr | ⟨o, hr⟩
      · exact .inl (hH _ (.inl hf) _ hr)
      · exact .inr ⟨o, hH _ (.inl hf) _ hr⟩
    | pinK hc => exact .pinK hc
    | fx hf hr hv => exact .fx (hF _ hf) (hH _ (.inl hf) _ hr) hv
    | pinT hr => exact .pinT (hT _ _ hr)
  | .node o s ts, _, _, h, hH, hT => by
    cases h with
    | fz hf hr hk =>
      refine .fz (hF _ hf) (hH _ (.inl hf) _ hr) (OwnL.mono hF ts hk (fun a ha => hH a ?_) hT)
      rcases ha with ha | ha
      · exact .inl ha
      · cases ha
    | kz hc hz hk =>
      refine .kz hc hz (OwnL.mono hF ts hk (fun a ha => hH a ?_) hT)
      rcases ha with ha | ha
      · exact .inl ha
      · cases ha
    | tk hr hk =>
      refine .tk (hT _ _ hr) (OwnL.mono hF ts hk (fun a ha => hH a ?_) hT)
      rcases ha with ha | ha
      · exact .inl ha
      · cases ha
    | own ha hk =>
      refine .own (hH _ (.inr List.mem_cons_self) _ ha) (OwnL.mono hF ts hk (fun a ha => hH a ?_) hT)
      rcases ha with ha | ha
      · exact .inl ha
      · exact .inr (List.mem_cons_of_mem _ ha)
theorem OwnL.mono (hF : ∀ a, F a → F' a) : ∀ (ts : List T) {vs : List V} {fp : List Addr}, OwnL K F H vs ts fp → (∀ a, (F a ∨ a ∈ fp) → ∀ o, H a = some o → H' a = some o) → (∀ a vs, H a = some (.tup vs) → H' a = some (.tup vs)) → OwnL K F' H' vs ts fp
  | [], _, _, h, _, _ => by
    cases h
    exact .nil
  | t :: ts, _, _, h, hH, hT => by
    cases h with
    | cons h1 h2 =>
      exact .cons (OwnP.mono hF t h1 (fun a ha => hH a (ha.imp id (List.mem_append_left _))) hT) (OwnL.mono hF ts h2 (fun a ha => hH a (ha.imp id (List.mem_append_right _))) hT)
end
mutual
theorem OwnP.freeze (hF : ∀ a, F a → F' a) : ∀ (t : T) {v : V} {fp : List Addr}, OwnP K F H v t fp → (∀ a ∈ fp, F' a) → OwnP K F' H v (frz t) []
  | .leaf _, _, _, h, _ => by
    cases h
    exact .leaf _
  | .pin _ _, _, _, h, _ => by
    cases h with
    | pinF hf hr => exact .pinF (hF _ hf) hr
    | pinK hc => exact .pinK hc
    | fx hf hr hv => exact .fx (hF _ hf) hr hv
    | pinT hr => exact .pinT hr
  | .node o s ts, _, _, h, hp => by
    cases h with
    | fz hf hr hk => exact .fz (hF _ hf) hr (OwnL.freeze hF ts hk (fun _ z => nomatch z))
    | kz hc hz hk => exact .kz hc hz (OwnL.freeze hF ts hk (fun _ z => nomatch z))
    | tk hr hk => exact .tk hr (OwnL.freeze hF ts hk (fun _ z => nomatch z))
    | own ha hk => exact .fz (hp _ List.mem_cons_self) ha (OwnL.freeze hF ts hk fun a z => hp a (List.mem_cons_of_mem _ z))
theorem OwnL.freeze (hF : ∀ a, F a → F' a) : ∀ (ts : List T) {vs : List V} {fp : List Addr}, OwnL K F H vs ts fp → (∀ a ∈ fp, F' a) → OwnL K F' H vs (frzL ts) []
  | [], _, _, h, _ => by
    cases h
    exact .nil
  | t :: ts, _, _, h, hp => by
    cases h with
    | cons h1 h2 => exact .cons (fp := []) (OwnP.freeze hF t h1 fun a z => hp a (List.mem_append_left _ z)) (OwnL.freeze hF ts h2 fun a z => hp a (List.mem_append_right _ z))
end
mutual
theorem OwnP.nofp : ∀ (t : T) {v : V} {fp : List Addr}, OwnP K F H v t fp → frz t = t → fp = []
  | .leaf _, _, _, h, _ => by cases h; rfl
  | .pin _ _, _, _, h, _ => by cases h <;> rfl
  | .node o s ts, _, _, h, e => by
    cases h with
    | fz _ _ _ => rfl
    | kz _ _ _ => rfl
    | tk _ _ => rfl
    | own _ _ => simp [frz] at e
end
theorem OwnP.tracked : ∀ {t : T} {v : V} {fp : List Addr}, OwnP K F H v t fp → ∀ a ∈ fp, H a ≠ none := by
  intro t v fp h
  exact OwnP.rec (motive_1 := fun v t fp _ => ∀ a ∈ fp, H a ≠ none) (motive_2 := fun vs ts fp _ => ∀ a ∈ fp, H a ≠ none)
    (fun _ _ z => nomatch z) (fun _ _ _ _ _ z => nomatch z) (fun _ _ _ z => nomatch z) (fun _ _ z => nomatch z) (fun _ _ z => nomatch z) (fun _ _ _ _ z => nomatch z) (fun _ _ _ _ z => nomatch z) (fun _ _ _ _ _ z => nomatch z)
    (fun ha _ ih a z => by
      rcases List.mem_cons.mp z with e | z
      · rw [e, ha]; exact nofun
      · exact ih a z) (fun _ z => nomatch z)
    (fun _ _ ih1 ih2 a z => (List.mem_append.mp z).elim (ih1 a) (ih2 a)) h
theorem OwnL.tracked {ts : List T} {vs : List V} {fp : List Addr} (h : OwnL K F H vs ts fp) : ∀ a ∈ fp, H a ≠ none :=
  OwnL.rec (motive_1 := fun v t fp _ => ∀ a ∈ fp, H a ≠ none) (motive_2 := fun vs ts fp _ => ∀ a ∈ fp, H a ≠ none)
    (fun _ _ z => nomatch z) (fun _ _ _ _ _ z => nomatch z) (fun _ _ _ z => nomatch z) (fun _ _ z => nomatch z) (fun _ _ z => nomatch z) (fun _ _ _ _ z => nomatch z) (fun _ _ _ _ z => nomatch z) (fun _ _ _ _ _ z => nomatch z)
    (fun ha _ ih a z => by
      rcases List.mem_cons.mp z with e | z
      · rw [e, ha]; exact nofun
      · exact ih a z) (fun _ z => nomatch z)
    (fun _ _ ih1 ih2 a z => (List.mem_append.mp z).elim (ih1 a) (ih2 a)) h
abbrev Its := List (V × T)
def OwnZ (K : PySem.W.Frag) (F : Addr → Prop) (H : Hp) (zs : Its) (fp : List Addr) : Prop := OwnL K F H (zs.map (·.1)) (zs.map (·.2)) fp
theorem OwnZ.nil : OwnZ K F H [] [] := OwnL.nil
theorem OwnZ.cons {v : V} {t : T} {zs : Its} {fp fp' : List Addr} (h1 : OwnP K F H v t fp) (h2 : OwnZ K F H zs fp') : OwnZ K F H ((v, t) :: zs) (fp ++ fp') := OwnL.cons h1 h2
theorem OwnZ.uncons {v : V} {t : T} {zs : Its} {fp : List Addr} (h : OwnZ K F H ((v, t) :: zs) fp) : ∃ f1 f2, fp = f1 ++ f2 ∧ OwnP K F H v t f1 ∧ OwnZ K F H zs f2 := by
  cases h with
  | cons h1 h2 => exact ⟨_, _, rfl, h1, h2⟩
theorem OwnZ.append : ∀ {zs ys : Its} {f1 f2 : List Addr}, OwnZ K F H zs f1 → OwnZ K F H ys f2 → OwnZ K F H (zs ++ ys) (f1 ++ f2)
  | [], _, _, _, h1, h2 => by
    cases h1
    exact h2
  | (v, t) :: zs, _, _, _, h1, h2 => by
    obtain ⟨a, b, rfl, p, q⟩ := h1.uncons
    rw [List.append_assoc]
    exact .cons p (OwnZ.append q h2)
theorem OwnZ.split : ∀ {zs ys : Its} {fp : List Addr}, OwnZ K F H (zs ++ ys) fp → ∃ f1 f2, fp = f1 ++ f2 ∧ OwnZ K F H zs f1 ∧ OwnZ K F H ys f2
  | [], _, _, h => ⟨[], _, rfl, .nil, h⟩
  | (v, t) :: zs, _, _, h => by
    obtain ⟨a, b, rfl, p, q⟩ := OwnZ.uncons (zs := zs ++ _) h
    obtain ⟨f1, f2, rfl, q1, q2⟩ := OwnZ.split q
    exact ⟨a ++ f1, f2, by rw [List.append_assoc], .cons p q1, q2⟩
theorem OwnZ.perm {zs ys : Its} (e : zs.Perm ys) : ∀ {fp : List Addr}, OwnZ K F H zs fp → ∃ fp', fp.Perm fp' ∧ OwnZ K F H ys fp' := by
  induction e with
  | nil => exact fun h => ⟨_, .refl _, h⟩
  | cons x _ ih =>
    intro fp h
    obtain ⟨a, b, rfl, p, q⟩ := h.uncons
    obtain ⟨b', e', q'⟩ := ih q
    exact ⟨a ++ b', List.Perm.append_left _ e', .cons p q'⟩
  | swap x y l =>
    intro fp h
    obtain ⟨a, b, rfl, p, q⟩ := h.uncons
    obtain ⟨c, d, rfl, p2, q2⟩ := OwnZ.uncons (v := x.1) (t := x.2) q
    refine ⟨c ++ (a ++ d), ?_, .cons p2 (.cons p q2)⟩
    rw [← List.append_assoc, ← List.append_assoc]
    exact List.Perm.append_right _ List.perm_append_comm
  | trans _ _ ih1 ih2 =>
    intro fp h
    obtain ⟨f1, e1, h1⟩ := ih1 h
    obtain ⟨f2, e2, h2⟩ := ih2 h1
    exact ⟨f2, e1.trans e2, h2⟩
theorem OwnZ.mono {zs : Its} {fp : List Addr} (hF : ∀ a, F a → F' a) (h : OwnZ K F H zs fp) (hH : ∀ a, (F a ∨ a ∈ fp) → ∀ o, H a = some o → H' a = some o) (hT : ∀ a vs, H a = some (.tup vs) → H' a = some (.tup vs)) : OwnZ K F' H' zs fp := OwnL.mono hF _ h hH hT
theorem OwnZ.tracked {zs : Its} {fp : List Addr} (h : OwnZ K F H zs fp) : ∀ a ∈ fp, H a ≠ none := OwnL.tracked h
theorem OwnL.zip {vs : List V} {ts : List T} {fp : List Addr} (h : OwnL K F H vs ts fp) : OwnZ K F H (vs.zip ts) fp := by
  have e := h.length
  unfold OwnZ
  rw [List.map_fst_zip (by omega), List.map_snd_zip (by omega)]
  exact h
theorem OwnL.unzip {vs : List V} {ts : List T} {fp : List Addr} (e : vs.length = ts.length) (h : OwnZ K F H (vs.zip ts) fp) : OwnL K F H vs ts fp := by
  unfold OwnZ at h
  rw [List.map_fst_zip (by omega), List.map_snd_zip (by omega)] at h
  exact h
end
abbrev Ev := List (Option T)
inductive EnvIs : St → Ev → Its → Prop
  | nil : EnvIs [] [] []
  | skip {x : Option V} {σ : St} {g : Ev} {zs : Its} : EnvIs σ g zs → EnvIs (x :: σ) (none :: g) zs
  | have {v : V} {t : T} {σ : St} {g : Ev} {zs : Its} : EnvIs σ g zs → EnvIs (some v :: σ) (some t :: g) ((v, t) :: zs)
theorem EnvIs.length : ∀ {σ : St} {g : Ev} {zs : Its}, EnvIs σ g zs → σ.length = g.length
  | _, _, _, .nil => rfl
  | _, _, _, .skip h => by simp [EnvIs.length h]
  | _, _, _, .have h => by simp [EnvIs.length h]
theorem EnvIs.take : ∀ {σ : St} {g : Ev} {zs : Its} {i : Nat} {t : T}, EnvIs σ g zs → g[i]? = some (some t) → ∃ v ys, σ[i]? = some (some v) ∧ zs.Perm ((v, t) :: ys) ∧ EnvIs σ (g.set i none) ys
  | _, _, _, i, _, .nil, e => by simp at e
  | _, _, _, 0, _, .skip h, e => by simp at e
  | _, _, _, 0, _, .have h, e => by
    simp at e
    subst e
    exact ⟨_, _, rfl, .refl _, .skip h⟩
  | _, _, _, i + 1, _, .skip h, e => by
    obtain ⟨v, ys, e1, p, q⟩ := EnvIs.take (i := i) h (by simpa using e)
    exact ⟨v, ys, by simpa using e1, p, .skip q⟩
  | _, _, _, i + 1, _, .have (v := w) (t := t0) h, e => by
    obtain ⟨v, ys, e1, p, q⟩ := EnvIs.take (i := i) h (by simpa using e)
    exact ⟨v, (w, t0) :: ys, by simpa using e1, (List.Perm.cons _ p).trans (List.Perm.swap _ _ _), .have q⟩
theorem EnvIs.drop : ∀ {σ : St} {g : Ev} {zs : Its} {i : Nat} (x : Option V), EnvIs σ g zs → ∃ ds ys, zs.Perm (ds ++ ys) ∧ EnvIs (σ.set i x) (g.set i none) ys
  | _, _, _, i, x, .nil => ⟨[], [], .refl _, by simpa using EnvIs.nil⟩
  | _, _, _, 0, x, .skip h => ⟨[], _, .refl _, .skip h⟩
  | _, _, _, 0, x, .have (v := w) (t := t0) h => ⟨[(w, t0)], _, .refl _, .skip h⟩
  | _, _, _, i + 1, x, .skip h => by
    obtain ⟨ds, ys, p, q⟩ := EnvIs.drop (i := i) x h
    exact ⟨ds, ys, p, .skip q⟩
  | _, _, _, i + 1, x, .have (v := w) (t := t0) h => by
    obtain ⟨ds, ys, p, q⟩ := EnvIs.drop (i := i) x h
    exact ⟨ds, (w, t0) :: ys, (List.Perm.cons _ p).trans List.perm_middle.symm, .have q⟩
theorem EnvIs.fill : ∀ {σ : St} {g : Ev} {zs : Its} {i : Nat} {v : V} (t : T), EnvIs σ g zs → g[i]? = some none → σ[i]? = some (some v) → ∃ ys, ys.Perm ((v, t) :: zs) ∧ EnvIs σ (g.set i (some t)) ys
  | _, _, _, i, _, t, .nil, e, _ => by simp at e
  | _, _, _, 0, _, t, .skip h, _, e => by
    simp at e
    subst e
    exact ⟨_, .refl _, .have h⟩
  | _, _, _, 0, _, t, .have h, e, _ => by simp at e
  | _, _, _, i + 1, _, t, .skip h, e, e' => by
    obtain ⟨ys, p, q⟩ := EnvIs.fill (i := i) t h (by simpa using e) (by simpa using e')
    exact ⟨ys, p, .skip q⟩
  | _, _, _, i + 1, _, t, .have h, e, e' => by
    obtain ⟨ys, p, q⟩ := EnvIs.fill (i := i) t h (by simpa using e) (by simpa using e')
    exact ⟨_, (List.Perm.cons _ p).trans (List.Perm.swap _ _ _), .have q⟩
structure Bs where
  H0 : Hp
  F0 : Addr → Prop
  fp0 : List Addr
structure Fine (B : Bs) (F : Addr → Prop) (H : Hp) (fp : List Addr) : Prop where
  nd : fp.Nodup
  off : ∀ a ∈ fp, ¬ F a
  trk : ∀ a, F a → H a ≠ none
  inc : ∀ a, B.F0 a → F a
  keep : ∀ a o, B.H0 a = some o → a ∉ B.fp0 → H a = some o
  newF : ∀ a, F a → B.F0 a ∨ a ∈ B.fp0 ∨ B.H0 a = none
  newO : ∀ a ∈ fp, a ∈ B.fp0 ∨ B.H0 a = none
  keepT : ∀ a vs, B.H0 a = some (.tup vs) → H a = some (.tup vs)
def RepG (K : PySem.W.Frag) (B : Bs) (lim : List Addr) (σ : St) (H : Hp) (g : Ev) (Φ : Its) : Prop :=
  ∃ (F : Addr → Prop) (zs : Its) (fp : List Addr), EnvIs σ g zs ∧ OwnZ K F H (zs ++ Φ) fp ∧ Fine B F H (lim ++ fp) ∧ ∀ a ∈ lim, H a ≠ none
section
variable {K : PySem.W.Frag} {B : Bs} {lim : List Addr} {σ : St} {H H' : Hp} {g : Ev} {Φ Ψ : Its}
theorem Fine.perm {F : Addr → Prop} {fp fp' : List Addr} (h : Fine B F H fp) (e : fp.Perm fp') : Fine B F H fp' :=
  ⟨e.nodup_iff.mp h.nd, fun a z => h.off a (e.mem_iff.mpr z), h.trk, h.inc, h.keep, h.newF, fun a z => h.newO a (e.mem_iff.mpr z), h.keepT⟩
theorem Fine.sub {F : Addr → Prop} {fp fp' : List Addr} (h : Fine B F H fp) (e : fp'.Sublist fp) : Fine B F H fp' :=
  ⟨h.nd.sublist e, fun a z => h.off a (e.subset z), h.trk, h.inc, h.keep, h.newF, fun a z => h.newO a (e.subset z), h.keepT⟩
theorem rep_items {F : Addr → Prop} {zs ys ds : Its} {g' : Ev} {σ' : St} {fp : List Addr} (e2 : EnvIs σ' g' ys) (h : OwnZ K F H zs fp) (f : Fine B F H (lim ++ fp)) (hl : ∀ a ∈ lim, H a ≠ none) (p : zs.Perm (ds ++ (ys ++ Ψ))) : RepG K B lim σ' H g' Ψ := by
  obtain ⟨fp', pf, h'⟩ := h.perm p
  obtain ⟨f1, f2, rfl, _, h2⟩ := h'.split
  refine ⟨F, ys, f2, e2, h2, (f.perm (List.Perm.append_left _ pf)).sub ?_, hl⟩
  exact List.Sublist.append (List.Sublist.refl _) (List.sublist_append_right _ _)
theorem RepG.perm (h : RepG K B lim σ H g Φ) (p : Φ.Perm Ψ) : RepG K B lim σ H g Ψ := by
  obtain ⟨F, zs, fp, e, o, f, hl⟩ := h
  exact rep_items (ds := []) e o f hl (List.Perm.append_left _ p)
theorem RepG.dropT {x : V × T} (h : RepG K B lim σ H g (x :: Φ)) : RepG K B lim σ H g Φ := by
  obtain ⟨F, zs, fp, e, o, f, hl⟩ := h
  exact rep_items (ds := [x]) e o f hl (List.perm_middle)
theorem RepG.dropTs {xs : Its} (h : RepG K B lim σ H g (xs ++ Φ)) : RepG K B lim σ H g Φ := by
  induction xs with
  | nil => exact h
  | cons x xs ih => exact ih (RepG.dropT h)
theorem RepG.len (h : RepG K B lim σ H g Φ) : σ.length = g.length := by
  obtain ⟨F, zs, fp, e, _⟩ := h
  exact e.length
theorem RepG.move {i : Nat} {t : T} (h : RepG K B lim σ H g Φ) (e : g[i]? = some (some t)) : ∃ v, σ[i]? = some (some v) ∧ RepG K B lim σ H (g.set i none) ((v, t) :: Φ) := by
  obtain ⟨F, zs, fp, en, o, f, hl⟩ := h
  obtain ⟨v, ys, ev, p, en'⟩ := en.take e
  exact ⟨v, ev, rep_items (ds := []) en' o f hl ((List.Perm.append_right _ p).trans List.perm_middle.symm)⟩
theorem RepG.clear (h : RepG K B lim σ H g Φ) (i : Nat) (x : Option V) : RepG K B lim (σ.set i x) H (g.set i none) Φ := by
  obtain ⟨F, zs, fp, en, o, f, hl⟩ := h
  obtain ⟨ds, ys, p, en'⟩ := en.drop (i := i) x
  exact rep_items (ds := ds) en' o f hl (by rw [← List.append_assoc]; exact List.Perm.append_right _ p)
theorem set_at {α : Type} {l : List α} {i : Nat} {x : α} (h : l[i]? = some x) : l.set i x = l := by
  apply List.ext_getElem?
  intro j
  by_cases e : i = j
  · subst e
    have hi : i < l.length := by
      rw [List.getElem?_eq_some_iff] at h
      exact h.1
    rw [List.getElem?_set_self hi, h]
  · rw [List.getElem?_set_ne e]
theorem RepG.put {i : Nat} {v : V} {t : T} (h : RepG K B lim σ H g ((v, t) :: Φ)) (hi : i < σ.length) : RepG K B lim (σ.set i (some v)) H (g.set i (some t)) Φ := by
  have h1 := h.clear i (some v)
  obtain ⟨F, zs, fp, en, o, f, hl⟩ := h1
  have hl' := en.length
  simp only [List.length_set] at hl'
  obtain ⟨ys, p, en'⟩ := en.fill (i := i) (v := v) t (by rw [List.getElem?_set_self (by omega)]) (by rw [List.getElem?_set_self hi])
  rw [List.set_set] at en'
  exact rep_items (ds := []) en' o f hl ((List.perm_middle).trans (List.Perm.append_right _ p.symm))
theorem RepG.back {i : Nat} {v : V} {t : T} (h : RepG K B lim σ H g ((v, t) :: Φ)) (hi : σ[i]? = some (some v)) : RepG K B lim σ H (g.set i (some t)) Φ := by
  have hlt : i < σ.length := by
    rw [List.getElem?_eq_some_iff] at hi
    exact hi.1
  have q := h.put hlt
  rwa [set_at hi] at q
theorem RepG.freezeT {v : V} {t : T} (h : RepG K B lim σ H g ((v, t) :: Φ)) : RepG K B lim σ H g ((v, frz t) :: Φ) := by
  obtain ⟨F, zs, fp, en, o, f, hl⟩ := h
  obtain ⟨fp', pf, o'⟩ := o.perm (List.perm_middle (a := (v, t)))
  obtain ⟨f1, f2, rfl, p1, o2⟩ := OwnZ.uncons (zs := zs ++ Φ) o'
  have f' := f.perm (List.Perm.append_left lim pf)
  have nd := f'.nd
  have hz : OwnZ K (fun a => F a ∨ a ∈ f1) H ((v, frz t) :: (zs ++ Φ)) ([] ++ f2) :=
    .cons (OwnP.freeze (fun a z => .inl z) _ p1 fun a z => .inr z) (o2.mono (fun a z => .inl z) (fun _ _ _ e => e) fun _ _ e => e)
  have fin : Fine B (fun a => F a ∨ a ∈ f1) H (lim ++ ([] ++ f2)) := by
    rw [List.nil_append]
    have sub : (lim ++ f2).Sublist (lim ++ (f1 ++ f2)) := List.Sublist.append (List.Sublist.refl _) (List.sublist_append_right _ _)
    refine ⟨nd.sublist sub, fun a z => ?_, fun a z => ?_, fun a z => .inl (f.inc a z), f.keep, fun a z => ?_, fun a z => f'.newO a (sub.subset z), f.keepT⟩
    · rintro (k | k)
      · exact f'.off a (sub.subset z) k
      · rcases List.mem_append.mp z with z | z
        · exact (List.nodup_append.mp nd).2.2 a z a (List.mem_append_left _ k) rfl
        · exact (List.nodup_append.mp (List.nodup_append.mp nd).2.1).2.2 a k a z rfl
    · rcases z with z | z
      · exact f.trk a z
      · exact p1.tracked a z
    · rcases z with z | z
      · exact f.newF a z
      · rcases f'.newO a (List.mem_append_right _ (List.mem_append_left _ z)) with q | q
        · exact .inr (.inl q)
        · exact .inr (.inr q)
  exact rep_items (ds := []) en hz fin hl (List.perm_middle.symm)
theorem RepG.look {i : Nat} {t : T} (h : RepG K B lim σ H g Φ) (e : g[i]? = some (some t)) (hf : frz t = t) : ∃ v, σ[i]? = some (some v) ∧ RepG K B lim σ H g ((v, t) :: Φ) := by
  obtain ⟨F, zs, fp, en, o, f, hl⟩ := h
  obtain ⟨v, ys, ev, p, en'⟩ := id en.take e
  refine ⟨v, ev, ?_⟩
  obtain ⟨fp', pf, o'⟩ := o.perm (List.Perm.append_right Φ p)
  obtain ⟨f1, f2, rfl, p1, o2⟩ := OwnZ.uncons (zs := ys ++ Φ) o'
  obtain rfl := p1.nofp _ hf
  have f' := f.perm (List.Perm.append_left lim pf)
  have hz : OwnZ K F H ((v, t) :: (v, t) :: (ys ++ Φ)) ([] ++ ([] ++ f2)) := .cons p1 (.cons p1 o2)
  refine rep_items (ds := []) en hz f' hl ?_
  exact ((List.Perm.cons _ (List.Perm.append_right Φ p.symm))).trans List.perm_middle.symm
theorem RepG.freeze {i : Nat} {t : T} (h : RepG K B lim σ H g Φ) (e : g[i]? = some (some t)) : RepG K B lim σ H (g.set i (some (frz t))) Φ := by
  obtain ⟨v, ev, h1⟩ := h.move e
  have h2 := h1.freezeT.back ev
  rwa [List.set_set] at h2
end
end DL
set_option Elab.async false
set_option linter.all false
set_option maxRecDepth 100000
set_option maxHeartbeats 4000000
namespace DL
open PySem L2
section
variable {K : PySem.W.Frag} {B : Bs} {lim : List Addr} {σ : St} {H H' : Hp} {g : Ev} {Φ Ψ : Its}
theorem RepG.lim0 (h : RepG K B lim σ H g Φ) : RepG K B [] σ H g Φ := by
  obtain ⟨F, zs, fp, en, o, f, hl⟩ := h
  exact ⟨F, zs, fp, en, o, f.sub (List.sublist_append_right _ _), fun _ z => nomatch z⟩
theorem RepG.only (h : RepG K B lim σ H g Φ) : RepG K B [] σ H g [] := (RepG.dropTs (xs := Φ) (Φ := []) (by rw [List.append_nil]; exact h)).lim0
theorem RepG.open_ {v : V} {s : Sh} {ts : List T} (h : RepG K B lim σ H g ((v, .node true s ts) :: Φ)) :
    ∃ a vs, v = .ref a ∧ vs.length = ts.length ∧ H a = some (s.mk a vs) ∧ RepG K B (a :: lim) σ H g (vs.zip ts ++ Φ) := by
  obtain ⟨F, zs, fp, en, o, f, hl⟩ := h
  obtain ⟨fp', pf, o'⟩ := o.perm (List.perm_middle (a := (v, T.node true s ts)))
  obtain ⟨f1, f2, rfl, p1, o2⟩ := OwnZ.uncons (zs := zs ++ Φ) o'
  have f' := f.perm (List.Perm.append_left lim pf)
  cases p1 with
  | @own a _ vs _ fk ha hk =>
    refine ⟨a, vs, rfl, hk.length, ha, ?_⟩
    have oz : OwnZ K F H (vs.zip ts ++ (zs ++ Φ)) (fk ++ f2) := hk.zip.append o2
    have ff : Fine B F H ((a :: lim) ++ (fk ++ f2)) := f'.perm (by
      rw [List.cons_append, List.cons_append]
      exact List.perm_middle)
    refine rep_items (ds := []) en oz ff (fun b z => ?_) ?_
    · rcases List.mem_cons.mp z with e | z
      · rw [e, ha]; exact nofun
      · exact hl b z
    · rw [List.nil_append, ← List.append_assoc, ← List.append_assoc]
      exact List.Perm.append_right _ List.perm_append_comm
theorem RepG.close {a : Addr} {s : Sh} {zs : Its} (h : RepG K B (a :: lim) σ H g (zs ++ Φ)) (ht : ∀ vs, H a = some (.tup vs) → s.mk a (zs.map (·.1)) = .tup vs) :
    RepG K B lim σ (upd H a (s.mk a (zs.map (·.1)))) g ((.ref a, .node true s (zs.map (·.2))) :: Φ) := by
  obtain ⟨F, ys, fp, en, o, f, hl⟩ := h
  have p : (ys ++ (zs ++ Φ)).Perm (zs ++ (ys ++ Φ)) := by
    rw [← List.append_assoc, ← List.append_assoc]
    exact List.Perm.append_right _ List.perm_append_comm
  obtain ⟨fp', pf, o'⟩ := o.perm p
  obtain ⟨f1, f2, rfl, o1, o2⟩ := o'.split
  have f' := f.perm (List.Perm.append_left (a :: lim) pf)
  have nd := f'.nd
  rw [List.cons_append, List.nodup_cons] at nd
  have na : a ∉ lim ∧ a ∉ f1 ∧ a ∉ f2 := by
    have := nd.1
    simp only [List.mem_append, not_or] at this
    exact this
  have nF : ¬ F a := f'.off a (by simp)
  have st : ∀ b o, b ≠ a → H b = some o → (upd H a (s.mk a (zs.map (·.1)))) b = some o := fun b o hb e => by rw [upd_ne hb]; exact e
  have stT : ∀ b vs, H b = some (.tup vs) → (upd H a (s.mk a (zs.map (·.1)))) b = some (.tup vs) := fun b vs e => by
    by_cases q : b = a
    · subst q
      rw [upd_same, ht vs e]
    · exact st b _ q e
  have k1 : OwnZ K F (upd H a (s.mk a (zs.map (·.1)))) zs f1 := o1.mono (fun _ z => z) (fun b hb o e => st b o (fun z => by subst z; rcases hb with q | q; exact nF q; exact na.2.1 q) e) stT
  have k2 : OwnZ K F (upd H a (s.mk a (zs.map (·.1)))) (ys ++ Φ) f2 := o2.mono (fun _ z => z) (fun b hb o e => st b o (fun z => by subst z; rcases hb with q | q; exact nF q; exact na.2.2 q) e) stT
  have oz : OwnZ K F (upd H a (s.mk a (zs.map (·.1)))) ((V.ref a, T.node true s (zs.map (·.2))) :: (ys ++ Φ)) ((a :: f1) ++ f2) := .cons (.own upd_same k1) k2
  have ff : Fine B F (upd H a (s.mk a (zs.map (·.1)))) (lim ++ ((a :: f1) ++ f2)) := by
    have f2' := f'.perm (show ((a :: lim) ++ (f1 ++ f2)).Perm (lim ++ ((a :: f1) ++ f2)) by
      rw [List.cons_append, List.cons_append]
      exact List.perm_middle.symm)
    refine ⟨f2'.nd, f2'.off, fun b z e => ?_, f2'.inc, fun b o e nb => ?_, f2'.newF, f2'.newO, fun b vs e => stT b vs (f2'.keepT b vs e)⟩
    · have hb : b ≠ a := fun q => by subst q; exact nF z
      rw [upd_ne hb] at e
      exact f2'.trk b z e
    · have hb : b ≠ a := fun q => by
        subst q
        rcases f2'.newO b (by simp) with q | q
        · exact nb q
        · rw [q] at e; cases e
      exact st b o hb (f2'.keep b o e nb)
  refine rep_items (ds := []) en oz ff (fun b z e => ?_) (List.perm_middle.symm)
  have hb : b ≠ a := fun q => by subst q; exact na.1 z
  rw [upd_ne hb] at e
  exact hl b (List.mem_cons_of_mem _ z) e
theorem RepG.alloc {p : Addr} {o : HO} (h : RepG K B lim σ H g Φ) (hp : H p = none) : RepG K B (p :: lim) σ (upd H p o) g Φ := by
  obtain ⟨F, zs, fp, en, oz, f, hl⟩ := h
  have st : ∀ b u, H b = some u → (upd H p o) b = some u := fun b u e => by rw [upd_ne (ne_of_none e hp)]; exact e
  have stn : ∀ b, H b ≠ none → (upd H p o) b ≠ none := fun b e => by
    cases q : H b with
    | none => exact absurd q e
    | some u => rw [st b u q]; exact nofun
  refine ⟨F, zs, fp, en, oz.mono (fun _ z => z) (fun b _ u e => st b u e) (fun b vs e => st b _ e), ⟨?_, fun a z => ?_, fun a z => stn a (f.trk a z), f.inc, fun a u e na => st a u (f.keep a u e na), f.newF, fun a z => ?_, fun a vs e => st a _ (f.keepT a vs e)⟩, fun b z => ?_⟩
  · rw [List.cons_append, List.nodup_cons]
    refine ⟨fun z => ?_, f.nd⟩
    rcases List.mem_append.mp z with z | z
    · exact hl p z hp
    · exact oz.tracked p z hp
  · rw [List.cons_append, List.mem_cons] at z
    rcases z with rfl | z
    · exact fun q => f.trk a q hp
    · exact f.off a z
  · rw [List.cons_append, List.mem_cons] at z
    rcases z with rfl | z
    · by_cases hb : a ∈ B.fp0
      · exact .inl hb
      · refine .inr ?_
        cases q : B.H0 a with
        | none => rfl
        | some u =>
          have := f.keep a u q hb
          rw [hp] at this; cases this
    · exact f.newO a z
  · rcases List.mem_cons.mp z with rfl | z
    · rw [upd_same]; exact nofun
    · exact stn b (hl b z)
theorem RepG.make {p : Addr} {s : Sh} {zs : Its} (h : RepG K B lim σ H g (zs ++ Φ)) (hp : H p = none) :
    RepG K B lim σ (upd H p (s.mk p (zs.map (·.1)))) g ((.ref p, .node true s (zs.map (·.2))) :: Φ) := by
  have q := (h.alloc (o := s.mk p (zs.map (·.1))) hp).close (s := s) (fun vs e => by rw [upd_same] at e; exact Option.some.inj e)
  rwa [upd_upd] at q
theorem RepG.node {v : V} {o : Bool} {s : Sh} {ts : List T} (h : RepG K B lim σ H g ((v, .node o s ts) :: Φ)) :
    ∃ a vs, v = .ref a ∧ vs.length = ts.length ∧ (Rd H a (s.mk a vs) ∨ Konst K a vs s) := by
  obtain ⟨F, zs, fp, en, oz, f, hl⟩ := h
  obtain ⟨fp', pf, o'⟩ := oz.perm (List.perm_middle (a := (v, T.node o s ts)))
  obtain ⟨f1, f2, rfl, p1, o2⟩ := OwnZ.uncons (zs := zs ++ Φ) o'
  cases p1 with
  | fz hf hr hk => exact ⟨_, _, rfl, hk.length, .inl (.inl hr)⟩
  | kz hc _ hk => exact ⟨_, _, rfl, hk.length, .inr hc⟩
  | tk hr hk => exact ⟨_, _, rfl, hk.length, .inl (.inl hr)⟩
  | own ha hk => exact ⟨_, _, rfl, hk.length, .inl (.inl ha)⟩
theorem RepG.nodeH {v : V} {o : Bool} {s : Sh} {ts : List T} (h : RepG K B lim σ H g ((v, .node o s ts) :: Φ)) (hs : s ≠ .tup) :
    ∃ a vs, v = .ref a ∧ vs.length = ts.length ∧ H a = some (s.mk a vs) := by
  obtain ⟨F, zs, fp, en, oz, f, hl⟩ := h
  obtain ⟨fp', pf, o'⟩ := oz.perm (List.perm_middle (a := (v, T.node o s ts)))
  obtain ⟨f1, f2, rfl, p1, o2⟩ := OwnZ.uncons (zs := zs ++ Φ) o'
  cases p1 with
  | fz hf hr hk => exact ⟨_, _, rfl, hk.length, hr⟩
  | kz hc _ hk => exact absurd rfl hs
  | tk _ _ => exact absurd rfl hs
  | own ha hk => exact ⟨_, _, rfl, hk.length, ha⟩
theorem RepG.kids {v : V} {s : Sh} {ts : List T} (h : RepG K B lim σ H g ((v, .node false s ts) :: Φ)) :
    ∃ a vs, v = .ref a ∧ vs.length = ts.length ∧ (Rd H a (s.mk a vs) ∨ Konst K a vs s) ∧ RepG K B lim σ H g (vs.zip ts ++ (v, .node false s ts) :: Φ) := by
  obtain ⟨F, zs, fp, en, oz, f, hl⟩ := h
  obtain ⟨fp', pf, o'⟩ := oz.perm (List.perm_middle (a := (v, T.node false s ts)))
  obtain ⟨f1, f2, rfl, p1, o2⟩ := OwnZ.uncons (zs := zs ++ Φ) o'
  have f' := f.perm (List.Perm.append_left lim pf)
  have p1' := p1
  have fin : ∀ vs : List V, OwnL K F H vs ts [] → f1 = [] → RepG K B lim σ H g (vs.zip ts ++ (v, .node false s ts) :: Φ) := fun vs hk e => by
    subst e
    have oz2 : OwnZ K F H (vs.zip ts ++ ((v, T.node false s ts) :: (zs ++ Φ))) ([] ++ ([] ++ f2)) := hk.zip.append (.cons p1' o2)
    refine rep_items (ds := []) en oz2 f' hl ?_
    rw [List.nil_append]
    have e1 : (vs.zip ts ++ (v, T.node false s ts) :: (zs ++ Φ)).Perm ((zs ++ ((v, T.node false s ts) :: Φ)) ++ vs.zip ts) :=
      List.perm_append_comm.trans (List.Perm.append_right _ List.perm_middle.symm)
    refine e1.trans ?_
    rw [List.append_assoc]
    exact List.Perm.append_left _ List.perm_append_comm
  cases p1 with
  | fz hf hr hk => exact ⟨_, _, rfl, hk.length, .inl (.inl hr), fin _ hk rfl⟩
  | kz hc _ hk => exact ⟨_, _, rfl, hk.length, .inr hc, fin _ hk rfl⟩
  | tk hr hk => exact ⟨_, _, rfl, hk.length, .inl (.inl hr), fin _ hk rfl⟩
theorem RepG.leaf {v : V} {w : V} (h : RepG K B lim σ H g ((v, .leaf w) :: Φ)) : v = w := by
  obtain ⟨F, zs, fp, en, oz, f, hl⟩ := h
  obtain ⟨fp', pf, o'⟩ := oz.perm (List.perm_middle (a := (v, T.leaf w)))
  obtain ⟨f1, f2, rfl, p1, o2⟩ := OwnZ.uncons (zs := zs ++ Φ) o'
  cases p1
  rfl
theorem RepG.addLeaf {v : V} (h : RepG K B lim σ H g Φ) : RepG K B lim σ H g ((v, .leaf v) :: Φ) := by
  obtain ⟨F, zs, fp, en, oz, f, hl⟩ := h
  exact rep_items (ds := []) en (OwnZ.cons (fp := []) (.leaf v) oz) f hl List.perm_middle.symm
theorem RepG.grow (h : RepG K B lim σ H g Φ) (e : ∀ a o, H a = some o → H' a = some o) : RepG K B lim σ H' g Φ := by
  obtain ⟨F, zs, fp, en, oz, f, hl⟩ := h
  have stn : ∀ b, H b ≠ none → H' b ≠ none := fun b q => by
    cases z : H b with
    | none => exact absurd z q
    | some u => rw [e b u z]; exact nofun
  exact ⟨F, zs, fp, en, oz.mono (fun _ z => z) (fun b _ u q => e b u q) (fun b vs q => e b _ q), ⟨f.nd, f.off, fun a z => stn a (f.trk a z), f.inc, fun a u q na => e a u (f.keep a u q na), f.newF, f.newO, fun a vs q => e a _ (f.keepT a vs q)⟩, fun b z => stn b (hl b z)⟩
theorem seqL {a : Addr} {vs : List V} (h : Rd H a (Sh.lst.mk a vs) ∨ Konst K a vs .lst) : SqL K H a vs := h
theorem seqT {a : Addr} {vs : List V} (h : Rd H a (Sh.tup.mk a vs) ∨ Konst K a vs .tup) : SqT K H a vs := h
end
abbrev XP := Value → List (Str × V) → Ev → Prop
abbrev DTE := Ev → (T → Ev → Prop) → XP → Prop
abbrev DTT := Ev → (Bool → Ev → Prop) → XP → Prop
abbrev DTA := Ev → (List T → Ev → Prop) → XP → Prop
structure DEnds where
  nx : Ev → Prop
  rt : T → Ev → Prop
  ex : XP
  bk : Ev → Prop := fun _ => False
  ct : Ev → Prop := fun _ => False
abbrev DTS := DEnds → Ev → Prop
def XD (d : Option Addr) (fs : List (Str × V)) (H : Hp) : Prop := match fs with
  | [] => d = none
  | f :: r => ∃ a, d = some a ∧ H a = some (.xd (f :: r))
def ckN : Nat → Str
  | 0 => "PollError" | 1 => "NoNumber" | 2 => "NoBallot" | 3 => "NoSheet" | 4 => "NoChange" | 5 => "Torn" | 6 => "NoBundle" | 7 => "WrongNumber" | 8 => "NoWay" | 9 => "NoRoll"
  | 10 => "NoTelling" | 11 => "NoEnvelope" | 12 => "NoLand" | 13 => "TooMany" | 14 => "NoPoll" | 15 => "NoDeed" | 16 => "Ended" | 17 => "Nothing" | 18 => "NoText" | 19 => "NoRow"
  | _ => "PollError"
abbrev cxN (n : Nat) : Value := .int (n : Nat) 0
def sym (mg : Str → Option Value) : Value → Value → Prop := fun x c => ∃ n, x = cxN n ∧ mg (ckN n) = some c
def upW (mg : Str → Option Value) (W : WX) : WX := fun c d σ H => ∃ x, sym mg x c ∧ W x d σ H
def liftX (K : PySem.W.Frag) (B : Bs) (W : WX) (σ : St) (E : XP) : Prop := ∀ c fs g d H, RepG K B [] σ H g [] → XD d fs H → E c fs g → W c d σ H
def liftE (K : PySem.W.Frag) (B : Bs) (W : WX) (t : DTE) : TE := fun σ H Q => ∃ (Φ : Its) (lim : List Addr) (g : Ev) (E : XP), RepG K B lim σ H g Φ ∧ liftX K B W σ E ∧
  t g (fun τ g' => ∀ v H', RepG K B lim σ H' g' ((v, τ) :: Φ) → Q v H') E
def liftT (K : PySem.W.Frag) (B : Bs) (W : WX) (t : DTT) : TT := fun σ H Q => ∃ (Φ : Its) (lim : List Addr) (g : Ev) (E : XP), RepG K B lim σ H g Φ ∧ liftX K B W σ E ∧
  t g (fun b g' => ∀ H', RepG K B lim σ H' g' Φ → Q b H') E
def BackOk (σ : St) : List V → List (Option Nat) → Prop
  | [], [] => True
  | v :: vs, some j :: bs => σ[j]? = some (some v) ∧ BackOk σ vs bs
  | _ :: vs, none :: bs => BackOk σ vs bs
  | _, _ => False
def liftA (K : PySem.W.Frag) (B : Bs) (W : WX) (bs : List (Option Nat)) (t : DTA) : TA := fun σ H Q => ∃ (Φ : Its) (lim : List Addr) (g : Ev) (E : XP), RepG K B lim σ H g Φ ∧ liftX K B W σ E ∧
  t g (fun τs g' => ∀ vs H', vs.length = τs.length → BackOk σ vs bs → RepG K B lim σ H' g' (vs.zip τs ++ Φ) → Q vs H') E
def Kept (m : Nat → Bool) (σ σ' : St) : Prop := σ'.length = σ.length ∧ ∀ i, m i = true → σ'[i]? = σ[i]?
def low (K : PySem.W.Frag) (B : Bs) (m : Nat → Bool) (σ0 : St) (lim : List Addr) (Φ : Its) (D : Ends) (E : XP) : DEnds :=
  { nx := fun g' => ∀ σ' H', RepG K B lim σ' H' g' Φ → Kept m σ0 σ' → D.nx σ' H', rt := fun τ g' => ∀ v σ' H', RepG K B [] σ' H' g' [(v, τ)] → Kept m σ0 σ' → D.rt v H', ex := E,
    bk := fun g' => ∀ σ' H', RepG K B lim σ' H' g' Φ → Kept m σ0 σ' → D.bk σ' H', ct := fun g' => ∀ σ' H', RepG K B lim σ' H' g' Φ → Kept m σ0 σ' → D.ct σ' H' }
def liftS (K : PySem.W.Frag) (B : Bs) (W : WX) (m : Nat → Bool) (σ0 : St) (t : DTS) : TS := fun D σ H => ∃ (Φ : Its) (lim : List Addr) (g : Ev) (E : XP), RepG K B lim σ H g Φ ∧ Kept m σ0 σ ∧
  (∀ σ, Kept m σ0 σ → liftX K B W σ E) ∧ t (low K B m σ0 lim Φ D E) g
structure DE (X : Cx) (W : WX) (e : Expr) (t : DTE) : Prop where
  run : ∀ B, PE X e (liftE X.K B W t)
  mono : ∀ g Q Q' E E', (∀ τ g', Q τ g' → Q' τ g') → (∀ c fs g', E c fs g' → E' c fs g') → t g Q E → t g Q' E'
structure DT (X : Cx) (W : WX) (e : Expr) (t : DTT) : Prop where
  run : ∀ B, PT X e (liftT X.K B W t)
  mono : ∀ g Q Q' E E', (∀ b g', Q b g' → Q' b g') → (∀ c fs g', E c fs g' → E' c fs g') → t g Q E → t g Q' E'
structure DW (X : Cx) (W : WX) (e : Expr) (t : DTT) : Prop where
  run : ∀ B, PW X e (liftT X.K B W t)
  mono : ∀ g Q Q' E E', (∀ b g', Q b g' → Q' b g') → (∀ c fs g', E c fs g' → E' c fs g') → t g Q E → t g Q' E'
structure DA (X : Cx) (W : WX) (es : List Expr) (bs : List (Option Nat)) (t : DTA) : Prop where
  run : ∀ B, PA X es (liftA X.K B W bs t)
  mono : ∀ g Q Q' E E', (∀ τs g', Q τs g' → Q' τs g') → (∀ c fs g', E c fs g' → E' c fs g') → t g Q E → t g Q' E'
structure DEnds.Le (D D' : DEnds) : Prop where
  nx : ∀ g, D.nx g → D'.nx g
  rt : ∀ τ g, D.rt τ g → D'.rt τ g
  ex : ∀ c fs g, D.ex c fs g → D'.ex c fs g
  bk : ∀ g, D.bk g → D'.bk g
  ct : ∀ g, D.ct g → D'.ct g
structure DS (X : Cx) (W : WX) (m : Nat → Bool) (st : Stmt) (t : DTS) : Prop where
  run : ∀ B σ0, PS X st (liftS X.K B W m σ0 t)
  mono : ∀ D D' g, D.Le D' → t D g → t D' g
structure DSs (X : Cx) (W : WX) (m : Nat → Bool) (st : List Stmt) (t : DTS) : Prop where
  run : ∀ B σ0, PSs X st (liftS X.K B W m σ0 t)
  mono : ∀ D D' g, D.Le D' → t D g → t D' g
theorem PE.imp {X : Cx} {e : Expr} {t t' : TE} (h : PE X e t) (i : ∀ σ H Q, t' σ H Q → t σ H Q) : PE X e t' := ⟨fun pins s σ H Q I hw => h.run pins s σ H Q I (i σ H Q hw)⟩
theorem PT.imp {X : Cx} {e : Expr} {t t' : TT} (h : PT X e t) (i : ∀ σ H Q, t' σ H Q → t σ H Q) : PT X e t' := ⟨fun pins s σ H Q I hw => h.run pins s σ H Q I (i σ H Q hw)⟩
theorem PW.imp {X : Cx} {e : Expr} {t t' : TT} (h : PW X e t) (i : ∀ σ H Q, t' σ H Q → t σ H Q) : PW X e t' := ⟨fun wh pins s σ H Q I hw => h.run wh pins s σ H Q I (i σ H Q hw)⟩
theorem PA.imp {X : Cx} {e : List Expr} {t t' : TA} (h : PA X e t) (i : ∀ σ H Q, t' σ H Q → t σ H Q) : PA X e t' := ⟨fun pos pins s σ H Q I hw => h.run pos pins s σ H Q I (i σ H Q hw)⟩
theorem PS.imp {X : Cx} {e : Stmt} {t t' : TS} (h : PS X e t) (i : ∀ D σ H, t' D σ H → t D σ H) : PS X e t' := ⟨fun pins s σ H D I hw => h.run pins s σ H D I (i D σ H hw)⟩
theorem PSs.imp {X : Cx} {e : List Stmt} {t t' : TS} (h : PSs X e t) (i : ∀ D σ H, t' D σ H → t D σ H) : PSs X e t' := ⟨fun pins s σ H D I hw => h.run pins s σ H D I (i D σ H hw)⟩
section
variable {X : Cx} {W : WX} {m : Nat → Bool} {a b c e : Expr} {es : List Expr} {ta tb tc te : DTE} {pos : Pos}
def xVar (i : Nat) : DTE := fun g Q _ => match g[i]? with
  | some (some t) => frz t = t ∧ Q t g
  | _ => False
def xFrz (i : Nat) : DTE := fun g Q _ => match g[i]? with
  | some (some t) => Q (frz t) (g.set i (some (frz t)))
  | _ => False
def xMov (i : Nat) : DTE := fun g Q _ => match g[i]? with
  | some (some t) => Q t (g.set i none)
  | _ => False
def xC (v : V) : DTE := fun g Q _ => Q (.leaf v) g
theorem m_match {i : Nat} {g : Ev} {P P' : T → Prop} (h : ∀ t, P t → P' t) : (match g[i]? with | some (some t) => P t | _ => False) → (match g[i]? with | some (some t) => P' t | _ => False) := by
  intro q
  split at q
  · rename_i t e
    exact h t q
  · exact q.elim
theorem d_var (i : Nat) (h : PE X e (tVar i)) : DE X W e (xVar i) := by
  refine ⟨fun B => PE.imp h fun σ H Q ⟨Φ, lim, g, E, r, hx, q⟩ => ?_, fun g Q Q' E E' hq _ q => m_match (fun t z => ⟨z.1, hq _ _ z.2⟩) q⟩
  unfold xVar at q
  split at q
  · rename_i t ht
    obtain ⟨v, hv, r'⟩ := r.look ht q.1
    exact ⟨v, hv, q.2 v H r'⟩
  · exact q.elim
theorem d_frz (i : Nat) (h : PE X e (tVar i)) : DE X W e (xFrz i) := by
  refine ⟨fun B => PE.imp h fun σ H Q ⟨Φ, lim, g, E, r, hx, q⟩ => ?_, fun g Q Q' E E' hq _ q => m_match (fun t z => hq _ _ z) q⟩
  unfold xFrz at q
  split at q
  · rename_i t ht
    have hi : i < g.length := by
      rw [List.getElem?_eq_some_iff] at ht
      exact ht.1
    obtain ⟨v, hv, r'⟩ := (r.freeze ht).look (List.getElem?_set_self hi) (frz_frz t)
    exact ⟨v, hv, q v H r'⟩
  · exact q.elim
theorem d_mov (i : Nat) (h : PE X e (tVar i)) : DE X W e (xMov i) := by
  refine ⟨fun B => PE.imp h fun σ H Q ⟨Φ, lim, g, E, r, hx, q⟩ => ?_, fun g Q Q' E E' hq _ q => m_match (fun t z => hq _ _ z) q⟩
  unfold xMov at q
  split at q
  · rename_i t ht
    obtain ⟨v, hv, r'⟩ := r.move ht
    exact ⟨v, hv, q v H r'⟩
  · exact q.elim
theorem d_c {v : V} (h : PE X e (tC v)) : DE X W e (xC v) := by
  refine ⟨fun B => PE.imp h fun σ H Q ⟨Φ, lim, g, E, r, hx, q⟩ => ?_, fun g Q Q' E E' hq _ q => hq _ _ q⟩
  exact q v H r.addLeaf
theorem d_int {i j pos} : DE X W (.Constant (.int i) j pos) (xC (.int i)) := d_c pe_int
theorem d_bl {b j pos} : DE X W (.Constant (.bool b) j pos) (xC (.bl b)) := d_c pe_bl
theorem d_non {j pos} : DE X W (.Constant .none j pos) (xC .non) := d_c pe_non
theorem d_str {x j pos} : DE X W (.Constant (.str x) j pos) (xC (.str x)) := d_c pe_str
def ifB : Bool → Prop → Prop → Prop
  | true, a, _ => a
  | false, _, b => b
theorem ifB_dec {p : Prop} [Decidable p] {a b : Prop} (h1 : p → a) (h2 : ¬ p → b) : ifB (decide p) a b := by
  by_cases h : p
  · rw [decide_eq_true h]
    exact h1 h
  · rw [decide_eq_false h]
    exact h2 h
theorem ifB_of {c : Bool} {a b : Prop} (h1 : c = true → a) (h2 : c = false → b) : ifB c a b := by
  cases c with
  | true => exact h1 rfl
  | false => exact h2 rfl
abbrev R2T := T → T → (T → Prop) → Prop
def Op2 (K : PySem.W.Frag) (r : R2) (rt : R2T) : Prop :=
  (∀ (B : Bs) (lim : List Addr) (σ : St) (H : Hp) (g : Ev) (Φ : Its) (v1 v2 : V) (τ1 τ2 : T) (Q : VK), RepG K B lim σ H g ((v2, τ2) :: (v1, τ1) :: Φ) →
    rt τ1 τ2 (fun τ => ∀ v H', RepG K B lim σ H' g ((v, τ) :: Φ) → Q v H') → r v1 v2 H Q) ∧
  ∀ τ1 τ2 Q Q', (∀ τ, Q τ → Q' τ) → rt τ1 τ2 Q → rt τ1 τ2 Q'
def xOp (rt : R2T) (ta tb : DTE) : DTE := fun g Q E => ta g (fun τ1 g1 => tb g1 (fun τ2 g2 => rt τ1 τ2 fun τ => Q τ g2) E) E
theorem lift2 {K : PySem.W.Frag} {B : Bs} {σ : St} {H : Hp} {R : V → V → Hp → Prop} {R' : T → T → Ev → Prop} {Φ : Its} {lim : List Addr} {g : Ev} {E : XP} (r : RepG K B lim σ H g Φ) (hx : liftX K B W σ E)
    (mb : ∀ g Q Q' E E', (∀ τ g', Q τ g' → Q' τ g') → (∀ c fs g', E c fs g' → E' c fs g') → tb g Q E → tb g Q' E')
    (ma : ∀ g Q Q' E E', (∀ τ g', Q τ g' → Q' τ g') → (∀ c fs g', E c fs g' → E' c fs g') → ta g Q E → ta g Q' E')
    (q : ta g (fun τ1 g1 => tb g1 (fun τ2 g2 => R' τ1 τ2 g2) E) E) (h : ∀ v1 v2 τ1 τ2 g2 H2, RepG K B lim σ H2 g2 ((v2, τ2) :: (v1, τ1) :: Φ) → R' τ1 τ2 g2 → R v1 v2 H2) :
    liftE K B W ta σ H fun x H1 => liftE K B W tb σ H1 fun y H2 => R x y H2 := by
  refine ⟨Φ, lim, g, E, r, hx, ma _ _ _ _ _ (fun τ1 g1 q1 v1 H1 r1 => ?_) (fun _ _ _ z => z) q⟩
  exact ⟨(v1, τ1) :: Φ, lim, g1, E, r1, hx, mb _ _ _ _ _ (fun τ2 g2 q2 v2 H2 r2 => h v1 v2 τ1 τ2 g2 H2 r2 q2) (fun _ _ _ z => z) q1⟩
theorem d_op2 {op : Operator} {r : R2} {rt : R2T} (ho : OpR X (binaryOp op) r) (hr : Op2 X.K r rt) (ha : DE X W a ta) (hb : DE X W b tb) : DE X W (.BinOp a op b pos) (xOp rt ta tb) := by
  refine ⟨fun B => PE.imp (pe_op ho (ha.run B) (hb.run B)) fun σ H Q ⟨Φ, lim, g, E, r, hx, q⟩ => ?_, fun g Q Q' E E' hq he q => ?_⟩
  · exact lift2 r hx hb.mono ha.mono q fun v1 v2 τ1 τ2 g2 H2 r2 q2 => hr.1 B lim σ H2 g2 Φ v1 v2 τ1 τ2 Q r2 q2
  · exact ha.mono _ _ _ _ _ (fun τ1 g1 q1 => hb.mono _ _ _ _ _ (fun τ2 g2 q2 => hr.2 _ _ _ _ (fun τ z => hq _ _ z) q2) he q1) he q
def rtI (C : Int → Int → Prop) (f : Int → Int → V) : R2T := fun τ1 τ2 Q => match τ1, τ2 with
  | .leaf (.int i), .leaf (.int j) => C i j ∧ Q (.leaf (f i j))
  | _, _ => False
def rtI0 (f : Int → Int → V) : R2T := fun τ1 τ2 Q => match τ1, τ2 with
  | .leaf (.int i), .leaf (.int j) => Q (.leaf (f i j))
  | _, _ => False
theorem op2_I {K : PySem.W.Frag} {C C' : Int → Int → Prop} {f : Int → Int → V} (hc : ∀ i j, C' i j → C i j) : Op2 K (rI C f) (rtI C' f) := by
  refine ⟨fun B lim σ H g Φ v1 v2 τ1 τ2 Q r q => ?_, fun τ1 τ2 Q Q' hq q => ?_⟩
  · unfold rtI at q
    split at q
    · obtain rfl := r.leaf
      obtain rfl := r.dropT.leaf
      exact ⟨_, _, rfl, rfl, hc _ _ q.1, q.2 _ _ r.dropT.dropT.addLeaf⟩
    · exact q.elim
  · unfold rtI at q
    split at q
    · exact ⟨q.1, hq _ q.2⟩
    · exact q.elim
theorem op2_I0 {K : PySem.W.Frag} {f : Int → Int → V} : Op2 K (rI0 f) (rtI0 f) := by
  refine ⟨fun B lim σ H g Φ v1 v2 τ1 τ2 Q r q => ?_, fun τ1 τ2 Q Q' hq q => ?_⟩
  · unfold rtI0 at q
    split at q
    · obtain rfl := r.leaf
      obtain rfl := r.dropT.leaf
      exact ⟨_, _, rfl, rfl, q _ _ r.dropT.dropT.addLeaf⟩
    · exact q.elim
  · unfold rtI0 at q
    split at q
    · exact hq _ q
    · exact q.elim
end
end DL
set_option Elab.async false
set_option linter.all false
set_option maxRecDepth 100000
set_option maxHeartbeats 4000000
namespace DL
open PySem L2
section
variable {X : Cx} {W : WX} {m : Nat → Bool} {a b c e : Expr} {es : List Expr} {ta tb tc te : DTE} {tA tB' : DTT} {pos : Pos}
theorem d_cmp {op : CmpOp} {r : R2} {rt : R2T} (ho : OpR X (compareOp op) r) (hr : Op2 X.K r rt) (ha : DE X W a ta) (hb : DE X W b tb) (hm : behindInMarks op b = false) : DE X W (.Compare a [op] [b] pos) (xOp rt ta tb) := by
  refine ⟨fun B => PE.imp (pe_cmpR ho (ha.run B) (hb.run B) hm) fun σ H Q ⟨Φ, lim, g, E, r, hx, q⟩ => ?_, fun g Q Q' E E' hq he q => ?_⟩
  · exact lift2 r hx hb.mono ha.mono q fun v1 v2 τ1 τ2 g2 H2 r2 q2 => hr.1 B lim σ H2 g2 Φ v1 v2 τ1 τ2 Q r2 q2
  · exact ha.mono _ _ _ _ _ (fun τ1 g1 q1 => hb.mono _ _ _ _ _ (fun τ2 g2 q2 => hr.2 _ _ _ _ (fun τ z => hq _ _ z) q2) he q1) he q
def xB (te : DTE) : DTT := fun g Q E => te g (fun τ g1 => match τ with
  | .leaf (.bl b) => Q b g1
  | _ => False) E
theorem m_bl {g1 : Ev} {Q Q' : Bool → Ev → Prop} (h : ∀ b g', Q b g' → Q' b g') : ∀ {τ : T}, (match τ with | .leaf (.bl b) => Q b g1 | _ => False) → (match τ with | .leaf (.bl b) => Q' b g1 | _ => False) := by
  intro τ q
  split at q
  · exact h _ _ q
  · exact q.elim
theorem dt_cmp {op : CmpOp} {rr : R2} {rt : R2T} (ho : OpR X (compareOp op) rr) (hr : Op2 X.K rr rt) (ha : DE X W a ta) (hb : DE X W b tb) (hm : behindInMarks op b = false) : DT X W (.Compare a [op] [b] pos) (xB (xOp rt ta tb)) := by
  refine ⟨fun B => PT.imp (pt_cmpR ho (ha.run B) (hb.run B) hm) fun σ H Q ⟨Φ, lim, g, E, r, hx, q⟩ => ?_, fun g Q Q' E E' hq he q => ?_⟩
  · refine lift2 (R := fun v1 v2 H2 => rr v1 v2 H2 fun x H3 => ∃ k, x = .bl k ∧ Q k H3) r hx hb.mono ha.mono q fun v1 v2 τ1 τ2 g2 H2 r2 q2 => hr.1 B lim σ H2 g2 Φ v1 v2 τ1 τ2 _ r2 (hr.2 _ _ _ _ (fun τ z v H' r' => ?_) q2)
    dsimp only at z
    split at z
    · obtain rfl := r'.leaf
      exact ⟨_, rfl, z H' r'.dropT⟩
    · exact z.elim
  · exact ha.mono _ _ _ _ _ (fun τ1 g1 q1 => hb.mono _ _ _ _ _ (fun τ2 g2 q2 => hr.2 _ _ _ _ (fun τ z => m_bl hq z) q2) he q1) he q
def xAnd (t u : DTT) : DTT := fun g Q E => t g (fun b g1 => ifB b (u g1 Q E) (Q false g1)) E
def xOr (t u : DTT) : DTT := fun g Q E => t g (fun b g1 => ifB b (Q true g1) (u g1 Q E)) E
def xNot (t : DTT) : DTT := fun g Q E => t g (fun b g1 => Q (!b) g1) E
theorem DW.dt (h : DW X W e tA) : DT X W e tA := ⟨fun B => (h.run B).pt, h.mono⟩
theorem dw_and1 (h : DT X W a tA) : DW X W (.BoolOp .And [a] pos) tA := ⟨fun B => pw_and1 (h.run B), h.mono⟩
theorem dw_or1 (h : DT X W a tA) : DW X W (.BoolOp .Or [a] pos) tA := ⟨fun B => pw_or1 (h.run B), h.mono⟩
theorem xAnd_mono (ha : ∀ g Q Q' E E', (∀ b g', Q b g' → Q' b g') → (∀ c fs g', E c fs g' → E' c fs g') → tA g Q E → tA g Q' E') (hb : ∀ g Q Q' E E', (∀ b g', Q b g' → Q' b g') → (∀ c fs g', E c fs g' → E' c fs g') → tB' g Q E → tB' g Q' E') :
    ∀ g Q Q' E E', (∀ b g', Q b g' → Q' b g') → (∀ c fs g', E c fs g' → E' c fs g') → xAnd tA tB' g Q E → xAnd tA tB' g Q' E' := fun g Q Q' E E' hq he q =>
  ha _ _ _ _ _ (fun b g1 q1 => by
    cases b with
    | true => exact hb _ _ _ _ _ hq he q1
    | false => exact hq _ _ q1) he q
theorem xOr_mono (ha : ∀ g Q Q' E E', (∀ b g', Q b g' → Q' b g') → (∀ c fs g', E c fs g' → E' c fs g') → tA g Q E → tA g Q' E') (hb : ∀ g Q Q' E E', (∀ b g', Q b g' → Q' b g') → (∀ c fs g', E c fs g' → E' c fs g') → tB' g Q E → tB' g Q' E') :
    ∀ g Q Q' E E', (∀ b g', Q b g' → Q' b g') → (∀ c fs g', E c fs g' → E' c fs g') → xOr tA tB' g Q E → xOr tA tB' g Q' E' := fun g Q Q' E E' hq he q =>
  ha _ _ _ _ _ (fun b g1 q1 => by
    cases b with
    | true => exact hq _ _ q1
    | false => exact hb _ _ _ _ _ hq he q1) he q
theorem dw_and {rest : List Expr} (ha : DT X W a tA) (hb : DW X W (.BoolOp .And (b :: rest) pos) tB') : DW X W (.BoolOp .And (a :: b :: rest) pos) (xAnd tA tB') := by
  refine ⟨fun B => PW.imp (pw_and (ha.run B) (hb.run B)) fun σ H Q ⟨Φ, lim, g, E, r, hx, q⟩ => ?_, xAnd_mono ha.mono hb.mono⟩
  refine ⟨Φ, lim, g, E, r, hx, ha.mono _ _ _ _ _ (fun b g1 q1 H1 r1 => ?_) (fun _ _ _ z => z) q⟩
  cases b with
  | true => exact ⟨Φ, lim, g1, E, r1, hx, q1⟩
  | false => exact q1 H1 r1
theorem dw_or {rest : List Expr} (ha : DT X W a tA) (hb : DW X W (.BoolOp .Or (b :: rest) pos) tB') : DW X W (.BoolOp .Or (a :: b :: rest) pos) (xOr tA tB') := by
  refine ⟨fun B => PW.imp (pw_or (ha.run B) (hb.run B)) fun σ H Q ⟨Φ, lim, g, E, r, hx, q⟩ => ?_, xOr_mono ha.mono hb.mono⟩
  refine ⟨Φ, lim, g, E, r, hx, ha.mono _ _ _ _ _ (fun b g1 q1 H1 r1 => ?_) (fun _ _ _ z => z) q⟩
  cases b with
  | true => exact q1 H1 r1
  | false => exact ⟨Φ, lim, g1, E, r1, hx, q1⟩
theorem dt_not (ha : DT X W a tA) : DT X W (.UnaryOp .Not a pos) (xNot tA) := by
  refine ⟨fun B => PT.imp (pt_not (ha.run B)) fun σ H Q ⟨Φ, lim, g, E, r, hx, q⟩ => ?_, fun g Q Q' E E' hq he q => ha.mono _ _ _ _ _ (fun b g1 q1 => hq _ _ q1) he q⟩
  exact ⟨Φ, lim, g, E, r, hx, q⟩
def xAndV (ta tb : DTE) : DTE := fun g Q E => ta g (fun τ g1 => match τ with
  | .leaf (.bl b) => ifB b (tb g1 Q E) (Q (.leaf (.bl false)) g1)
  | _ => False) E
def xNotV (ta : DTE) : DTE := fun g Q E => ta g (fun τ g1 => match τ with
  | .leaf (.bl b) => Q (.leaf (.bl (!b))) g1
  | _ => False) E
theorem d_one {op} (h : DE X W a ta) : DE X W (.BoolOp op [a] pos) ta := ⟨fun B => pe_one (h.run B), h.mono⟩
theorem d_and {rest : List Expr} (ha : DE X W a ta) (hb : DE X W (.BoolOp .And (b :: rest) pos) tb) : DE X W (.BoolOp .And (a :: b :: rest) pos) (xAndV ta tb) := by
  refine ⟨fun B => PE.imp (pe_and (ha.run B) (hb.run B)) fun σ H Q ⟨Φ, lim, g, E, r, hx, q⟩ => ?_, fun g Q Q' E E' hq he q => ?_⟩
  · refine ⟨Φ, lim, g, E, r, hx, ha.mono _ _ _ _ _ (fun τ g1 q1 v H1 r1 => ?_) (fun _ _ _ z => z) q⟩
    split at q1
    · rename_i b
      obtain rfl := r1.leaf
      refine ⟨_, rfl, ?_⟩
      cases b with
      | true =>
        exact ⟨Φ, lim, g1, E, r1.dropT, hx, q1⟩
      | false =>
        exact q1 _ H1 r1.dropT.addLeaf
    · exact q1.elim
  · refine ha.mono _ _ _ _ _ (fun τ g1 q1 => ?_) he q
    split at q1
    · rename_i b
      cases b with
      | true =>
        exact hb.mono _ _ _ _ _ hq he q1
      | false =>
        exact hq _ _ q1
    · exact q1.elim
theorem d_not (ha : DE X W a ta) : DE X W (.UnaryOp .Not a pos) (xNotV ta) := by
  refine ⟨fun B => PE.imp (pe_not (ha.run B)) fun σ H Q ⟨Φ, lim, g, E, r, hx, q⟩ => ?_, fun g Q Q' E E' hq he q => ?_⟩
  · refine ⟨Φ, lim, g, E, r, hx, ha.mono _ _ _ _ _ (fun τ g1 q1 v H1 r1 => ?_) (fun _ _ _ z => z) q⟩
    split at q1
    · obtain rfl := r1.leaf
      exact ⟨_, rfl, q1 _ H1 r1.dropT.addLeaf⟩
    · exact q1.elim
  · refine ha.mono _ _ _ _ _ (fun τ g1 q1 => ?_) he q
    split at q1
    · exact hq _ _ q1
    · exact q1.elim
def xIte (t : DTT) (ta tb : DTE) : DTE := fun g Q E => t g (fun b g1 => ifB b (ta g1 Q E) (tb g1 Q E)) E
theorem d_ite (hc : DT X W c tA) (ha : DE X W a ta) (hb : DE X W b tb) : DE X W (.IfExp c a b pos) (xIte tA ta tb) := by
  refine ⟨fun B => PE.imp (pe_ifExp (hc.run B) (ha.run B) (hb.run B)) fun σ H Q ⟨Φ, lim, g, E, r, hx, q⟩ => ?_, fun g Q Q' E E' hq he q => hc.mono _ _ _ _ _ (fun b g1 q1 => ?_) he q⟩
  · refine ⟨Φ, lim, g, E, r, hx, hc.mono _ _ _ _ _ (fun b g1 q1 H1 r1 => ?_) (fun _ _ _ z => z) q⟩
    cases b with
    | true => exact ⟨Φ, lim, g1, E, r1, hx, q1⟩
    | false => exact ⟨Φ, lim, g1, E, r1, hx, q1⟩
  · cases b with
    | true => exact ha.mono _ _ _ _ _ hq he q1
    | false => exact hb.mono _ _ _ _ _ hq he q1
def aNil : DTA := fun g Q _ => Q [] g
def aCons (te : DTE) (t : DTA) : DTA := fun g Q E => te g (fun τ g1 => t g1 (fun τs g2 => Q (τ :: τs) g2) E) E
theorem da_nil : DA X W [] [] aNil := by
  refine ⟨fun B => PA.imp pa_nil fun σ H Q ⟨Φ, lim, g, E, r, hx, q⟩ => ?_, fun g Q Q' E E' hq he q => hq _ _ q⟩
  exact q [] H rfl trivial r
theorem da_cons {bs : List (Option Nat)} {t : DTA} (ha : DE X W e ta) (hr : DA X W es bs t) (hs : starEach (e :: es) X.env = (false, eval e X.env) :: starEach es X.env := by rfl) : DA X W (e :: es) (none :: bs) (aCons ta t) := by
  refine ⟨fun B => PA.imp (pa_cons (ha.run B) (hr.run B) hs) fun σ H Q h => ?_, fun g Q Q' E E' hq he q => ha.mono _ _ _ _ _ (fun τ g1 q1 => hr.mono _ _ _ _ _ (fun τs g2 q2 => hq _ _ q2) he q1) he q⟩
  obtain ⟨Φ, lim, g, E, r, hx, q⟩ := h
  refine ⟨Φ, lim, g, E, r, hx, ha.mono _ _ _ _ _ (fun τ g1 q1 v H1 r1 => ?_) (fun _ _ _ z => z) q⟩
  refine ⟨(v, τ) :: Φ, lim, g1, E, r1, hx, hr.mono _ _ _ _ _ (fun τs g2 q2 vs H2 hl hb r2 => ?_) (fun _ _ _ z => z) q1⟩
  refine q2 (v :: vs) H2 (by simp [hl]) hb ?_
  show RepG X.K B lim σ H2 g2 ((v, τ) :: (vs.zip τs ++ Φ))
  exact r2.perm List.perm_middle
def xLst (t : DTA) : DTE := fun g Q E => t g (fun τs g1 => τs.length ≤ sizeLine ∧ Q (.node true .lst τs) g1) E
def xTup (t : DTA) : DTE := fun g Q E => t g (fun τs g1 => τs.length ≤ sizeLine ∧ Q (.node true .tup τs) g1) E
theorem make_of {K : PySem.W.Frag} {B : Bs} {lim : List Addr} {σ : St} {H : Hp} {g : Ev} {Φ : Its} {vs : List V} {τs : List T} (s : Sh) (hl : vs.length = τs.length) (r : RepG K B lim σ H g (vs.zip τs ++ Φ)) {p : Addr} (hp : H p = none) :
    RepG K B lim σ (upd H p (s.mk p vs)) g ((.ref p, .node true s τs) :: Φ) := by
  have q := r.make (s := s) hp
  rwa [List.map_fst_zip (by omega), List.map_snd_zip (by omega)] at q
theorem d_lst {bs : List (Option Nat)} {t : DTA} (h : DA X W es bs t) : DE X W (.List es pos) (xLst t) := by
  refine ⟨fun B => PE.imp (pe_lst (h.run B)) fun σ H Q ⟨Φ, lim, g, E, r, hx, q⟩ => ?_, fun g Q Q' E E' hq he q => h.mono _ _ _ _ _ (fun τs g1 q1 => ⟨q1.1, hq _ _ q1.2⟩) he q⟩
  exact ⟨Φ, lim, g, E, r, hx, h.mono _ _ _ _ _ (fun τs g1 q1 vs H1 hl _ r1 => ⟨by rw [hl]; exact q1.1, fun p hp => q1.2 _ _ (make_of .lst hl r1 hp)⟩) (fun _ _ _ z => z) q⟩
theorem d_tup {x1} {bs : List (Option Nat)} {t : DTA} (h : DA X W es bs t) : DE X W (.Tuple es x1 pos) (xTup t) := by
  refine ⟨fun B => PE.imp (pe_tup (h.run B)) fun σ H Q ⟨Φ, lim, g, E, r, hx, q⟩ => ?_, fun g Q Q' E E' hq he q => h.mono _ _ _ _ _ (fun τs g1 q1 => ⟨q1.1, hq _ _ q1.2⟩) he q⟩
  exact ⟨Φ, lim, g, E, r, hx, h.mono _ _ _ _ _ (fun τs g1 q1 vs H1 hl _ r1 => ⟨by rw [hl]; exact q1.1, fun p hp => q1.2 _ _ (make_of .tup hl r1 hp)⟩) (fun _ _ _ z => z) q⟩
theorem kept_refl {σ : St} : Kept m σ σ := ⟨rfl, fun _ _ => rfl⟩
theorem Kept.trans {σ σ1 σ2 : St} (h : Kept m σ σ1) (h' : Kept m σ1 σ2) : Kept m σ σ2 := ⟨h'.1.trans h.1, fun i hi => (h'.2 i hi).trans (h.2 i hi)⟩
theorem Kept.set {σ σ1 : St} {i : Nat} {x : Option V} (h : Kept m σ σ1) (hi : m i = false) : Kept m σ (σ1.set i x) := ⟨by rw [List.length_set]; exact h.1, fun j hj => by
  rw [List.getElem?_set_ne (fun e => by rw [e, hj] at hi; cases hi)]
  exact h.2 j hj⟩
theorem RepG.put' {K : PySem.W.Frag} {B : Bs} {lim : List Addr} {σ : St} {H : Hp} {g : Ev} {Φ : Its} {i : Nat} {v : V} {t : T} (h : RepG K B lim σ H g ((v, t) :: Φ)) : RepG K B lim (σ.set i (some v)) H (g.set i (some t)) Φ := by
  by_cases hi : i < σ.length
  · exact h.put hi
  · have e1 : σ.set i (some v) = σ := List.set_eq_of_length_le (by omega)
    have e2 : g.set i (some t) = g := List.set_eq_of_length_le (by rw [← h.len]; omega)
    rw [e1, e2]
    exact h.dropT
theorem RepG.ret {K : PySem.W.Frag} {B : Bs} {lim : List Addr} {σ : St} {H : Hp} {g : Ev} {Φ : Its} {x : V × T} (h : RepG K B lim σ H g (x :: Φ)) : RepG K B [] σ H g [x] :=
  ((h.perm (Ψ := Φ ++ [x]) (by
    have := (List.perm_append_comm (l₁ := [x]) (l₂ := Φ))
    exact this)).dropTs).lim0
theorem DS.mk' {st : Stmt} {t : DTS} {tt : Bs → St → TS} (h : ∀ B σ0, PS X st (tt B σ0))
    (hr : ∀ B σ0 D σ H Φ lim g E, RepG X.K B lim σ H g Φ → Kept m σ0 σ → (∀ σ, Kept m σ0 σ → liftX X.K B W σ E) → t (low X.K B m σ0 lim Φ D E) g → tt B σ0 D σ H) (mono : ∀ D D' g, D.Le D' → t D g → t D' g) : DS X W m st t :=
  ⟨fun B σ0 => PS.imp (h B σ0) fun D σ H ⟨Φ, lim, g, E, r, hk, hx, q⟩ => hr B σ0 D σ H Φ lim g E r hk hx q, mono⟩
def sNext : DTS := fun D g => D.nx g
inductive Nx (u : DTS) (D : DEnds) (g : Ev) : Prop where
  | mk (h : u D g) : Nx u D g
theorem Nx.out {u : DTS} {D : DEnds} {g : Ev} : Nx u D g → u D g
  | ⟨h⟩ => h
def seqE (u : DTS) (D : DEnds) : DEnds := { D with nx := Nx u D }
def sSeq (t u : DTS) : DTS := fun D g => t (seqE u D) g
theorem le_nx {D D' : DEnds} (h : D.Le D') {f f' : Ev → Prop} (hf : ∀ g, f g → f' g) : DEnds.Le { D with nx := f } { D' with nx := f' } := ⟨hf, h.rt, h.ex, h.bk, h.ct⟩
theorem dss_nil : DSs X W m [] sNext := ⟨fun B σ0 => PSs.imp pss_nil fun D σ H ⟨Φ, lim, g, E, r, hk, hx, q⟩ => q σ H r hk, fun D D' g h q => h.nx g q⟩
theorem dss_cons {st : Stmt} {rest : List Stmt} {t u : DTS} (h1 : DS X W m st t) (h2 : DSs X W m rest u) : DSs X W m (st :: rest) (sSeq t u) := by
  refine ⟨fun B σ0 => PSs.imp (pss_cons (h1.run B σ0) (h2.run B σ0)) fun D σ H ⟨Φ, lim, g, E, r, hk, hx, q⟩ => ?_, fun D D' g h q => h1.mono _ _ _ (le_nx h fun g' q' => ⟨h2.mono _ _ _ h q'.out⟩) q⟩
  exact ⟨Φ, lim, g, E, r, hk, hx, h1.mono { low X.K B m σ0 lim Φ D E with nx := Nx u (low X.K B m σ0 lim Φ D E) } _ _ ⟨fun g1 q1 σ1 H1 r1 hk1 => ⟨Φ, lim, g1, E, r1, hk1, hx, q1.out⟩, fun _ _ z => z, fun _ _ _ z => z, fun _ z => z, fun _ z => z⟩ q⟩
theorem dss_one {st : Stmt} {t : DTS} (h1 : DS X W m st t) : DSs X W m [st] t := ⟨fun B σ0 => pss_one (h1.run B σ0), h1.mono⟩
def sBrk : DTS := fun D g => D.bk g
theorem ds_break : DS X W m (.Break pos) sBrk := .mk' (fun _ _ => ps_break) (fun B σ0 D σ H Φ lim g E r hk hx q => q σ H r hk) fun D D' g h q => h.bk g q
def sSet (own : Bool) (i : Nat) (te : DTE) : DTS := fun D g => te g (fun τ g1 => D.nx (g1.set i (some (if own = true then τ else frz τ)))) D.ex
theorem ds_set {i : Nat} {x : Str} {pos' : Pos} (own : Bool) (hN : X.N.Nodup) (hi : X.N[i]? = some x) (hx : Loc X.env.scope x) (he : DE X W e te) (hm : m i = false) (hs : swapsWith e (some (.Name x pos')) pos.line X.env = pure false := by rfl)
    (hf : X.fn x = true ∨ X.env.scope.names.lookup x = some .local := by first | exact .inl rfl | exact .inr rfl | assumption) : DS X W m (.Assign [.Name x pos'] e pos) (sSet own i te) := by
  refine .mk' (fun B σ0 => ps_set hN hi hx (he.run B) hs hf) (fun B σ0 D σ H Φ lim g E r hk hX q => ?_) fun D D' g h q => he.mono _ _ _ _ _ (fun τ g1 q1 => h.nx _ q1) h.ex q
  refine ⟨Φ, lim, g, E, r, hX σ hk, he.mono _ _ _ _ _ (fun τ g1 q1 v H1 r1 => ?_) (fun _ _ _ z => z) q⟩
  refine q1 (σ.set i (some v)) H1 ?_ (hk.set hm)
  cases own with
  | true => exact r1.put'
  | false => exact r1.freezeT.put'
def sDrop (te : DTE) : DTS := fun D g => te g (fun _ g1 => D.nx g1) D.ex
theorem ds_expr (he : DE X W e te) (hs : swapsWith e none pos.line X.env = pure false := by rfl) : DS X W m (.Expr e pos) (sDrop te) := by
  refine .mk' (fun B σ0 => ps_expr (he.run B) hs) (fun B σ0 D σ H Φ lim g E r hk hX q => ?_) fun D D' g h q => he.mono _ _ _ _ _ (fun τ g1 q1 => h.nx _ q1) h.ex q
  exact ⟨Φ, lim, g, E, r, hX σ hk, he.mono _ _ _ _ _ (fun τ g1 q1 v H1 r1 => q1 σ H1 r1.dropT hk) (fun _ _ _ z => z) q⟩
def sRet (te : DTE) : DTS := fun D g => te g D.rt D.ex
theorem ds_ret (he : DE X W e te) : DS X W m (.Return (some e) pos) (sRet te) := by
  refine .mk' (fun B σ0 => ps_ret (he.run B)) (fun B σ0 D σ H Φ lim g E r hk hX q => ?_) fun D D' g h q => he.mono _ _ _ _ _ h.rt h.ex q
  exact ⟨Φ, lim, g, E, r, hX σ hk, he.mono _ _ _ _ _ (fun τ g1 q1 v H1 r1 => q1 v σ H1 r1.ret hk) (fun _ _ _ z => z) q⟩
def sIf (c : DTT) (t u : DTS) : DTS := fun D g => c g (fun b g1 => ifB b (t D g1) (u D g1)) D.ex
theorem ds_if {sa sb : List Stmt} {t u : DTS} (hc : DT X W c tA) (ha : DSs X W m sa t) (hb : DSs X W m sb u) : DS X W m (.If c sa sb pos) (sIf tA t u) := by
  refine .mk' (fun B σ0 => ps_if (hc.run B) (ha.run B σ0) (hb.run B σ0)) (fun B σ0 D σ H Φ lim g E r hk hX q => ?_) fun D D' g h q => hc.mono _ _ _ _ _ (fun b g1 q1 => ?_) h.ex q
  · refine ⟨Φ, lim, g, E, r, hX σ hk, hc.mono _ _ _ _ _ (fun b g1 q1 H1 r1 => ?_) (fun _ _ _ z => z) q⟩
    cases b with
    | true => exact ⟨Φ, lim, g1, E, r1, hk, hX, q1⟩
    | false => exact ⟨Φ, lim, g1, E, r1, hk, hX, q1⟩
  · cases b with
    | true => exact ha.mono _ _ _ h q1
    | false => exact hb.mono _ _ _ h q1
def sRaise (c : Value) : DTS := fun D g => D.ex c [] g
theorem ds_raise {C : Addr} {bmB : List Value} {Bn newId initId : String} {x t : Str} {j : Nat} {p p2 p3 : Pos} {n : Nat} (hc : X.calm = true) (tk : Takes X (upW X.mg W)) (F : ExcBaseFacts Bn newId initId bmB) (q : PySem.W.excIn X.K C bmB newId = true) (gC : X.mg x = some (.ref C)) (hn : ckN n = x)
    (kC : PySem.W.keepIn X.K (.ref C) = true) (r : Raises X (.ref C)) (hg : Gl X x) (hdb : (x == ("__debug__" : Str)) = false := by decide) :
    DS X W m (.Raise (some (.Call (.Name x p) [.Constant (.str t) j p2] [] p3)) none pos) (sRaise (cxN n)) :=
  .mk' (fun B σ0 => ps_raise hc tk (pmk_own F q gC kC r hg hdb)) (fun B σ0 D σ H Φ lim g E rp hk hX q => ⟨cxN n, ⟨n, rfl, by rw [hn]; exact gC⟩, hX σ hk _ [] _ _ _ rp.only rfl q⟩) fun D D' g h q => h.ex _ _ g q
end
end DL
set_option Elab.async false
set_option linter.all false
set_option maxRecDepth 100000
set_option maxHeartbeats 4000000
namespace DL
open PySem L2
abbrev DSp := List T → (T → List T → Prop) → (Value → List (Str × V) → List T → Prop) → Prop
def MonoD (m : DSp) : Prop := ∀ ts Q Q' E E', (∀ t us, Q t us → Q' t us) → (∀ c fs us, E c fs us → E' c fs us) → m ts Q E → m ts Q' E'
def pick {α : Type} : List Bool → List α → List α
  | true :: bs, x :: xs => x :: pick bs xs
  | false :: bs, _ :: xs => pick bs xs
  | _, _ => []
def Aft (K : PySem.W.Frag) (F : Addr → Prop) (fp : List Addr) (H : Hp) (ws : List V) (H' : Hp) (us : List T) (Φ : Its) : Prop :=
  ∃ (F' : Addr → Prop) (f' : List Addr), ws.length = us.length ∧ OwnZ K F' H' (ws.zip us ++ Φ) f' ∧ Fine ⟨H, F, fp⟩ F' H' f'
def spD (K : PySem.W.Frag) (mg : Str → Option Value) (fl : List Bool) (m : DSp) : Sp := fun vs H Q E => ∃ (ts : List T) (F : Addr → Prop) (fp : List Addr), OwnL K F H vs ts fp ∧ fp.Nodup ∧ (∀ a ∈ fp, ¬ F a) ∧ (∀ a, F a → H a ≠ none) ∧ vs.length = fl.length ∧
  m ts (fun t us => ∀ v H', Aft K F fp H (pick fl vs) H' us [(v, t)] → Q v H') (fun c fs us => ∀ d H' cv, sym mg c cv → Aft K F fp H (pick fl vs) H' us [] → XD d fs H' → E cv d H')
def restore : Ev → List (Option Nat) → List T → Ev
  | g, none :: bs, us => restore g bs us
  | g, some j :: bs, u :: us => restore (g.set j (some u)) bs us
  | g, _, _ => g
section
variable {K : PySem.W.Frag} {B : Bs} {lim : List Addr} {σ : St} {H H' : Hp} {g : Ev} {Φ Ψ : Its}
theorem call_frame {F F' : Addr → Prop} {zs : Its} {fpA fpR f' : List Addr} (en : EnvIs σ g zs) (oR : OwnZ K F H (zs ++ Φ) fpR) (f : Fine B F H (lim ++ (fpA ++ fpR))) (hl : ∀ a ∈ lim, H a ≠ none)
    (o' : OwnZ K F' H' Ψ f') (fn : Fine ⟨H, F, fpA⟩ F' H' f') : RepG K B lim σ H' g (Ψ ++ Φ) := by
  have nd := f.nd
  have ndA : ∀ a, a ∈ fpA → a ∉ lim ∧ a ∉ fpR := fun a ha => by
    refine ⟨fun z => (List.nodup_append.mp nd).2.2 a z a (List.mem_append_left _ ha) rfl, fun z => ?_⟩
    exact (List.nodup_append.mp (List.nodup_append.mp nd).2.1).2.2 a ha a z rfl
  have keepF : ∀ a o, H a = some o → a ∉ fpA → H' a = some o := fn.keep
  have oR' : OwnZ K F' H' (zs ++ Φ) fpR := oR.mono fn.inc (fun a ha o e => keepF a o e fun z => by
    rcases ha with q | q
    · exact f.off a (List.mem_append_right _ (List.mem_append_left _ z)) q
    · exact (ndA a z).2 q) fn.keepT
  have trk : ∀ a, a ∈ lim ∨ a ∈ fpR → H a ≠ none := fun a ha => ha.elim (hl a) (oR.tracked a)
  have notF' : ∀ a, a ∈ lim ∨ a ∈ fpR → ¬ F' a := fun a ha q => by
    rcases fn.newF a q with q | q | q
    · exact f.off a (by rcases ha with z | z <;> simp [z]) q
    · exact ha.elim (ndA a q).1 (ndA a q).2
    · exact trk a ha q
  have keepL : ∀ a, a ∈ lim → H' a ≠ none := fun a ha => by
    cases q : H a with
    | none => exact absurd q (hl a ha)
    | some o => rw [keepF a o q fun z => (ndA a z).1 ha]; exact nofun
  have old : ∀ a, a ∈ f' → a ∉ lim ∧ a ∉ fpR := fun a ha => by
    rcases fn.newO a ha with q | q
    · exact ndA a q
    · exact ⟨fun z => trk a (.inl z) q, fun z => trk a (.inr z) q⟩
  have fresh : ∀ a, H a = none → a ∈ B.fp0 ∨ B.H0 a = none := fun a q => by
    by_cases hb : a ∈ B.fp0
    · exact .inl hb
    · refine .inr ?_
      cases z : B.H0 a with
      | none => rfl
      | some o =>
        have := f.keep a o z hb
        rw [q] at this; cases this
  have oldA : ∀ a, a ∈ fpA → a ∈ B.fp0 ∨ B.H0 a = none := fun a ha => f.newO a (List.mem_append_right _ (List.mem_append_left _ ha))
  have fin : Fine B F' H' (lim ++ (f' ++ fpR)) := by
    refine ⟨?_, fun a z => ?_, fn.trk, fun a z => fn.inc a (f.inc a z), fun a o e na => ?_, fun a z => ?_, fun a z => ?_, fun a vs e => fn.keepT a vs (f.keepT a vs e)⟩
    · refine List.nodup_append.mpr ⟨(List.nodup_append.mp nd).1, List.nodup_append.mpr ⟨fn.nd, (List.nodup_append.mp (List.nodup_append.mp nd).2.1).2.1, fun a ha b hb e => ?_⟩, fun a ha b hb e => ?_⟩
      · subst e
        exact (old a ha).2 hb
      · subst e
        rcases List.mem_append.mp hb with q | q
        · exact (old a q).1 ha
        · exact (List.nodup_append.mp nd).2.2 a ha a (List.mem_append_right _ q) rfl
    · rcases List.mem_append.mp z with q | q
      · exact notF' a (.inl q)
      · rcases List.mem_append.mp q with q | q
        · exact fn.off a q
        · exact notF' a (.inr q)
    · refine keepF a o (f.keep a o e na) fun q => ?_
      rcases oldA a q with k | k
      · exact na k
      · rw [e] at k; cases k
    · rcases fn.newF a z with q | q | q
      · exact f.newF a q
      · exact .inr (oldA a q)
      · exact .inr (fresh a q)
    · rcases List.mem_append.mp z with q | q
      · exact f.newO a (List.mem_append_left _ q)
      · rcases List.mem_append.mp q with q | q
        · rcases fn.newO a q with k | k
          · exact oldA a k
          · exact fresh a k
        · exact f.newO a (List.mem_append_right _ (List.mem_append_right _ q))
  have oz : OwnZ K F' H' (Ψ ++ (zs ++ Φ)) (f' ++ fpR) := o'.append oR'
  refine rep_items (ds := []) en oz fin keepL ?_
  rw [List.nil_append, ← List.append_assoc, ← List.append_assoc]
  exact List.Perm.append_right _ List.perm_append_comm
theorem RepG.restore : ∀ {vs : List V} {bs : List (Option Nat)} {us : List T} {g : Ev}, BackOk σ vs bs → (pick (bs.map Option.isSome) vs).length = us.length → RepG K B lim σ H g ((pick (bs.map Option.isSome) vs).zip us ++ Φ) → RepG K B lim σ H (restore g bs us) Φ
  | [], [], us, g, _, hl, h => by
    cases us with
    | nil => exact h
    | cons => cases hl
  | v :: vs, none :: bs, us, g, hb, hl, h => RepG.restore (vs := vs) (bs := bs) hb hl h
  | v :: vs, some j :: bs, [], g, hb, hl, h => by cases hl
  | v :: vs, some j :: bs, u :: us, g, hb, hl, h => by
    have h1 : RepG K B lim σ H g ((v, u) :: ((pick (bs.map Option.isSome) vs).zip us ++ Φ)) := h
    exact RepG.restore (vs := vs) (bs := bs) hb.2 (by simpa [pick] using hl) (h1.back hb.1)
  | [], _ :: _, _, _, hb, _, _ => by
    exact False.elim hb
  | _ :: _, [], _, _, hb, _, _ => False.elim hb
end
structure FnG (P : Program) (w : World) (K : PySem.W.Frag) (mg : Str → Option Value) (base : Heap) (k : Nat) (f : Addr) (fd : FuncData) (ps : List Str) (sp : Sp) : Prop where
  len : ∀ vs H Q E, sp vs H Q E → vs.length = ps.length
  run : ∀ (A : Around) (outer : List Env) (s : Shared) (H : Hp) (args : Args) (us : List Value) (vs : List V) (Q : VK) (E : XK), Room k A → A.guards = some [] → Env0 P w K mg base A outer s H →
    PySem.BindsTo s fd args (ps.zip us) → Vals vs us → sp vs H Q E → codeAny (model P w) A (.call (.ref f) args) (CR (L2.CX P w) outer P w H s Q E) s
theorem FnG.mono {P : Program} {w : World} {K : PySem.W.Frag} {mg : Str → Option Value} {base : Heap} {j k : Nat} {f : Addr} {fd : FuncData} {ps : List Str} {sp : Sp} (F : FnG P w K mg base j f fd ps sp) (h : j ≤ k) : FnG P w K mg base k f fd ps sp :=
  ⟨F.len, fun A outer s H args us vs Q E hr => F.run A outer s H args us vs Q E (hr.mono h)⟩
theorem fnG_of {P : Program} {w : World} {K : PySem.W.Frag} {mg : Str → Option Value} {base : Heap} {x qual : Str} {st : Stmt} {f : Addr} {fd : FuncData} {N ps : List Str} {k : Nat} {sp : Sp} (F : Fun K x qual st f fd) (S : FnScope N ps (defScope st)) (len : ∀ vs H Q E, sp vs H Q E → vs.length = ps.length)
    (hbody : ∀ (cdv : Value) (A : Around) (outer : List Env) (s : Shared) (H : Hp) (vs : List V) (Q : VK) (E : XK), Room k (A.deeper (PyProof.Rows.envOfC qual (defScope st) s.heap.objs.size f cdv)) → A.guards = some [] → sp vs H Q E →
      ∃ t, PSs (cxOf (L2.CX P w) P w K mg base N qual (defScope st) f cdv A outer s H E) (defBody st) t ∧ t { nx := fun _ H' => Q .non H', rt := Q } (L2.start N vs) H) : FnG P w K mg base (k + 1) f fd ps sp := by
  obtain ⟨oc, od, kV, doc, pm, an, cdv, ct, osl, rfl, lk, hcd⟩ := F.ex
  refine ⟨len, fun A outer s H args us vs Q E hr hg e0 hb r hsp => ?_⟩
  have hlen := len _ _ _ _ hsp
  have kb : ∀ b o, base.get? b = some o → s.heap.get? b = some o := fun b o e => (e0.bs b o e).1
  have KX : K.In s.heap := e0.mod.kin.keeps kb
  have nl : s.heap.NoLimit := e0.mod.nolimit.keeps kb
  refine codeAny_call_function hr.depth (KX _ _ lk) rfl S.co S.gen rfl (PySem.W.codeRec_of KX hcd) (hb _ _ _ _ ?_)
  refine wpAny_newFunctionEnv_cells S.kind (fun y hy => ?_) fun env he s1 xx => ?_
  · obtain ⟨y1, y2⟩ := y
    rcases S.par y1 (List.of_mem_zip hy).1 with z | z
    · exact .inl z
    · exact .inr ⟨z, PySem.W.cellsFrom_some _ _ _ (.inl z)⟩
  subst he
  refine ⟨nl.keeps xx.toInCall.keep, codeAny_func ?_⟩
  obtain ⟨t, ht, hq⟩ := hbody cdv A outer s H vs Q E (hr.deeper _) hg hsp
  have I := inv_start (CX := L2.CX P w) (E := E) S hr.hd e0 hlen r xx
  refine wpAny_mono (ht.run [] s1 _ H _ I hq) (fun fl s' z => ?_) fun _ _ z => z
  match fl, z with
  | .ret u, ⟨v, σ', H', J, rv, q⟩ => exact ⟨v, H', J.os, J.bare, J.base, J.hok, rv, q⟩
  | .next, ⟨σ', H', J, q⟩ => exact ⟨.non, H', J.os, J.bare, J.base, J.hok, rfl, q⟩
  | .brk, ⟨_, _, _, q⟩ => exact q.elim
  | .cont, ⟨_, _, _, q⟩ => exact q.elim
section
variable {X : Cx} {k : Nat} {f : Addr} {fd : FuncData} {ps : List Str} {sp : Sp} {E : St → XK} {x : Str} {p pos : Pos} {e : Expr} {es : List Expr} {t : TA}
theorem run_fnG {pins : List (Addr × Obj)} {σ : St} {H : Hp} {s : Shared} {Q : VK} {us : List Value} {vs : List V} (F : FnG X.prog X.w X.K X.mg X.base k f fd ps sp) (hr : Room k X.A) (hgd : X.A.guards = some []) (hb : Binds X.K fd ps [])
    (hx : PassesAt (L2.CX X.prog X.w) X σ (E σ)) (I : Inv X pins σ H s) (r : Vals vs us) (h : sp vs H Q (E σ)) : wpAny (model X.prog X.w) X.A (call (.ref f) us) (EP X pins σ Q) X.xe s := by
  have b := hb s us I.kIn (by rw [List.append_nil, ← r.length]; exact F.len _ _ _ _ h)
  rw [List.append_nil] at b
  refine wpAny_call (codeAny_mono (F.run X.A X.stack s H ⟨us, []⟩ us vs Q (E σ) hr hgd I.env0 b r h) fun rr s' z => ?_)
  match rr, z with
  | .error e, z => exact hx pins H s e s' I z
  | .ok (.ret u), z => exact I.after z
theorem pe_callG (F : FnG X.prog X.w X.K X.mg X.base k f fd ps sp) (hr : Room k X.A) (hgd : X.A.guards = some []) (hg : Gl X x) (hm : X.mg x = some (.ref f)) (hk : PySem.W.keepIn X.K (.ref f) = true) (hb : Binds X.K fd ps [])
    (hx : ∀ σ, PassesAt (L2.CX X.prog X.w) X σ (E σ)) (ha : PA X (e :: es) t) (hdb : (x == ("__debug__" : Str)) = false := by decide) (he : starEach (e :: es) X.env = (false, eval e X.env) :: starEach es X.env := by rfl)
    (hpl : (backTo pos (starEach es X.env)).any (·.1) = false := by rfl) : PE X (.Call (.Name x p) (e :: es) [] pos) (tCallS sp E t) :=
  ⟨fun pins s σ H Q I h => wpAny_Call_Name_kw (ld_glob I hg hm (PySem.W.callWith_K (h₀ := X.base) I.ok.mod.kin hk (thn (ha.run pos pins s σ H _ I h) fun us s1 ⟨vs, H1, I1, r, q⟩ => ⟨I1.kIn, run_fnG F hr hgd hb (hx σ) I1 r q⟩) he hpl) hdb)⟩
end
section
variable {X : Cx} {W : WX} {m : Nat → Bool} {a b c e : Expr} {es : List Expr} {ta tb tc te : DTE} {t : DTA} {bs : List (Option Nat)} {pos p : Pos}
def xCall (m : DSp) (bs : List (Option Nat)) (t : DTA) : DTE := fun g Q E => t g (fun τs g1 => m τs (fun τ us => Q τ (restore g1 bs us)) (fun c fs us => E c fs (restore g1 bs us))) E
theorem backOk_len {σ : St} : ∀ {vs : List V} {bs : List (Option Nat)}, BackOk σ vs bs → vs.length = bs.length
  | [], [], _ => rfl
  | v :: vs, none :: bs, h => by simp [backOk_len (vs := vs) (bs := bs) h]
  | v :: vs, some j :: bs, h => by simp [backOk_len (vs := vs) (bs := bs) h.2]
  | [], _ :: _, h => False.elim h
  | _ :: _, [], h => False.elim h
theorem call_sp {B : Bs} {σ : St} {H : Hp} {Φ : Its} {lim : List Addr} {g1 : Ev} {E : XP} {sp : DSp} {vs : List V} {τs : List T} {Q : VK} (hm : MonoD sp) (hx : liftX X.K B W σ E) (hl : vs.length = τs.length) (hb : BackOk σ vs bs)
    (r : RepG X.K B lim σ H g1 (vs.zip τs ++ Φ)) (q : sp τs (fun τ us => ∀ v H', RepG X.K B lim σ H' (restore g1 bs us) ((v, τ) :: Φ) → Q v H') (fun c fs us => E c fs (restore g1 bs us))) :
    spD X.K X.mg (bs.map Option.isSome) sp vs H Q (WE (upW X.mg W) σ) := by
  obtain ⟨F, zs, fp, en, oz, f, hlim⟩ := r
  have p1 : (zs ++ (vs.zip τs ++ Φ)).Perm (vs.zip τs ++ (zs ++ Φ)) := by
    rw [← List.append_assoc, ← List.append_assoc]
    exact List.Perm.append_right _ List.perm_append_comm
  obtain ⟨fp', pf, o'⟩ := oz.perm p1
  obtain ⟨fpA, fpR, rfl, oA, oR⟩ := o'.split
  have f' := f.perm (List.Perm.append_left lim pf)
  have nd := (List.nodup_append.mp f'.nd).2.1
  refine ⟨τs, F, fpA, OwnL.unzip hl oA, (List.nodup_append.mp nd).1, fun a ha => f'.off a (List.mem_append_right _ (List.mem_append_left _ ha)), f'.trk, by rw [List.length_map]; exact backOk_len hb, ?_⟩
  refine hm _ _ _ _ _ (fun τ us q1 v H' aft => ?_) (fun c fs us q1 d H' cv hs aft xd => ?_) q
  · obtain ⟨F', f2, hlen, o2, fn⟩ := aft
    have r2 := call_frame en oR f' hlim o2 fn
    rw [List.append_assoc] at r2
    exact q1 v H' (RepG.restore hb hlen r2)
  · obtain ⟨F', f2, hlen, o2, fn⟩ := aft
    have r2 := call_frame en oR f' hlim o2 fn
    rw [List.append_assoc] at r2
    exact ⟨c, hs, hx c fs _ d H' (RepG.restore hb hlen r2).only xd q1⟩
theorem xCall_mono {sp : DSp} (hm : MonoD sp) (ht : ∀ g Q Q' E E', (∀ τs g', Q τs g' → Q' τs g') → (∀ c fs g', E c fs g' → E' c fs g') → t g Q E → t g Q' E') :
    ∀ g Q Q' E E', (∀ τ g', Q τ g' → Q' τ g') → (∀ c fs g', E c fs g' → E' c fs g') → xCall sp bs t g Q E → xCall sp bs t g Q' E' := fun g Q Q' E E' hq he q =>
  ht _ _ _ _ _ (fun τs g1 q1 => hm _ _ _ _ _ (fun τ us z => hq _ _ z) (fun c fs us z => he _ _ _ z) q1) he q
theorem d_call {sp : DSp} {k : Nat} {f : Addr} {fd : FuncData} {ps : List Str} {x : Str} {fl : List Bool} (F : FnG X.prog X.w X.K X.mg X.base k f fd ps (spD X.K X.mg fl sp)) (hm : MonoD sp) (hr : Room k X.A) (hgd : X.A.guards = some []) (hg : Gl X x) (hmg : X.mg x = some (.ref f))
    (hk : PySem.W.keepIn X.K (.ref f) = true) (hb : Binds X.K fd ps []) (tk : Takes X (upW X.mg W)) (ha : DA X W (e :: es) bs t) (hfl : bs.map Option.isSome = fl := by rfl) (hdb : (x == ("__debug__" : Str)) = false := by decide)
    (he : starEach (e :: es) X.env = (false, eval e X.env) :: starEach es X.env := by rfl) (hpl : (backTo pos (starEach es X.env)).any (·.1) = false := by rfl) : DE X W (.Call (.Name x p) (e :: es) [] pos) (xCall sp bs t) := by
  subst hfl
  refine ⟨fun B => PE.imp (pe_callG F hr hgd hg hmg hk hb (fun σ => passAt tk σ) (ha.run B) hdb he hpl) fun σ H Q ⟨Φ, lim, g, E, r, hx, q⟩ => ?_, xCall_mono hm ha.mono⟩
  exact ⟨Φ, lim, g, E, r, hx, ha.mono _ _ _ _ _ (fun τs g1 q1 vs H1 hl hb r1 => call_sp hm hx hl hb r1 (hm _ _ _ _ _ (fun τ us z => z) (fun _ _ _ z => z) q1)) (fun _ _ _ z => z) q⟩
end
def outs : List Nat → Ev → Option (List T)
  | [], _ => some []
  | i :: is, g => match g[i]? with
    | some (some t) => (outs is (g.set i none)).map (t :: ·)
    | _ => none
def slots : Nat → List Bool → List Nat
  | _, [] => []
  | n, true :: bs => n :: slots (n + 1) bs
  | n, false :: bs => slots (n + 1) bs
def mutOf (fl : List Bool) : Nat → Bool := fun i => fl.getD i false
def svs : List Nat → St → Option (List V)
  | [], _ => some []
  | i :: is, σ => match σ[i]? with
    | some (some v) => (svs is σ).map (v :: ·)
    | _ => none
theorem svs_congr {σ σ' : St} : ∀ {is : List Nat}, (∀ i ∈ is, σ'[i]? = σ[i]?) → svs is σ' = svs is σ
  | [], _ => rfl
  | i :: is, h => by
    unfold svs
    rw [h i List.mem_cons_self, svs_congr fun j hj => h j (List.mem_cons_of_mem _ hj)]
theorem RepG.outs {K : PySem.W.Frag} {B : Bs} {lim : List Addr} {σ : St} {H : Hp} : ∀ {is : List Nat} {g : Ev} {Φ : Its} {us : List T} {ws : List V}, outs is g = some us → svs is σ = some ws → RepG K B lim σ H g Φ →
    ∃ g', us.length = ws.length ∧ RepG K B lim σ H g' (ws.zip us ++ Φ)
  | [], g, Φ, us, ws, e, ew, h => by
    cases e
    cases ew
    exact ⟨g, rfl, h⟩
  | i :: is, g, Φ, us, ws, e, ew, h => by
    unfold DL.outs at e
    split at e
    · rename_i t ht
      cases eo : DL.outs is (g.set i none) with
      | none => rw [eo] at e; cases e
      | some us' =>
        rw [eo] at e
        cases e
        obtain ⟨v, hv, r1⟩ := h.move ht
        unfold svs at ew
        rw [hv] at ew
        cases em : svs is σ with
        | none => rw [em] at ew; cases ew
        | some ws' =>
          rw [em] at ew
          cases ew
          obtain ⟨g', hl, r2⟩ := RepG.outs (ws := ws') eo em r1
          refine ⟨g', by simp [hl], r2.perm ?_⟩
          exact List.perm_middle
    · cases e
theorem slots_get {rest : St} : ∀ {fl : List Bool} {n : Nat} {pre : St} {vs' : List V}, pre.length = n → vs'.length = fl.length → svs (slots n fl) (pre ++ vs'.map some ++ rest) = some (pick fl vs')
  | [], n, pre, vs', _, h => by
    have : vs' = [] := List.eq_nil_of_length_eq_zero h
    subst this
    rfl
  | b :: fl, n, pre, [], _, h => by cases h
  | true :: fl, n, pre, v :: vs', hp, h => by
    have ih := slots_get (rest := rest) (fl := fl) (n := n + 1) (pre := pre ++ [some v]) (vs' := vs') (by simp [hp]) (by simpa using h)
    have e1 : pre ++ (v :: vs').map some ++ rest = (pre ++ [some v]) ++ vs'.map some ++ rest := by simp
    rw [e1]
    have e2 : ((pre ++ [some v]) ++ vs'.map some ++ rest)[n]? = some (some v) := by
      subst hp
      simp
    show svs (n :: slots (n + 1) fl) _ = _
    unfold svs
    rw [e2, ih]
    rfl
  | false :: fl, n, pre, v :: vs', hp, h => by
    have ih := slots_get (rest := rest) (fl := fl) (n := n + 1) (pre := pre ++ [some v]) (vs' := vs') (by simp [hp]) (by simpa using h)
    have e1 : pre ++ (v :: vs').map some ++ rest = (pre ++ [some v]) ++ vs'.map some ++ rest := by simp
    rw [e1]
    exact ih
theorem slots_mem : ∀ {fl : List Bool} {n i : Nat}, i ∈ slots n fl → n ≤ i ∧ fl.getD (i - n) false = true
  | true :: fl, n, i, h => by
    rcases List.mem_cons.mp h with e | h
    · subst e
      simp
    · obtain ⟨h1, h2⟩ := slots_mem h
      refine ⟨by omega, ?_⟩
      have : i - n = (i - (n + 1)) + 1 := by omega
      rw [this]
      exact h2
  | false :: fl, n, i, h => by
    obtain ⟨h1, h2⟩ := slots_mem (fl := fl) (n := n + 1) h
    refine ⟨by omega, ?_⟩
    have : i - n = (i - (n + 1)) + 1 := by omega
    rw [this]
    exact h2
def startE (n : Nat) (ts : List T) : Ev := ts.map some ++ List.replicate (n - ts.length) none
def retD (fl : List Bool) (Q : T → List T → Prop) : T → Ev → Prop := fun τ g => match outs (slots 0 fl) g with
  | some us => Q τ us
  | none => False
def exD (fl : List Bool) (E : Value → List (Str × V) → List T → Prop) : XP := fun c fs g => match outs (slots 0 fl) g with
  | some us => E c fs us
  | none => False
def bodyEnds (fl : List Bool) (Q : T → List T → Prop) (E : Value → List (Str × V) → List T → Prop) : DEnds := { nx := fun g => retD fl Q (.leaf .non) g, rt := retD fl Q, ex := exD fl E }
theorem env_start {K : PySem.W.Frag} {F : Addr → Prop} {H : Hp} : ∀ {vs : List V} {ts : List T} {fp : List Addr}, OwnL K F H vs ts fp → ∀ k : Nat, EnvIs (vs.map some ++ List.replicate k none) (ts.map some ++ List.replicate k none) (vs.zip ts) := by
  intro vs ts fp h k
  have rep : ∀ k : Nat, EnvIs (List.replicate k none) (List.replicate k none) [] := fun k => by
    induction k with
    | zero => exact .nil
    | succ k ih => exact .skip ih
  have e := h.length
  clear h
  induction vs generalizing ts with
  | nil =>
    have : ts = [] := List.eq_nil_of_length_eq_zero e.symm
    subst this
    exact rep k
  | cons v vs ih =>
    cases ts with
    | nil => cases e
    | cons t ts => exact .have (ih (by simpa using e))
section
variable {P : Program} {w : World} {K : PySem.W.Frag} {mg : Str → Option Value} {base : Heap}
theorem fnD_of {x qual : Str} {st : Stmt} {f : Addr} {fd : FuncData} {N ps : List Str} {k : Nat} {sp : DSp} {fl : List Bool} (F : Fun K x qual st f fd) (S : FnScope N ps (defScope st)) (hfl : fl.length = ps.length)
    (hbody : ∀ (cdv : Value) (A : Around) (outer : List Env) (s : Shared) (H : Hp) (E : XK), Room k (A.deeper (PyProof.Rows.envOfC qual (defScope st) s.heap.objs.size f cdv)) → A.guards = some [] →
      ∃ t, DSs (cxOf (L2.CX P w) P w K mg base N qual (defScope st) f cdv A outer s H E) (fun x d _ H => ∀ cv, sym mg x cv → E cv d H) (mutOf fl) (defBody st) t ∧
        ∀ ts Q' E', ts.length = ps.length → sp ts Q' E' → t (bodyEnds fl Q' E') (startE N.length ts)) :
    FnG P w K mg base (k + 1) f fd ps (spD K mg fl sp) := by
  refine fnG_of F S (fun vs H Q E h => ?_) (fun cdv A outer s H vs Q E hr hgd h => ?_)
  · obtain ⟨ts, F, fp, o, _, _, _, hl, _⟩ := h
    omega
  · obtain ⟨ts, F0, fp, o, nd, off, trk, hl, hq⟩ := h
    obtain ⟨t, ht, hb⟩ := hbody cdv A outer s H E hr hgd
    have hlt : ts.length = ps.length := by rw [← o.length]; omega
    refine ⟨_, ht.run ⟨H, F0, fp⟩ (L2.start N vs), [], [], startE N.length ts, exD fl (fun c fs us => ∀ d H' cv, sym mg c cv → Aft K F0 fp H (pick fl vs) H' us [] → XD d fs H' → E cv d H'), ?_, kept_refl, ?_, ht.mono _ _ _ ?_ (hb ts _ _ hlt hq)⟩
    · refine ⟨F0, vs.zip ts, fp, ?_, ?_, ?_, fun _ z => nomatch z⟩
      · have := env_start o (N.length - vs.length)
        unfold L2.start startE
        rw [← o.length]
        exact this
      · rw [List.append_nil]
        exact o.zip
      · exact ⟨nd, off, trk, fun _ z => z, fun a o e _ => e, fun a z => .inl z, fun a z => .inl z, fun _ _ e => e⟩
    · -- exceptions
      intro σ hk c fs g d H' r xd q cv hs
      unfold exD at q
      split at q
      · rename_i us hus
        have hw : svs (slots 0 fl) σ = some (pick fl vs) := by
          have e1 := slots_get (rest := List.replicate (N.length - vs.length) none) (fl := fl) (n := 0) (pre := []) (vs' := vs) rfl hl
          rw [List.nil_append] at e1
          rw [← e1]
          refine svs_congr fun i hi => ?_
          have := (slots_mem hi).2
          exact hk.2 i (by unfold mutOf; simpa using this)
        obtain ⟨g', hlen, r'⟩ := r.outs hus hw
        obtain ⟨F', zs, f', en, oz, f, _⟩ := r'
        obtain ⟨f1, f2, rfl, _, o2⟩ := oz.split
        exact q d H' cv hs ⟨F', f2, hlen.symm, o2, f.sub (by rw [List.nil_append]; exact List.sublist_append_right _ _)⟩ xd
      · exact q.elim
    · have ret : ∀ τ g, retD fl (fun t us => ∀ v H', Aft K F0 fp H (pick fl vs) H' us [(v, t)] → Q v H') τ g → ∀ v σ' H', RepG K ⟨H, F0, fp⟩ [] σ' H' g [(v, τ)] → Kept (mutOf fl) (L2.start N vs) σ' → Q v H' := by
        intro τ g q v σ H' r hk
        unfold retD at q
        split at q
        · rename_i us hus
          have hw : svs (slots 0 fl) σ = some (pick fl vs) := by
            have e1 := slots_get (rest := List.replicate (N.length - vs.length) none) (fl := fl) (n := 0) (pre := []) (vs' := vs) rfl hl
            rw [List.nil_append] at e1
            rw [← e1]
            refine svs_congr fun i hi => ?_
            have := (slots_mem hi).2
            exact hk.2 i (by unfold mutOf; simpa using this)
          obtain ⟨g', hlen, r'⟩ := r.outs hus hw
          obtain ⟨F', zs, f', en, oz, f, _⟩ := r'
          obtain ⟨f1, f2, rfl, _, o2⟩ := oz.split
          exact q v H' ⟨F', f2, hlen.symm, o2, f.sub (by rw [List.nil_append]; exact List.sublist_append_right _ _)⟩
        · exact q.elim
      exact ⟨fun g q σ' H' r hk => ret _ g q .non σ' H' r.addLeaf hk, fun τ g q v σ' H' r hk => ret τ g q v σ' H' r hk, fun _ _ _ z => z, fun _ z => z.elim, fun _ z => z.elim⟩
end
end DL
set_option Elab.async false
set_option linter.all false
set_option maxRecDepth 100000
set_option maxHeartbeats 4000000
namespace DL
open PySem L2
section
variable {K : PySem.W.Frag} {B : Bs} {lim : List Addr} {σ : St} {H H' : Hp} {g : Ev} {Φ Ψ : Its}
theorem perm_at {α : Type} : ∀ {l : List α} {i : Nat} {x : α}, l[i]? = some x → ∃ r, l.Perm (x :: r)
  | [], _, _, h => by simp at h
  | a :: l, 0, x, h => by
    simp at h
    subst h
    exact ⟨l, .refl _⟩
  | a :: l, i + 1, x, h => by
    obtain ⟨r, p⟩ := perm_at (l := l) (i := i) (x := x) (by simpa using h)
    exact ⟨a :: r, (List.Perm.cons _ p).trans (List.Perm.swap _ _ _)⟩
theorem RepG.one {zs : Its} {i : Nat} {x : V × T} (h : RepG K B lim σ H g (zs ++ Φ)) (e : zs[i]? = some x) : RepG K B lim σ H g (x :: Φ) := by
  obtain ⟨r, p⟩ := perm_at e
  have h1 : RepG K B lim σ H g (r ++ (x :: Φ)) := h.perm (((List.Perm.append_right Φ p)).trans List.perm_middle.symm)
  exact h1.dropTs
theorem RepG.dup {v : V} {t : T} (h : RepG K B lim σ H g ((v, t) :: Φ)) (hf : frz t = t) : RepG K B lim σ H g ((v, t) :: (v, t) :: Φ) := by
  obtain ⟨F, zs, fp, en, o, f, hl⟩ := h
  obtain ⟨fp', pf, o'⟩ := o.perm (List.perm_middle (a := (v, t)))
  obtain ⟨f1, f2, rfl, p1, o2⟩ := OwnZ.uncons (zs := zs ++ Φ) o'
  obtain rfl := p1.nofp _ hf
  have f' := f.perm (List.Perm.append_left lim pf)
  have hz : OwnZ K F H ((v, t) :: (v, t) :: (zs ++ Φ)) ([] ++ ([] ++ f2)) := .cons p1 (.cons p1 o2)
  refine rep_items (ds := []) en hz f' hl ?_
  rw [List.nil_append]
  exact (List.Perm.cons _ List.perm_middle.symm).trans List.perm_middle.symm
theorem RepG.dupAt {zs : Its} {i : Nat} {v : V} {t : T} (h : RepG K B lim σ H g (zs ++ Φ)) (e : zs[i]? = some (v, t)) (hf : frz t = t) : RepG K B lim σ H g ((v, t) :: (zs ++ Φ)) := by
  obtain ⟨r, p⟩ := perm_at e
  have h1 := (h.perm (List.Perm.append_right Φ p)).dup hf
  exact h1.perm (List.Perm.cons _ (List.Perm.append_right Φ p.symm))
theorem frzL_get : ∀ {ts : List T} {i : Nat} {t : T}, (frzL ts)[i]? = some t → frz t = t
  | [], _, _, h => by simp [frzL] at h
  | a :: ts, 0, t, h => by
    simp only [frzL, List.getElem?_cons_zero, Option.some.injEq] at h
    subst h
    exact frz_frz a
  | a :: ts, i + 1, t, h => frzL_get (ts := ts) (i := i) (by simpa [frzL] using h)
theorem frzL_length : ∀ ts : List T, (frzL ts).length = ts.length
  | [] => rfl
  | _ :: ts => by simp [frzL, frzL_length ts]
theorem zip_get {α β : Type} : ∀ {l : List α} {r : List β} {i : Nat} {b : β}, l.length = r.length → r[i]? = some b → ∃ a, l[i]? = some a ∧ (l.zip r)[i]? = some (a, b)
  | [], [], _, _, _, h => by simp at h
  | a :: l, b' :: r, 0, b, _, h => by
    simp at h
    subst h
    exact ⟨a, rfl, rfl⟩
  | a :: l, b' :: r, i + 1, b, e, h => by
    obtain ⟨x, e1, e2⟩ := zip_get (l := l) (r := r) (i := i) (b := b) (by simpa using e) (by simpa using h)
    exact ⟨x, by simpa using e1, by simpa using e2⟩
  | [], _ :: _, _, _, e, _ => by cases e
  | _ :: _, [], _, _, _, h => by simp at h
theorem RepG.parts {v : V} {o : Bool} {s : Sh} {ts : List T} (h : RepG K B lim σ H g ((v, .node o s ts) :: Φ)) :
    ∃ a vs, v = .ref a ∧ vs.length = ts.length ∧ (Rd H a (s.mk a vs) ∨ Konst K a vs s) ∧ RepG K B lim σ H g (vs.zip (frzL ts) ++ (v, .node false s (frzL ts)) :: Φ) := by
  have h1 := h.freezeT
  rw [show frz (T.node o s ts) = .node false s (frzL ts) by simp [frz]] at h1
  obtain ⟨a, vs, e, hl, hr, r⟩ := h1.kids
  exact ⟨a, vs, e, by rw [hl, frzL_length], hr, r⟩
theorem RepG.pinned {v : V} {o : Bool} {s : Sh} {ts : List T} (h : RepG K B lim σ H g ((v, .node o s ts) :: Φ)) :
    ∃ a vs, v = .ref a ∧ vs.length = ts.length ∧ RepG K B lim σ H g ((v, .pin s vs) :: vs.zip (frzL ts) ++ Φ) := by
  have h1 := h.freezeT
  rw [show frz (T.node o s ts) = .node false s (frzL ts) by simp [frz]] at h1
  obtain ⟨F, zs, fp, en, oz, f, hl⟩ := h1
  obtain ⟨fp', pf, o'⟩ := oz.perm (List.perm_middle (a := (v, T.node false s (frzL ts))))
  obtain ⟨f1, f2, rfl, p1, o2⟩ := OwnZ.uncons (zs := zs ++ Φ) o'
  have f' := f.perm (List.Perm.append_left lim pf)
  have fin : ∀ vs : List V, f1 = [] → OwnP K F H v (.pin s vs) [] → OwnL K F H vs (frzL ts) [] → RepG K B lim σ H g ((v, .pin s vs) :: vs.zip (frzL ts) ++ Φ) := fun vs e pv hk => by
    subst e
    have oz2 : OwnZ K F H ((v, T.pin s vs) :: (vs.zip (frzL ts) ++ (zs ++ Φ))) ([] ++ ([] ++ f2)) := .cons pv (hk.zip.append o2)
    refine rep_items (ds := []) en oz2 f' hl ?_
    rw [List.nil_append, List.cons_append]
    refine List.Perm.trans ?_ List.perm_middle.symm
    refine List.Perm.cons _ ?_
    rw [← List.append_assoc, ← List.append_assoc]
    exact List.Perm.append_right _ List.perm_append_comm
  cases p1 with
  | fz hf hr hk => exact ⟨_, _, rfl, by rw [hk.length, frzL_length], fin _ rfl (.pinF hf (.inl hr)) hk⟩
  | kz hc _ hk => exact ⟨_, _, rfl, by rw [hk.length, frzL_length], fin _ rfl (.pinK hc) hk⟩
  | tk hr hk => exact ⟨_, _, rfl, by rw [hk.length, frzL_length], fin _ rfl (.pinT hr) hk⟩
theorem RepG.pinAt {v : V} {s : Sh} {vs : List V} (h : RepG K B lim σ H g ((v, .pin s vs) :: Φ)) (hs : ∀ n, s ≠ Sh.exc n := by intro n z; cases z) : ∃ a, v = .ref a ∧ (Rd H a (s.mk a vs) ∨ Konst K a vs s) := by
  obtain ⟨F, zs, fp, en, oz, f, hl⟩ := h
  obtain ⟨fp', pf, o'⟩ := oz.perm (List.perm_middle (a := (v, T.pin s vs)))
  obtain ⟨f1, f2, rfl, p1, o2⟩ := OwnZ.uncons (zs := zs ++ Φ) o'
  cases p1 with
  | pinF hf hr => exact ⟨_, rfl, .inl hr⟩
  | pinK hc => exact ⟨_, rfl, .inr hc⟩
  | pinT hr => exact ⟨_, rfl, .inl (.inl hr)⟩
  | fx hf hr hv => exact absurd rfl (hs _)
def ExcIn (K : PySem.W.Frag) (H : Hp) (a : Addr) : Prop := (∃ D, H a = some (ExO (.ref D) a) ∧ ExcV K D) ∨ H a = some (.ext fun _ => False) ∨ ∃ o, H a = some (.frz o (.ext fun _ => False))
theorem RepG.excAt {v : V} {n : Nat} {vs : List V} (h : RepG K B lim σ H g ((v, .pin (.exc n) vs) :: Φ)) : ∃ a, v = .ref a ∧ ExcIn K H a := by
  obtain ⟨F, zs, fp, en, oz, f, hl⟩ := h
  obtain ⟨fp', pf, o'⟩ := oz.perm (List.perm_middle (a := (v, T.pin (.exc n) vs)))
  obtain ⟨f1, f2, rfl, p1, o2⟩ := OwnZ.uncons (zs := zs ++ Φ) o'
  cases p1 with
  | pinF hf hr =>
    rcases hr with hr | ⟨o, hr⟩
    · exact ⟨_, rfl, .inr (.inl hr)⟩
    · exact ⟨_, rfl, .inr (.inr ⟨o, hr⟩)⟩
  | pinK hc => exact hc.elim
  | fx hf hr hv => exact ⟨_, rfl, .inl ⟨_, hr, hv⟩⟩
end
abbrev DTG := T → Ev → (Ev → Prop) → Prop
abbrev DTGs := List T → Ev → (Ev → Prop) → Prop
def liftG (K : PySem.W.Frag) (B : Bs) (m : Nat → Bool) (σ0 : St) (gt : DTG) : TG := fun v σ H Q => ∃ (Φ : Its) (lim : List Addr) (g : Ev) (τ : T), RepG K B lim σ H g ((v, τ) :: Φ) ∧ Kept m σ0 σ ∧
  gt τ g (fun g' => ∀ σ' H', RepG K B lim σ' H' g' Φ → Kept m σ0 σ' → Q σ' H')
def liftGs (K : PySem.W.Frag) (B : Bs) (m : Nat → Bool) (σ0 : St) (gt : DTGs) : TGs := fun vs σ H Q => ∃ (Φ : Its) (lim : List Addr) (g : Ev) (τs : List T), vs.length = τs.length ∧ RepG K B lim σ H g (vs.zip τs ++ Φ) ∧ Kept m σ0 σ ∧
  gt τs g (fun g' => ∀ σ' H', RepG K B lim σ' H' g' Φ → Kept m σ0 σ' → Q σ' H')
structure DG (X : Cx) (m : Nat → Bool) (tg : Expr) (gt : DTG) : Prop where
  run : ∀ B σ0, PG X tg (liftG X.K B m σ0 gt)
  mono : ∀ τ g Q Q', (∀ g', Q g' → Q' g') → gt τ g Q → gt τ g Q'
structure DGs (X : Cx) (m : Nat → Bool) (tgs : List Expr) (gt : DTGs) : Prop where
  run : ∀ B σ0, PGs X tgs (liftGs X.K B m σ0 gt)
  mono : ∀ τs g Q Q', (∀ g', Q g' → Q' g') → gt τs g Q → gt τs g Q'
theorem PG.imp {X : Cx} {e : Expr} {t t' : TG} (h : PG X e t) (i : ∀ v σ H Q, t' v σ H Q → t v σ H Q) : PG X e t' := ⟨fun pins s σ H v u Q I r hw => h.run pins s σ H v u Q I r (i v σ H Q hw)⟩
theorem PGs.imp {X : Cx} {e : List Expr} {t t' : TGs} (h : PGs X e t) (i : ∀ v σ H Q, t' v σ H Q → t v σ H Q) : PGs X e t' := ⟨fun pins s σ H v u Q I r hw => h.run pins s σ H v u Q I r (i v σ H Q hw)⟩
section
variable {X : Cx} {W : WX} {m : Nat → Bool} {pos : Pos}
def gNm (own : Bool) (i : Nat) : DTG := fun τ g Q => Q (g.set i (some (if own = true then τ else frz τ)))
theorem dg_name {i : Nat} {x : Str} (own : Bool) (hN : X.N.Nodup) (hi : X.N[i]? = some x) (hx : Loc X.env.scope x) (hm : m i = false) (hf : X.fn x = true ∨ X.env.scope.names.lookup x = some .local := by first | exact .inl rfl | exact .inr rfl | assumption) : DG X m (.Name x pos) (gNm own i) := by
  refine ⟨fun B σ0 => PG.imp (pg_name hN hi hx hf) fun v σ H Q ⟨Φ, lim, g, τ, r, hk, q⟩ => ?_, fun τ g Q Q' h q => h _ q⟩
  refine q (σ.set i (some v)) H ?_ (hk.set hm)
  cases own with
  | true => exact r.put'
  | false => exact r.freezeT.put'
def gNl : DTGs := fun τs g Q => match τs with
  | [] => Q g
  | _ => False
def gCn (t : DTG) (u : DTGs) : DTGs := fun τs g Q => match τs with
  | τ :: r => t τ g fun g' => u r g' Q
  | [] => False
theorem dgs_nil : DGs X m [] gNl := by
  refine ⟨fun B σ0 => PGs.imp pgs_nil fun vs σ H Q ⟨Φ, lim, g, τs, hl, r, hk, q⟩ => ?_, fun τs g Q Q' h q => ?_⟩
  · cases τs with
    | nil =>
      have : vs = [] := List.eq_nil_of_length_eq_zero hl
      subst this
      exact ⟨rfl, q σ H r hk⟩
    | cons => exact q.elim
  · cases τs with
    | nil => exact h _ q
    | cons => exact q.elim
theorem dgs_cons {e : Expr} {es : List Expr} {t : DTG} {u : DTGs} (h1 : DG X m e t) (h2 : DGs X m es u) (hs : (assignEach (e :: es) X.env).map (·.2) = assign e X.env :: (assignEach es X.env).map (·.2) := by rfl) : DGs X m (e :: es) (gCn t u) := by
  refine ⟨fun B σ0 => PGs.imp (pgs_cons (h1.run B σ0) (h2.run B σ0) hs) fun vs σ H Q ⟨Φ, lim, g, τs, hl, r, hk, q⟩ => ?_, fun τs g Q Q' h q => ?_⟩
  · cases τs with
    | nil => exact q.elim
    | cons τ τs =>
      cases vs with
      | nil => cases hl
      | cons v vs =>
        refine ⟨v, vs, rfl, vs.zip τs ++ Φ, lim, g, τ, r, hk, h1.mono _ _ _ _ (fun g' q' σ' H' r' hk' => ?_) q⟩
        exact ⟨Φ, lim, g', τs, by simpa using hl, r', hk', q'⟩
  · cases τs with
    | nil => exact q.elim
    | cons τ τs => exact h1.mono _ _ _ _ (fun g' q' => h2.mono _ _ _ _ h q') q
def sAsg (te : DTE) (gt : DTG) : DTS := fun D g => te g (fun τ g1 => gt τ g1 D.nx) D.ex
theorem ds_asg {tg e : Expr} {te : DTE} {gt : DTG} (he : DE X W e te) (hg : DG X m tg gt) (hs : swapsWithSole [tg] e pos.line X.env = pure false := by rfl) (hw : swappedStores [tg] e X.env = pure none := by rfl)
    (h1 : (assignEach [tg] X.env).map (·.2) = [assign tg X.env] := by rfl) : DS X W m (.Assign [tg] e pos) (sAsg te gt) := by
  refine .mk' (fun B σ0 => ps_asg (he.run B) (hg.run B σ0) hs hw h1) (fun B σ0 D σ H Φ lim g E r hk hX q => ?_) fun D D' g h q => he.mono _ _ _ _ _ (fun τ g1 q1 => hg.mono _ _ _ _ h.nx q1) h.ex q
  refine ⟨Φ, lim, g, E, r, hX σ hk, he.mono _ _ _ _ _ (fun τ g1 q1 v H1 r1 => ?_) (fun _ _ _ z => z) q⟩
  exact ⟨Φ, lim, g1, τ, r1, hk, hg.mono _ _ _ _ (fun g' q' σ' H' r' hk' => q' σ' H' r' hk') q1⟩
def sPar (i j : Nat) (t : DTA) : DTS := fun D g => t g (fun τs g1 => match τs with
  | [x, y] => D.nx ((g1.set i (some (frz x))).set j (some (frz y)))
  | _ => False) D.ex
theorem ds_par {i j : Nat} {x y : Str} {a b : Expr} {t : DTA} {bs : List (Option Nat)} {px py pt : Pos} {kt k2 pt2} (hc : X.calm = true) (hN : X.N.Nodup) (hi : X.N[i]? = some x) (hj : X.N[j]? = some y) (hij : i ≠ j) (hmi : m i = false) (hmj : m j = false)
    (hx : X.env.scope.names.lookup x = some .local) (hy : X.env.scope.names.lookup y = some .local) (ha : DA X W [a, b] bs t)
    (hw : swappedStores [.Tuple [.Name x px, .Name y py] kt pt] (.Tuple [a, b] k2 pt2) X.env = pure (some [x, y]))
    (hs : swapsWithSole [.Tuple [.Name x px, .Name y py] kt pt] (.Tuple [a, b] k2 pt2) pos.line X.env = pure false := by rfl) :
    DS X W m (.Assign [.Tuple [.Name x px, .Name y py] kt pt] (.Tuple [a, b] k2 pt2) pos) (sPar i j t) := by
  refine .mk' (fun B σ0 => ps_par hc hN hi hj hij hx hy (ha.run B) hw hs) (fun B σ0 D σ H Φ lim g E r hk hX q => ?_) fun D D' g h q => ha.mono _ _ _ _ _ (fun τs g1 q1 => ?_) h.ex q
  · refine ⟨Φ, lim, g, E, r, hX σ hk, ha.mono _ _ _ _ _ (fun τs g1 q1 vs H1 hl _ r1 => ?_) (fun _ _ _ z => z) q⟩
    split at q1
    · rename_i x' y'
      obtain ⟨v, w, rfl⟩ : ∃ v w, vs = [v, w] := by
        match vs, hl with
        | [v, w], _ => exact ⟨v, w, rfl⟩
      refine ⟨v, w, rfl, q1 _ _ ?_ ((hk.set hmi).set hmj)⟩
      have r2 : RepG X.K B lim σ H1 g1 ((v, x') :: (w, y') :: Φ) := r1
      have r3 : RepG X.K B lim σ H1 g1 ((w, frz y') :: (v, frz x') :: Φ) := (r2.freezeT.perm (List.Perm.swap _ _ _)).freezeT
      exact (r3.perm (List.Perm.swap _ _ _)).put'.put'
    · exact q1.elim
  · split at q1
    · exact h.nx _ q1
    · exact q1.elim
end
def Walks (K : PySem.W.Frag) (B : Bs) (lim : List Addr) (J : It) (Ψ : Its) (ts : List T) : Prop :=
  ∀ σ H g Φ i, RepG K B lim σ H g (Ψ ++ Φ) → (∀ t, ts[i]? = some t → J.go i H ∧ ∀ x H', J.yld i H x H' → RepG K B lim σ H' g ((x, t) :: (Ψ ++ Φ))) ∧ (ts.length ≤ i → J.stop i H)
abbrev DTI := Ev → (List T → Ev → Prop) → XP → Prop
def liftI (K : PySem.W.Frag) (B : Bs) (W : WX) (t : DTI) : TI := fun σ H R => ∃ (Φ : Its) (lim : List Addr) (g : Ev) (E : XP), RepG K B lim σ H g Φ ∧ liftX K B W σ E ∧
  t g (fun ts g' => ∀ J Ψ H', RepG K B lim σ H' g' (Ψ ++ Φ) → Walks K B lim J Ψ ts → R J H') E
structure DI (X : Cx) (W : WX) (tg iter : Expr) (t : DTI) : Prop where
  run : ∀ B, PI X tg iter (liftI X.K B W t)
  mono : ∀ g Q Q' E E', (∀ ts g', Q ts g' → Q' ts g') → (∀ c fs g', E c fs g' → E' c fs g') → t g Q E → t g Q' E'
theorem PI.imp {X : Cx} {tg e : Expr} {t t' : TI} (h : PI X tg e t) (i : ∀ σ H R, t' σ H R → t σ H R) : PI X tg e t' := ⟨fun pins s σ H R I hw => h.run pins s σ H R I (i σ H R hw)⟩
def iSq (K : PySem.W.Frag) (tl : TE) : TI := fun σ H R => tl σ H fun x H1 => ∃ a, x = .ref a ∧ (((∃ xs, SqL K H1 a xs) ∧ R (Itl K a) H1) ∨ ((∃ xs, SqT K H1 a xs) ∧ R (Itt K a) H1))
theorem pi_sq {X : Cx} {tg l : Expr} {tl : TE} (hl : PE X l tl) : PI X tg l (iSq X.K tl) := by
  refine ⟨fun pins s σ H R I h => ?_⟩
  refine thn (hl.run pins s σ H _ I h) fun v s1 ⟨x, H1, I1, r1, q1⟩ => ?_
  obtain ⟨a, e, q1⟩ := q1
  subst e
  cases r1
  rcases q1 with ⟨⟨xs, hq⟩, q⟩ | ⟨⟨xs, hq⟩, q⟩
  · obtain ⟨its, rv, p, hz⟩ := I1.list hq
    refine wpAny_pyIter_list p.isList ?_
    refine ⟨s1.heap.objs.size, [s1.heap.objs.size], _, _, H1, rfl, I1.kept (t' := s1.toks) fun b o e => Heap.get?_push_of_some _ e, turn_list a _, ⟨_, Heap.get?_push_size _ rfl, rfl, rfl⟩, fun b hb => ?_, q⟩
    have e : b = s1.heap.objs.size := by simpa using hb
    subst e
    exact I1.fpOk (Nat.le_refl _) (I1.hok.fresh (Nat.le_refl _))
  · obtain ⟨its, rv, p, hz⟩ := I1.tuple hq
    refine wpAny_pyIter_tuple (show s1.heap.IsTuple a its.toArray from p) ?_
    refine ⟨s1.heap.objs.size, [s1.heap.objs.size], _, _, H1, rfl, I1.kept (t' := s1.toks) fun b o e => Heap.get?_push_of_some _ e, turn_tuple a _, ⟨_, Heap.get?_push_size _ rfl, rfl, rfl⟩, fun b hb => ?_, q⟩
    have e : b = s1.heap.objs.size := by simpa using hb
    subst e
    exact I1.fpOk (Nat.le_refl _) (I1.hok.fresh (Nat.le_refl _))
theorem walks_list {K : PySem.W.Frag} {B : Bs} {lim : List Addr} {a : Addr} {vs : List V} {ts : List T} (hl : vs.length = ts.length) (hf : ∀ (i : Nat) (t : T), ts[i]? = some t → frz t = t) : Walks K B lim (Itl K a) ((.ref a, .pin .lst vs) :: vs.zip ts) ts := by
  intro σ H g Φ i r
  have sq : SqL K H a vs := by
    obtain ⟨b, e, hr⟩ := RepG.pinAt (Φ := vs.zip ts ++ Φ) r
    cases e
    exact seqL hr
  refine ⟨fun t ht => ?_, fun hi => ⟨vs, sq, by omega⟩⟩
  obtain ⟨v, hv, hz⟩ := zip_get hl ht
  refine ⟨⟨vs, v, sq, hv⟩, fun x H' y => ?_⟩
  obtain ⟨e, y⟩ := y
  subst e
  have hx := y vs sq
  rw [hv] at hx
  cases hx
  exact RepG.dupAt (zs := (.ref a, .pin .lst vs) :: vs.zip ts) (i := i + 1) r (by simpa using hz) (hf i t ht)
theorem walks_tup {K : PySem.W.Frag} {B : Bs} {lim : List Addr} {a : Addr} {vs : List V} {ts : List T} (hl : vs.length = ts.length) (hf : ∀ (i : Nat) (t : T), ts[i]? = some t → frz t = t) : Walks K B lim (Itt K a) ((.ref a, .pin .tup vs) :: vs.zip ts) ts := by
  intro σ H g Φ i r
  have sq : SqT K H a vs := by
    obtain ⟨b, e, hr⟩ := RepG.pinAt (Φ := vs.zip ts ++ Φ) r
    cases e
    exact seqT hr
  refine ⟨fun t ht => ?_, fun hi => ⟨vs, sq, by omega⟩⟩
  obtain ⟨v, hv, hz⟩ := zip_get hl ht
  refine ⟨⟨vs, v, sq, hv⟩, fun x H' y => ?_⟩
  obtain ⟨e, y⟩ := y
  subst e
  have hx := y vs sq
  rw [hv] at hx
  cases hx
  exact RepG.dupAt (zs := (.ref a, .pin .tup vs) :: vs.zip ts) (i := i + 1) r (by simpa using hz) (hf i t ht)
def iSeq (te : DTE) : DTI := fun g Q E => te g (fun τ g1 => match τ with
  | .node _ .lst ts => Q (frzL ts) g1
  | .node _ .tup ts => Q (frzL ts) g1
  | _ => False) E
section
variable {X : Cx} {W : WX} {m : Nat → Bool} {tg e : Expr} {te : DTE} {pos p : Pos}
theorem di_seq (he : DE X W e te) : DI X W tg e (iSeq te) := by
  refine ⟨fun B => PI.imp (pi_sq (he.run B)) fun σ H R ⟨Φ, lim, g, E, r, hx, q⟩ => ?_, fun g Q Q' E E' hq hE q => he.mono _ _ _ _ _ (fun τ g1 q1 => ?_) hE q⟩
  · refine ⟨Φ, lim, g, E, r, hx, he.mono _ _ _ _ _ (fun τ g1 q1 v H1 r1 => ?_) (fun _ _ _ z => z) q⟩
    split at q1
    · rename_i o ts
      obtain ⟨a, vs, rfl, hl, r2⟩ := r1.pinned
      have sq : SqL X.K H1 a vs := by
        obtain ⟨b, e, hr⟩ := RepG.pinAt (Φ := vs.zip (frzL ts) ++ Φ) r2
        cases e
        exact seqL hr
      exact ⟨a, rfl, .inl ⟨⟨vs, sq⟩, q1 _ _ H1 r2 (walks_list (by rw [hl, frzL_length]) fun i t ht => frzL_get ht)⟩⟩
    · rename_i o ts
      obtain ⟨a, vs, rfl, hl, r2⟩ := r1.pinned
      have sq : SqT X.K H1 a vs := by
        obtain ⟨b, e, hr⟩ := RepG.pinAt (Φ := vs.zip (frzL ts) ++ Φ) r2
        cases e
        exact seqT hr
      exact ⟨a, rfl, .inr ⟨⟨vs, sq⟩, q1 _ _ H1 r2 (walks_tup (by rw [hl, frzL_length]) fun i t ht => frzL_get ht)⟩⟩
    · exact q1.elim
  · split at q1
    · exact hq _ _ q1
    · exact hq _ _ q1
    · exact q1.elim
def rangeT (lo : Int) (n : Nat) : List T := (List.range n).map fun k => .leaf (.int (lo + (k : Nat)))
theorem walks_range {K : PySem.W.Frag} {B : Bs} {lim : List Addr} {lo : Int} {n : Nat} : Walks K B lim (Itr lo n) [] (rangeT lo n) := by
  intro σ H g Φ i r
  refine ⟨fun t ht => ?_, fun hi => by
    show n ≤ i
    simpa [rangeT] using hi⟩
  unfold rangeT at ht
  rw [List.getElem?_map] at ht
  by_cases hi : i < n
  · rw [List.getElem?_range hi] at ht
    cases ht
    refine ⟨hi, fun x H' y => ?_⟩
    obtain ⟨e, y⟩ := y
    subst e y
    exact r.addLeaf
  · rw [List.getElem?_eq_none (by simpa using hi)] at ht
    cases ht
def iRange1 (t : DTA) : DTI := fun g Q E => t g (fun τs g1 => match τs with
  | [.leaf (.int j)] => -(2 ^ 62) ≤ j ∧ j < 2 ^ 62 ∧ Q (rangeT 0 j.toNat) g1
  | _ => False) E
theorem di_range1 {a : Expr} {t : DTA} {bs : List (Option Nat)} (hg : Gl X "range") (hm : X.mg "range" = none) (ha : DA X W [a] bs t) (hs : starEach [a] X.env = [(false, eval a X.env)] := by rfl) : DI X W tg (.Call (.Name "range" p) [a] [] pos) (iRange1 t) := by
  refine ⟨fun B => PI.imp (pi_range1 hg hm (ha.run B) hs) fun σ H R ⟨Φ, lim, g, E, r, hx, q⟩ => ?_, fun g Q Q' E E' hq hE q => ha.mono _ _ _ _ _ (fun τs g1 q1 => ?_) hE q⟩
  · refine ⟨Φ, lim, g, E, r, hx, ha.mono _ _ _ _ _ (fun τs g1 q1 vs H1 hl _ r1 => ?_) (fun _ _ _ z => z) q⟩
    split at q1
    · rename_i j
      match vs, hl with
      | [v], _ =>
        have r2 : RepG X.K B lim σ H1 g1 ((v, .leaf (.int j)) :: Φ) := r1
        obtain rfl := r2.leaf
        exact ⟨j, rfl, q1.1, q1.2.1, q1.2.2 _ [] H1 r2.dropT walks_range⟩
    · exact q1.elim
  · split at q1
    · exact ⟨q1.1, q1.2.1, hq _ _ q1.2.2⟩
    · exact q1.elim
abbrev lpE (f : Ev → Prop) (D : DEnds) : DEnds := { nx := f, ct := f, bk := D.nx, rt := D.rt, ex := D.ex }
def loopL (gt : DTG) (body : DTS) (D : DEnds) : List T → Ev → Prop
  | [], g => D.nx g
  | t :: ts, g => gt t g fun g1 => body (lpE (loopL gt body D ts) D) g1
inductive Loop (gt : DTG) (body : DTS) (D : DEnds) (ts : List T) (g : Ev) : Prop where
  | mk (h : loopL gt body D ts g) : Loop gt body D ts g
theorem Loop.out {gt : DTG} {body : DTS} {D : DEnds} {ts : List T} {g : Ev} : Loop gt body D ts g → loopL gt body D ts g
  | ⟨h⟩ => h
def sFor (it : DTI) (gt : DTG) (body : DTS) : DTS := fun D g => it g (fun ts g1 => Loop gt body D ts g1) D.ex
theorem Loop.ind {gt : DTG} {body : DTS} {D : DEnds} {ts : List T} {g : Ev} (I : Nat → Ev → Prop) (h0 : I 0 g)
    (hs : ∀ (i : Nat) (t : T) (g : Ev), ts[i]? = some t → I i g → ∀ R : Ev → Prop, (∀ g', I (i + 1) g' → R g') → gt t g fun g1 => body (lpE R D) g1) (he : ∀ g, I ts.length g → D.nx g) : Loop gt body D ts g := by
  refine ⟨?_⟩
  have key : ∀ (rest : List T) (i : Nat) (g : Ev), ts.drop i = rest → i ≤ ts.length → I i g → loopL gt body D rest g := by
    intro rest
    induction rest with
    | nil =>
      intro i g e hi h
      have : i = ts.length := by
        have := congrArg List.length e
        rw [List.length_drop, List.length_nil] at this
        omega
      subst this
      exact he g h
    | cons t rest ih =>
      intro i g e hi h
      have ht : ts[i]? = some t := by
        have := congrArg (·[0]?) e
        simpa using this
      have hlt : i < ts.length := by
        have := congrArg List.length e
        rw [List.length_drop, List.length_cons] at this
        omega
      refine hs i t g ht h (loopL gt body D rest) fun g' h' => ih (i + 1) g' ?_ hlt h'
      have := congrArg (List.drop 1) e
      rw [List.drop_drop] at this
      simpa [Nat.add_comm] using this
  exact key ts 0 g rfl (Nat.zero_le _) h0
theorem loopL_mono {gt : DTG} {body : DTS} {D D' : DEnds} (hg : ∀ τ g Q Q', (∀ g', Q g' → Q' g') → gt τ g Q → gt τ g Q') (hb : ∀ D D' g, D.Le D' → body D g → body D' g) (h : D.Le D') : ∀ ts g, loopL gt body D ts g → loopL gt body D' ts g
  | [], g, q => h.nx g q
  | t :: ts, g, q => hg _ _ _ _ (fun g1 q1 => hb (lpE (loopL gt body D ts) D) (lpE (loopL gt body D' ts) D') _ ⟨loopL_mono hg hb h ts, h.rt, h.ex, h.nx, loopL_mono hg hb h ts⟩ q1) q
theorem ds_for {iter : Expr} {body : List Stmt} {it : DTI} {gt : DTG} {tb : DTS} (hp : PassesOwn (model X.prog X.w) X.A X.env X.xe) (hc : X.calm = true) (hi : DI X W tg iter it) (hg : DG X m tg gt) (hb : DSs X W m body tb)
    (hs : ∀ x, foldedSetIterable iter X.env x = pure x := by intro _; rfl) : DS X W m (.For tg iter body [] pos) (sFor it gt tb) := by
  refine .mk' (fun B σ0 => ps_for hp hc (hi.run B) (hg.run B σ0) (hb.run B σ0) hs) (fun B σ0 D σ H Φ lim g E r hk hX q => ?_) fun D D' g h q => hi.mono _ _ _ _ _ (fun ts g1 q1 => ⟨loopL_mono hg.mono hb.mono h ts g1 q1.out⟩) h.ex q
  refine ⟨Φ, lim, g, E, r, hX σ hk, hi.mono _ _ _ _ _ (fun ts g1 q1 J Ψ H1 r1 hw => ?_) (fun _ _ _ z => z) q⟩
  refine ⟨fun i n σ H => n = ts.length - i ∧ i ≤ ts.length ∧ ∃ g, RepG X.K B lim σ H g (Ψ ++ Φ) ∧ Kept m σ0 σ ∧ loopL gt tb (low X.K B m σ0 lim Φ D E) (ts.drop i) g, ⟨ts.length, by simp, Nat.zero_le _, g1, r1, hk, q1.out⟩, ?_⟩
  rintro i n σ H ⟨rfl, hi', g2, r2, hk2, q2⟩
  obtain ⟨w1, w2⟩ := hw σ H g2 Φ i r2
  by_cases hlt : i < ts.length
  · have e : ts.drop i = ts[i] :: ts.drop (i + 1) := (List.drop_eq_getElem_cons hlt)
    rw [e] at q2
    obtain ⟨go, yl⟩ := w1 ts[i] (by simp [hlt])
    refine .inr ⟨go, fun σ H => ∃ g, RepG X.K B lim σ H g (Ψ ++ Φ) ∧ Kept m σ0 σ ∧ loopL gt tb (low X.K B m σ0 lim Φ D E) (ts.drop (i + 1)) g, fun σ' H' ⟨g', a1, a2, a3⟩ => ⟨ts.length - (i + 1), by omega, rfl, hlt, g', a1, a2, a3⟩, fun x H' y => ?_⟩
    refine ⟨Ψ ++ Φ, lim, g2, ts[i], yl x H' y, hk2, hg.mono _ _ _ _ (fun g3 q3 σ3 H3 r3 hk3 => ?_) q2⟩
    refine ⟨Ψ ++ Φ, lim, g3, E, r3, hk3, hX, hb.mono (lpE (loopL gt tb (low X.K B m σ0 lim Φ D E) (ts.drop (i + 1))) (low X.K B m σ0 lim Φ D E)) _ _ ⟨fun g' q' σ' H' r' hk' => ⟨g', r', hk', q'⟩, fun _ _ z => z, fun _ _ _ z => z, fun g' q' σ' H' r' hk' => q' σ' H' r'.dropTs hk', fun g' q' σ' H' r' hk' => ⟨g', r', hk', q'⟩⟩ q3⟩
  · have e : ts.drop i = [] := List.drop_eq_nil_of_le (by omega)
    rw [e] at q2
    exact .inl ⟨w2 (by omega), q2 σ H r2.dropTs hk2⟩
def whileN (c : DTT) (body : DTS) (D : DEnds) : Nat → Ev → Prop
  | 0, _ => False
  | n + 1, g => c g (fun b g1 => ifB b (body (lpE (whileN c body D n) D) g1) (D.nx g1)) D.ex
inductive While (c : DTT) (body : DTS) (D : DEnds) (g : Ev) : Prop where
  | mk (h : ∃ n, whileN c body D n g) : While c body D g
theorem While.out {c : DTT} {body : DTS} {D : DEnds} {g : Ev} : While c body D g → ∃ n, whileN c body D n g
  | ⟨h⟩ => h
theorem While.ind {c : DTT} {body : DTS} {D : DEnds} {g : Ev} (I : Nat → Ev → Prop) (n : Nat) (h0 : I n g)
    (hs : ∀ (n : Nat) (g : Ev), I n g → ∀ R : Ev → Prop, (∀ m g', n = m + 1 → I m g' → R g') → c g (fun b g1 => ifB b (body (lpE R D) g1) (D.nx g1)) D.ex) : While c body D g := by
  refine ⟨n + 1, ?_⟩
  induction n generalizing g with
  | zero => exact hs 0 g h0 (whileN c body D 0) fun m g' e _ => by omega
  | succ n ih =>
    refine hs (n + 1) g h0 (whileN c body D (n + 1)) fun m g' e h => ?_
    have : m = n := by omega
    subst this
    exact ih h
def sWhile (c : DTT) (body : DTS) : DTS := fun D g => While c body D g
theorem whileN_mono {c : DTT} {body : DTS} {D D' : DEnds} (hc : ∀ g Q Q' E E', (∀ b g', Q b g' → Q' b g') → (∀ c fs g', E c fs g' → E' c fs g') → c g Q E → c g Q' E') (hb : ∀ D D' g, D.Le D' → body D g → body D' g) (h : D.Le D') : ∀ n g, whileN c body D n g → whileN c body D' n g
  | 0, g, q => q
  | n + 1, g, q => hc _ _ _ _ _ (fun b g1 q1 => by
      cases b with
      | true => exact hb (lpE (whileN c body D n) D) (lpE (whileN c body D' n) D') _ ⟨whileN_mono hc hb h n, h.rt, h.ex, h.nx, whileN_mono hc hb h n⟩ q1
      | false => exact h.nx _ q1) h.ex q
theorem ds_while {c : Expr} {body : List Stmt} {tc : DTT} {tb : DTS} (hp : PassesOwn (model X.prog X.w) X.A X.env X.xe) (hc : DT X W c tc) (hb : DSs X W m body tb) : DS X W m (.While c body [] pos) (sWhile tc tb) := by
  refine .mk' (fun B σ0 => ps_while hp (hc.run B) (hb.run B σ0)) (fun B σ0 D σ H Φ lim g E r hk hX q => ?_) fun D D' g h q => let ⟨n, q⟩ := q.out; ⟨n, whileN_mono hc.mono hb.mono h n g q⟩
  obtain ⟨n, q⟩ := q.out
  refine ⟨fun n σ H => ∃ g, RepG X.K B lim σ H g Φ ∧ Kept m σ0 σ ∧ whileN tc tb (low X.K B m σ0 lim Φ D E) n g, ⟨n, g, r, hk, q⟩, ?_⟩
  rintro n σ H ⟨g, r, hk, q⟩
  cases n with
  | zero => exact q.elim
  | succ n =>
    refine ⟨Φ, lim, g, E, r, hX σ hk, hc.mono _ _ _ _ _ (fun b g1 q1 H1 r1 => ?_) (fun _ _ _ z => z) q⟩
    cases b with
    | true =>
      rw [if_pos rfl]
      refine ⟨fun σ H => ∃ g, RepG X.K B lim σ H g Φ ∧ Kept m σ0 σ ∧ whileN tc tb (low X.K B m σ0 lim Φ D E) n g, fun σ' H' z => ⟨n, Nat.lt_succ_self n, z⟩, ?_⟩
      exact ⟨Φ, lim, g1, E, r1, hk, hX, hb.mono (lpE (whileN tc tb (low X.K B m σ0 lim Φ D E) n) (low X.K B m σ0 lim Φ D E)) _ _ ⟨fun g' q' σ' H' r' hk' => ⟨g', r', hk', q'⟩, fun _ _ z => z, fun _ _ _ z => z, fun _ z => z, fun g' q' σ' H' r' hk' => ⟨g', r', hk', q'⟩⟩ q1⟩
    | false =>
      rw [if_neg Bool.false_ne_true]
      exact q1 σ H1 r1 hk
end
end DL
set_option Elab.async false
set_option linter.all false
set_option maxRecDepth 100000
set_option maxHeartbeats 4000000
namespace DL
open PySem L2
def wipeE (g : Ev) : List Nat → Ev
  | [] => g
  | v :: vs => (wipeE g vs).set v none
theorem RepG.wipe {K : PySem.W.Frag} {B : Bs} {lim : List Addr} {σ : St} {H : Hp} {g : Ev} {Φ : Its} (h : RepG K B lim σ H g Φ) : ∀ vs : List Nat, RepG K B lim (L2.wipe σ vs) H (wipeE g vs) Φ
  | [] => h
  | v :: vs => (h.wipe vs).clear v none
theorem wipe_get (σ : St) : ∀ (vs : List Nat) (i : Nat), (L2.wipe σ vs)[i]? = if i ∈ vs ∧ i < σ.length then some none else σ[i]?
  | [], i => by simp [L2.wipe]
  | v :: vs, i => by
    unfold L2.wipe
    by_cases e : v = i
    · subst e
      by_cases hl : v < σ.length
      · rw [List.getElem?_set_self (by rw [wipe_length]; exact hl), if_pos ⟨List.mem_cons_self, hl⟩]
      · rw [List.getElem?_eq_none (by simpa [wipe_length] using hl), if_neg (fun z => hl z.2)]
        exact (List.getElem?_eq_none (by simpa using hl)).symm
    · rw [List.getElem?_set_ne e, wipe_get σ vs i]
      have : (i ∈ v :: vs ∧ i < σ.length) ↔ (i ∈ vs ∧ i < σ.length) := by
        rw [List.mem_cons]
        exact ⟨fun z => ⟨z.1.resolve_left (Ne.symm e), z.2⟩, fun z => ⟨.inr z.1, z.2⟩⟩
      by_cases h : i ∈ vs ∧ i < σ.length
      · rw [if_pos h, if_pos (this.mpr h)]
      · rw [if_neg h, if_neg (fun z => h (this.mp z))]
def mB (vs : List Nat) : Nat → Bool := fun i => !vs.contains i
theorem wipe_same {σ σ2 : St} {vs : List Nat} (k : Kept (mB vs) (L2.wipe σ vs) σ2) : L2.wipe σ2 vs = L2.wipe σ vs := by
  apply List.ext_getElem?
  intro i
  have hl : σ2.length = σ.length := k.1.trans (wipe_length σ vs)
  rw [wipe_get, wipe_get, hl]
  by_cases h : i ∈ vs ∧ i < σ.length
  · rw [if_pos h, if_pos h]
  · rw [if_neg h, if_neg h]
    by_cases hm : i ∈ vs
    · have hi : ¬ i < σ.length := fun z => h ⟨hm, z⟩
      rw [List.getElem?_eq_none (by omega), List.getElem?_eq_none (by omega)]
    · rw [k.2 i (by unfold mB; simpa using hm), wipe_get, if_neg h]
theorem EnvIs.swapS : ∀ {σ σ' : St} {g : Ev} {zs : Its}, EnvIs σ' g zs → σ.length = σ'.length → (∀ (i : Nat) (t : T), g[i]? = some (some t) → σ[i]? = σ'[i]?) → EnvIs σ g zs
  | [], _, _, _, .nil, _, _ => .nil
  | [], _, _, _, .skip _, e, _ => by cases e
  | [], _, _, _, .have _, e, _ => by cases e
  | x :: σ, _, _, _, .nil, e, _ => by cases e
  | x :: σ, _, _, _, .skip h, e, k => .skip (EnvIs.swapS h (by simpa using e) fun i t q => by simpa using k (i + 1) t (by simpa using q))
  | x :: σ, _, _, _, .have (v := v) (t := t) h, e, k => by
    have e0 : some x = some (some v) := by simpa using k 0 t rfl
    cases e0
    exact .have (EnvIs.swapS h (by simpa using e) fun i t q => by simpa using k (i + 1) t (by simpa using q))
def NoOwn (g : Ev) (vs : List Nat) : Prop := ∀ i ∈ vs, ∀ t : T, g[i]? ≠ some (some t)
theorem noOwn_wipe (g : Ev) : ∀ vs : List Nat, NoOwn (wipeE g vs) vs
  | [] => fun _ z => nomatch z
  | v :: vs => fun i hi t e => by
    unfold wipeE at e
    by_cases hv : v = i
    · subst hv
      by_cases hl : v < (wipeE g vs).length
      · rw [List.getElem?_set_self hl] at e; cases e
      · rw [List.getElem?_eq_none (by simpa using hl)] at e; cases e
    · rw [List.getElem?_set_ne hv] at e
      exact noOwn_wipe g vs i ((List.mem_cons.mp hi).resolve_left (Ne.symm hv)) t e
theorem RepG.unwipe {K : PySem.W.Frag} {B : Bs} {lim : List Addr} {σ : St} {H : Hp} {g : Ev} {Φ : Its} {vs : List Nat} (h : RepG K B lim (L2.wipe σ vs) H g Φ) (no : NoOwn g vs) : RepG K B lim σ H g Φ := by
  obtain ⟨F, zs, fp, en, o, f, hl⟩ := h
  refine ⟨F, zs, fp, en.swapS (wipe_length σ vs).symm fun i t q => ?_, o, f, hl⟩
  rw [wipe_get, if_neg fun z => no i z.1 t q]
abbrev W0 : WX := fun _ _ _ _ => False
abbrev noX : XP := fun _ _ _ => False
theorem liftX0 {K : PySem.W.Frag} {B : Bs} {W : WX} {σ : St} : liftX K B W σ noX := fun _ _ _ _ _ _ _ z => z.elim
structure DTs (X : Cx) (W : WX) (ifs : List Expr) (t : DTT) : Prop where
  run : ∀ B, PTs X ifs (liftT X.K B W t)
  mono : ∀ g Q Q' E E', (∀ b g', Q b g' → Q' b g') → (∀ c fs g', E c fs g' → E' c fs g') → t g Q E → t g Q' E'
def xYes : DTT := fun g Q _ => Q true g
theorem dts_nil {X : Cx} {W : WX} : DTs X W [] xYes := ⟨fun B => ⟨fun pins s σ H Q I ⟨Φ, lim, g, E, r, hx, q⟩ => pts_nil.run pins s σ H Q I (q H r)⟩, fun _ _ _ _ _ hq _ q => hq _ _ q⟩
def lcL (gt : DTG) (tt : DTT) (te : DTE) (vs : List Nat) : List T → Ev → List T → (List T → Ev → Prop) → Prop
  | [], g, acc, R => R acc g
  | t :: ts, g, acc, R => gt t g fun g1 => tt g1 (fun b g2 => ifB b (te g2 (fun τ g3 => acc.length < sizeLine ∧ lcL gt tt te vs ts (wipeE g3 vs) (acc ++ [τ]) R) noX) (lcL gt tt te vs ts (wipeE g2 vs) acc R)) noX
inductive Lc (gt : DTG) (tt : DTT) (te : DTE) (vs : List Nat) (ts : List T) (g : Ev) (acc : List T) (R : List T → Ev → Prop) : Prop where
  | mk (h : lcL gt tt te vs ts g acc R) : Lc gt tt te vs ts g acc R
theorem Lc.out {gt : DTG} {tt : DTT} {te : DTE} {vs : List Nat} {ts : List T} {g : Ev} {acc : List T} {R : List T → Ev → Prop} : Lc gt tt te vs ts g acc R → lcL gt tt te vs ts g acc R
  | ⟨h⟩ => h
theorem Lc.ind {gt : DTG} {tt : DTT} {te : DTE} {vs : List Nat} {ts : List T} {g : Ev} {acc : List T} {R : List T → Ev → Prop} (I : Nat → Ev → List T → Prop) (h0 : I 0 g acc)
    (hs : ∀ (i : Nat) (t : T) (g : Ev) (acc : List T), ts[i]? = some t → I i g acc → ∀ R' : Ev → List T → Prop, (∀ g' acc', I (i + 1) g' acc' → R' g' acc') →
      gt t g fun g1 => tt g1 (fun b g2 => ifB b (te g2 (fun τ g3 => acc.length < sizeLine ∧ R' (wipeE g3 vs) (acc ++ [τ])) noX) (R' (wipeE g2 vs) acc)) noX)
    (he : ∀ g acc, I ts.length g acc → R acc g) : Lc gt tt te vs ts g acc R := by
  refine ⟨?_⟩
  have key : ∀ (rest : List T) (i : Nat) (g : Ev) (acc : List T), ts.drop i = rest → i ≤ ts.length → I i g acc → lcL gt tt te vs rest g acc R := by
    intro rest
    induction rest with
    | nil =>
      intro i g acc e hi h
      have : i = ts.length := by
        have := congrArg List.length e
        rw [List.length_drop, List.length_nil] at this
        omega
      subst this
      exact he g acc h
    | cons t rest ih =>
      intro i g acc e hi h
      have ht : ts[i]? = some t := by
        have := congrArg (·[0]?) e
        simpa using this
      have hlt : i < ts.length := by
        have := congrArg List.length e
        rw [List.length_drop, List.length_cons] at this
        omega
      refine hs i t g acc ht h (fun g' acc' => lcL gt tt te vs rest g' acc' R) fun g' acc' h' => ih (i + 1) g' acc' ?_ hlt h'
      have := congrArg (List.drop 1) e
      rw [List.drop_drop] at this
      simpa [Nat.add_comm] using this
  exact key ts 0 g acc rfl (Nat.zero_le _) h0
theorem Lc.fm {gt : DTG} {tt : DTT} {te : DTE} {vs : List Nat} {ts : List T} {g : Ev} {R : List T → Ev → Prop} (F : T → Option T) (hl : ts.length ≤ sizeLine)
    (hs : ∀ t ∈ ts, ∀ (acc : List T) (R' : Ev → List T → Prop), acc.length < sizeLine → (∀ τ, F t = some τ → R' g (acc ++ [τ])) → (F t = none → R' g acc) →
      gt t g fun g1 => tt g1 (fun b g2 => ifB b (te g2 (fun τ g3 => acc.length < sizeLine ∧ R' (wipeE g3 vs) (acc ++ [τ])) noX) (R' (wipeE g2 vs) acc)) noX)
    (he : R (ts.filterMap F) g) : Lc gt tt te vs ts g [] R := by
  refine Lc.ind (fun i g' acc => g' = g ∧ acc = (ts.take i).filterMap F ∧ i ≤ ts.length) ⟨rfl, by simp, Nat.zero_le _⟩ (fun i t g' acc ht h R' hR => ?_) fun g' acc h => ?_
  · obtain ⟨rfl, rfl, hi⟩ := h
    have hlt : i < ts.length := by
      rw [List.getElem?_eq_some_iff] at ht
      exact ht.1
    have e1 : ts.take (i + 1) = ts.take i ++ [t] := by
      rw [List.take_add_one, ht]
      rfl
    refine hs t (List.mem_of_getElem? ht) _ R' ?_ (fun τ hτ => hR _ _ ⟨rfl, ?_, hlt⟩) (fun hn => hR _ _ ⟨rfl, ?_, hlt⟩)
    · have h1 := List.length_filterMap_le F (ts.take i)
      rw [List.length_take] at h1
      omega
    · rw [e1, List.filterMap_append]
      simp [hτ]
    · rw [e1, List.filterMap_append]
      simp [hn]
  · obtain ⟨rfl, rfl, _⟩ := h
    rw [List.take_length]
    exact he
def xLc (it : DTI) (gt : DTG) (tt : DTT) (te : DTE) (vs : List Nat) : DTE := fun g Q E => it g (fun ts g1 => Lc gt tt te vs ts (wipeE g1 vs) [] (fun acc g2 => Q (.node true .lst acc) g2)) E
theorem lcL_mono {gt : DTG} {tt : DTT} {te : DTE} {vs : List Nat} (hg : ∀ τ g Q Q', (∀ g', Q g' → Q' g') → gt τ g Q → gt τ g Q') (ht : ∀ g Q Q' E E', (∀ b g', Q b g' → Q' b g') → (∀ c fs g', E c fs g' → E' c fs g') → tt g Q E → tt g Q' E')
    (he : ∀ g Q Q' E E', (∀ b g', Q b g' → Q' b g') → (∀ c fs g', E c fs g' → E' c fs g') → te g Q E → te g Q' E') : ∀ ts g acc R R', (∀ acc g, R acc g → R' acc g) → lcL gt tt te vs ts g acc R → lcL gt tt te vs ts g acc R'
  | [], g, acc, R, R', h, q => h _ _ q
  | t :: ts, g, acc, R, R', h, q => hg _ _ _ _ (fun g1 q1 => ht _ _ _ _ _ (fun b g2 q2 => by
      cases b with
      | true => exact he _ _ _ _ _ (fun τ g3 q3 => ⟨q3.1, lcL_mono hg ht he ts _ _ R R' h q3.2⟩) (fun _ _ _ z => z) q2
      | false => exact lcL_mono hg ht he ts _ _ R R' h q2) (fun _ _ _ z => z) q1) q
section
variable {X : Cx} {W : WX} {m : Nat → Bool} {tg iter elt e : Expr} {te : DTE} {pos p : Pos}
theorem lc_reads {it : DTI} {gt : DTG} {tt : DTT} {vs : List Nat} {B : Bs} {σ : St} {H : Hp} {Q : VK} (mi : ∀ g Q Q' E E', (∀ ts g', Q ts g' → Q' ts g') → (∀ c fs g', E c fs g' → E' c fs g') → it g Q E → it g Q' E')
    (mg : ∀ τ g Q Q', (∀ g', Q g' → Q' g') → gt τ g Q → gt τ g Q') (mt : ∀ g Q Q' E E', (∀ b g', Q b g' → Q' b g') → (∀ c fs g', E c fs g' → E' c fs g') → tt g Q E → tt g Q' E')
    (me : ∀ g Q Q' E E', (∀ b g', Q b g' → Q' b g') → (∀ c fs g', E c fs g' → E' c fs g') → te g Q E → te g Q' E') (h : liftE X.K B W (xLc it gt tt te vs) σ H Q) :
    tLc (liftI X.K B W it) (liftG X.K B (mB vs) (L2.wipe σ vs) gt) (liftT X.K B W0 tt) (liftE X.K B W0 te) vs σ H Q := by
  obtain ⟨Φ, lim, g, E, r, hx, q⟩ := h
  refine ⟨Φ, lim, g, E, r, hx, mi _ _ _ _ _ (fun ts g1 q1 J Ψ H1 r1 hw D hD => ?_) (fun _ _ _ z => z) q⟩
  have r2 : RepG X.K B lim σ (upd H1 D (.lst [])) g1 (Ψ ++ ((.ref D, .node true .lst []) :: Φ)) := (RepG.make (s := .lst) (zs := []) r1 hD).perm List.perm_middle.symm
  refine ⟨fun i n H => n = ts.length - i ∧ i ≤ ts.length ∧ ∃ g acc, NoOwn g vs ∧ RepG X.K B lim (L2.wipe σ vs) H g (Ψ ++ ((.ref D, .node true .lst acc) :: Φ)) ∧
    lcL gt tt te vs (ts.drop i) g acc (fun acc g2 => ∀ v H', RepG X.K B lim σ H' g2 ((v, .node true .lst acc) :: Φ) → Q v H'), ⟨ts.length, by simp, Nat.zero_le _, _, [], noOwn_wipe g1 vs, r2.wipe vs, q1.out⟩, ?_⟩
  rintro i n H ⟨rfl, hi, g2, acc, no, r3, q3⟩
  obtain ⟨w1, w2⟩ := hw _ H g2 _ i r3
  by_cases hlt : i < ts.length
  · have e : ts.drop i = ts[i] :: ts.drop (i + 1) := (List.drop_eq_getElem_cons hlt)
    rw [e] at q3
    obtain ⟨go, yl⟩ := w1 ts[i] (by simp [hlt])
    refine .inr ⟨go, fun H => ∃ g acc, NoOwn g vs ∧ RepG X.K B lim (L2.wipe σ vs) H g (Ψ ++ ((.ref D, .node true .lst acc) :: Φ)) ∧
      lcL gt tt te vs (ts.drop (i + 1)) g acc (fun acc g2 => ∀ v H', RepG X.K B lim σ H' g2 ((v, .node true .lst acc) :: Φ) → Q v H'), fun H' z => ⟨ts.length - (i + 1), by omega, rfl, hlt, z⟩, fun x H' y => ?_⟩
    refine ⟨_, lim, g2, ts[i], yl x H' y, kept_refl, mg _ _ _ _ (fun g4 q4 σ4 H4 r4 hk4 => ?_) q3⟩
    have ws := wipe_same hk4
    refine ⟨ws, _, lim, g4, noX, r4, liftX0, mt _ _ _ _ _ (fun b g5 q5 H5 r5 => ?_) (fun _ _ _ z => z) q4⟩
    cases b with
    | false =>
      rw [if_neg Bool.false_ne_true]
      refine ⟨_, acc, noOwn_wipe g5 vs, ?_, q5⟩
      have := r5.wipe vs
      rwa [ws] at this
    | true =>
      rw [if_pos rfl]
      refine ⟨_, lim, g5, noX, r5, liftX0, me _ _ _ _ _ (fun τ g6 q6 z H6 r6 => ?_) (fun _ _ _ z => z) q5⟩
      have p1 : ((z, τ) :: (Ψ ++ ((V.ref D, T.node true .lst acc) :: Φ))).Perm ((V.ref D, T.node true .lst acc) :: ((z, τ) :: (Ψ ++ Φ))) :=
        (List.Perm.cons _ List.perm_middle).trans (List.Perm.swap _ _ _)
      obtain ⟨a, us, ea, hl, ha, r7⟩ := (r6.perm p1).open_
      cases ea
      refine ⟨us, ha, by rw [hl]; exact q6.1, _, acc ++ [τ], noOwn_wipe g6 vs, ?_, q6.2⟩
      have r8 : RepG X.K B (D :: lim) σ4 H6 g6 ((us.zip acc ++ [(z, τ)]) ++ (Ψ ++ Φ)) := by
        rw [List.append_assoc]
        exact r7
      have r9 := r8.close (s := .lst) (fun vs e => nomatch (show HO.lst us = HO.tup vs from Option.some.inj (ha.symm.trans e)))
      have e1 : ((us.zip acc ++ [(z, τ)]).map (·.1)) = us ++ [z] := by
        rw [List.map_append, List.map_fst_zip (by omega)]
        rfl
      have e2 : ((us.zip acc ++ [(z, τ)]).map (·.2)) = acc ++ [τ] := by
        rw [List.map_append, List.map_snd_zip (by omega)]
        rfl
      rw [e1, e2] at r9
      have r10 := (r9.perm List.perm_middle.symm).wipe vs
      rwa [ws] at r10
  · have e : ts.drop i = [] := List.drop_eq_nil_of_le (by omega)
    rw [e] at q3
    exact .inl ⟨w2 (by omega), q3 _ H (r3.unwipe no |>.dropTs)⟩
theorem xLc_mono {it : DTI} {gt : DTG} {tt : DTT} {vs : List Nat} (mi : ∀ g Q Q' E E', (∀ ts g', Q ts g' → Q' ts g') → (∀ c fs g', E c fs g' → E' c fs g') → it g Q E → it g Q' E')
    (mg : ∀ τ g Q Q', (∀ g', Q g' → Q' g') → gt τ g Q → gt τ g Q') (mt : ∀ g Q Q' E E', (∀ b g', Q b g' → Q' b g') → (∀ c fs g', E c fs g' → E' c fs g') → tt g Q E → tt g Q' E')
    (me : ∀ g Q Q' E E', (∀ b g', Q b g' → Q' b g') → (∀ c fs g', E c fs g' → E' c fs g') → te g Q E → te g Q' E') :
    ∀ g Q Q' E E', (∀ τ g', Q τ g' → Q' τ g') → (∀ c fs g', E c fs g' → E' c fs g') → xLc it gt tt te vs g Q E → xLc it gt tt te vs g Q' E' := fun g Q Q' E E' hq hE q =>
  mi _ _ _ _ _ (fun ts g1 q1 => ⟨lcL_mono mg mt me ts _ _ _ _ (fun _ _ z => hq _ _ z) q1.out⟩) hE q
theorem d_lc {ifs : List Expr} {scope : Scope} {own : List (Str × Nat)} {it : DTI} {gt : DTG} {tt : DTT} (hc : X.calm = true) (hN : X.N.Nodup) (hi : DI X W tg iter it) (ok : BlkOk X.N X.env.scope scope own)
    (hg : ∀ (s : Shared) (H : Hp) (C : Addr) (cl : List (Str × Addr)) (fp : List Addr), DG (X.blk s H scope (compEnvC scope cl C X.env) fp) (mB (own.map (·.2))) tg gt)
    (ht : ∀ (s : Shared) (H : Hp) (C : Addr) (cl : List (Str × Addr)) (fp : List Addr), DTs (X.blk s H scope (compEnvC scope cl C X.env) fp) W0 ifs tt)
    (he : ∀ (s : Shared) (H : Hp) (C : Addr) (cl : List (Str × Addr)) (fp : List Addr), DE (X.blk s H scope (compEnvC scope cl C X.env) fp) W0 elt te) (hs : ∀ x, foldedSetIterable iter X.env x = pure x := by intro _; rfl) :
    DE X W (.ListComp elt [⟨tg, iter, ifs, 0⟩] scope pos) (xLc it gt tt te (own.map (·.2))) :=
  have mg := fun (s : Shared) (H : Hp) => (hg s H 0 [] []).mono
  have mt := fun (s : Shared) (H : Hp) => (ht s H 0 [] []).mono
  have me := fun (s : Shared) (H : Hp) => (he s H 0 [] []).mono
  ⟨fun B => ⟨fun pins s σ H Q I h => (pe_lc (g := liftG X.K B (mB (own.map (·.2))) (L2.wipe σ (own.map (·.2))) gt) hc hN (hi.run B) ok (fun s H C cl fp => (hg s H C cl fp).run B _) (fun s H C cl fp => (ht s H C cl fp).run B) (fun s H C cl fp => (he s H C cl fp).run B) hs).run pins s σ H Q I
    (lc_reads hi.mono (mg s H) (mt s H) (me s H) h)⟩, xLc_mono hi.mono (mg X.s_0 X.H_0) (mt X.s_0 X.H_0) (me X.s_0 X.H_0)⟩
theorem ds_setLc {i : Nat} {y : Str} {py spos : Pos} {ifs : List Expr} {scope : Scope} {own : List (Str × Nat)} {it : DTI} {gt : DTG} {tt : DTT} (ow : Bool) (hc : X.calm = true) (hN : X.N.Nodup) (hy : X.N[i]? = some y) (hyl : X.env.scope.names.lookup y = some .local) (hmi : m i = false)
    (hsw : swapsWith (.ListComp elt [⟨tg, iter, ifs, 0⟩] scope pos) (some (.Name y py)) spos.line X.env = pure true) (hi : DI X W tg iter it) (ok : BlkOk X.N X.env.scope scope own)
    (hg : ∀ (s : Shared) (H : Hp) (C : Addr) (cl : List (Str × Addr)) (fp : List Addr), DG (X.blk s H scope (compEnvC scope cl C X.env) fp) (mB (own.map (·.2))) tg gt)
    (ht : ∀ (s : Shared) (H : Hp) (C : Addr) (cl : List (Str × Addr)) (fp : List Addr), DTs (X.blk s H scope (compEnvC scope cl C X.env) fp) W0 ifs tt)
    (he : ∀ (s : Shared) (H : Hp) (C : Addr) (cl : List (Str × Addr)) (fp : List Addr), DE (X.blk s H scope (compEnvC scope cl C X.env) fp) W0 elt te) (hs : ∀ x, foldedSetIterable iter X.env x = pure x := by intro _; rfl) :
    DS X W m (.Assign [.Name y py] (.ListComp elt [⟨tg, iter, ifs, 0⟩] scope pos) spos) (sSet ow i (xLc it gt tt te (own.map (·.2)))) := by
  have mg := fun (s : Shared) (H : Hp) => (hg s H 0 [] []).mono
  have mt := fun (s : Shared) (H : Hp) => (ht s H 0 [] []).mono
  have me := fun (s : Shared) (H : Hp) => (he s H 0 [] []).mono
  refine ⟨fun B σ0 => ⟨fun pins s σ H D I ⟨Φ, lim, g, E, r, hk, hX, q⟩ => ?_⟩, fun D D' g h q => xLc_mono hi.mono (mg X.s_0 X.H_0) (mt X.s_0 X.H_0) (me X.s_0 X.H_0) _ _ _ _ _ (fun τ g1 q1 => h.nx _ q1) h.ex q⟩
  refine (ps_setLc (g := liftG X.K B (mB (own.map (·.2))) (L2.wipe σ (own.map (·.2))) gt) (tt := liftT X.K B W0 tt) (te := liftE X.K B W0 te) (wi := liftI X.K B W it) hc hN hy hyl hsw (hi.run B) ok (fun s H C cl fp => (hg s H C cl fp).run B _) (fun s H C cl fp => (ht s H C cl fp).run B) (fun s H C cl fp => (he s H C cl fp).run B) hs).run pins s σ H D I ?_
  refine lc_reads hi.mono (mg s H) (mt s H) (me s H) ⟨Φ, lim, g, E, r, hX σ hk, xLc_mono hi.mono (mg s H) (mt s H) (me s H) _ _ _ _ _ (fun τ g1 q1 v H1 r1 => ?_) (fun _ _ _ z => z) q⟩
  refine q1 (σ.set i (some v)) H1 ?_ (hk.set hmi)
  cases ow with
  | true => exact r1.put'
  | false => exact r1.freezeT.put'
def rtIx : R2T := fun τ1 τ2 Q => match τ1, τ2 with
  | .node _ .lst ts, .leaf (.int i) => ∃ t, atI ts i = some t ∧ Q (frz t)
  | .node _ .tup ts, .leaf (.int i) => ∃ t, atI ts i = some t ∧ Q (frz t)
  | .leaf (.str z), .leaf (.int i) => z.length ≤ sizeLine ∧ ∃ c, atI z.cps.toList i = some c ∧ Q (.leaf (.str ⟨#[c]⟩))
  | _, _ => False
theorem atI_len {α β : Type} {xs : List α} {ys : List β} {i : Int} {y : β} (hl : xs.length = ys.length) (h : atI ys i = some y) : ∃ (j : Nat) (x : α), atI xs i = some x ∧ xs[j]? = some x ∧ ys[j]? = some y := by
  unfold atI at h ⊢
  rw [hl]
  cases e : ixN ys.length i with
  | none => rw [e] at h; cases h
  | some j =>
    rw [e] at h
    have h' : ys[j]? = some y := h
    have hj : j < xs.length := by
      rw [hl]
      rw [List.getElem?_eq_some_iff] at h'
      exact h'.1
    exact ⟨j, xs[j], by show xs[j]? = _; simp [hj], by simp [hj], h'⟩
theorem frzL_at : ∀ {ts : List T} {j : Nat} {t : T}, ts[j]? = some t → (frzL ts)[j]? = some (frz t)
  | [], _, _, h => by simp at h
  | a :: ts, 0, t, h => by
    simp at h
    subst h
    rfl
  | a :: ts, j + 1, t, h => by
    have := frzL_at (ts := ts) (j := j) (t := t) (by simpa using h)
    simpa [frzL] using this
theorem RepG.part {K : PySem.W.Frag} {B : Bs} {lim : List Addr} {σ : St} {H : Hp} {g : Ev} {Φ : Its} {v : V} {o : Bool} {s : Sh} {ts : List T} (h : RepG K B lim σ H g ((v, .node o s ts) :: Φ)) :
    ∃ a vs, v = .ref a ∧ vs.length = ts.length ∧ (Rd H a (s.mk a vs) ∨ Konst K a vs s) ∧ ∀ (j : Nat) (t : T) (x : V), ts[j]? = some t → vs[j]? = some x → RepG K B lim σ H g ((x, frz t) :: Φ) := by
  obtain ⟨a, vs, e, hl, hr, r⟩ := h.parts
  refine ⟨a, vs, e, hl, hr, fun j t x ht hx => ?_⟩
  obtain ⟨y, hy, hz⟩ := zip_get (l := vs) (r := frzL ts) (by rw [hl, frzL_length]) (frzL_at ht)
  rw [hx] at hy
  cases hy
  exact (r.one hz).perm (List.Perm.swap _ _ _) |>.dropT
theorem op2_ix {K : PySem.W.Frag} : Op2 K (rIx K) rtIx := by
  refine ⟨fun B lim σ H g Φ v1 v2 τ1 τ2 Q r q => ?_, fun τ1 τ2 Q Q' hq q => ?_⟩
  · unfold rtIx at q
    split at q
    · rename_i o ts i
      obtain rfl := r.leaf
      obtain ⟨t, ht, q⟩ := q
      obtain ⟨a, vs, rfl, hl, hr, hp⟩ := r.dropT.part
      obtain ⟨j, x, e1, e2, e3⟩ := atI_len hl ht
      exact .inl ⟨a, vs, i, x, rfl, rfl, seqL hr, e1, q x H (hp j t x e3 e2)⟩
    · rename_i o ts i
      obtain rfl := r.leaf
      obtain ⟨t, ht, q⟩ := q
      obtain ⟨a, vs, rfl, hl, hr, hp⟩ := r.dropT.part
      obtain ⟨j, x, e1, e2, e3⟩ := atI_len hl ht
      exact .inr (.inl ⟨a, vs, i, x, rfl, rfl, seqT hr, e1, q x H (hp j t x e3 e2)⟩)
    · rename_i z i
      obtain rfl := r.leaf
      obtain rfl := r.dropT.leaf
      obtain ⟨hz, c, hc, q⟩ := q
      exact .inr (.inr ⟨z, i, c, rfl, rfl, hz, hc, q _ H r.dropT.dropT.addLeaf⟩)
    · exact q.elim
  · unfold rtIx at q
    split at q
    · obtain ⟨t, ht, q⟩ := q
      exact ⟨t, ht, hq _ q⟩
    · obtain ⟨t, ht, q⟩ := q
      exact ⟨t, ht, hq _ q⟩
    · obtain ⟨hz, c, hc, q⟩ := q
      exact ⟨hz, c, hc, hq _ q⟩
    · exact q.elim
theorem d_ix {a b : Expr} {ta tb : DTE} (ha : DE X W a ta) (hb : DE X W b tb) (hs : PlainIx b := by intro _ _; rfl) : DE X W (.Subscript a b pos) (xOp rtIx ta tb) := by
  refine ⟨fun B => PE.imp (pe_ix ix_seq (ha.run B) (hb.run B) hs) fun σ H Q ⟨Φ, lim, g, E, r, hx, q⟩ => ?_, fun g Q Q' E E' hq he q => ?_⟩
  · exact lift2 r hx hb.mono ha.mono q fun v1 v2 τ1 τ2 g2 H2 r2 q2 => op2_ix.1 B lim σ H2 g2 Φ v1 v2 τ1 τ2 Q r2 q2
  · exact ha.mono _ _ _ _ _ (fun τ1 g1 q1 => hb.mono _ _ _ _ _ (fun τ2 g2 q2 => (op2_ix (K := X.K)).2 _ _ _ _ (fun τ z => hq _ _ z) q2) he q1) he q
end
end DL
set_option Elab.async false
set_option linter.all false
set_option maxRecDepth 100000
set_option maxHeartbeats 4000000
namespace DL
open PySem L2
abbrev RNT := List T → (T → Prop) → Prop
def CallN (X : Cx) (f : Value) (r : List V → Hp → VK → Prop) (rt : RNT) : Prop :=
  CallR X f r ∧ (∀ (B : Bs) (lim : List Addr) (σ : St) (H : Hp) (g : Ev) (Φ : Its) (vs : List V) (τs : List T) (Q : VK), vs.length = τs.length → RepG X.K B lim σ H g (vs.zip τs ++ Φ) →
    rt τs (fun τ => ∀ v H', RepG X.K B lim σ H' g ((v, τ) :: Φ) → Q v H') → r vs H Q) ∧ ∀ τs Q Q', (∀ τ, Q τ → Q' τ) → rt τs Q → rt τs Q'
def xCB (rt : RNT) (t : DTA) : DTE := fun g Q E => t g (fun τs g1 => rt τs fun τ => Q τ g1) E
section
variable {X : Cx} {W : WX} {m : Nat → Bool} {a b c e : Expr} {es : List Expr} {ta tb tc te : DTE} {t : DTA} {bs : List (Option Nat)} {pos p : Pos} {x : Str}
theorem xCB_mono {rt : RNT} (hm : ∀ τs Q Q', (∀ τ, Q τ → Q' τ) → rt τs Q → rt τs Q') (ht : ∀ g Q Q' E E', (∀ τs g', Q τs g' → Q' τs g') → (∀ c fs g', E c fs g' → E' c fs g') → t g Q E → t g Q' E') :
    ∀ g Q Q' E E', (∀ τ g', Q τ g' → Q' τ g') → (∀ c fs g', E c fs g' → E' c fs g') → xCB rt t g Q E → xCB rt t g Q' E' := fun g Q Q' E E' hq he q =>
  ht _ _ _ _ _ (fun τs g1 q1 => hm _ _ _ (fun τ z => hq _ _ z) q1) he q
theorem d_callB {id : String} {r : List V → Hp → VK → Prop} {rt : RNT} (hc : CallN X (.builtin id) r rt) (hg : Gl X x) (hm : X.mg x = none) (hv : bootBuiltins x = some (.builtin id)) (ha : DA X W (e :: es) bs t) (hn : x ≠ "__name__" := by decide) (hdb : (x == ("__debug__" : Str)) = false := by decide)
    (he : starEach (e :: es) X.env = (false, eval e X.env) :: starEach es X.env := by rfl) (hpl : (backTo pos (starEach es X.env)).any (·.1) = false := by rfl) : DE X W (.Call (.Name x p) (e :: es) [] pos) (xCB rt t) := by
  refine ⟨fun B => PE.imp (pe_callB hc.1 hg hm hv (ha.run B) hn hdb he hpl) fun σ H Q ⟨Φ, lim, g, E, r, hx, q⟩ => ?_, xCB_mono hc.2.2 ha.mono⟩
  exact ⟨Φ, lim, g, E, r, hx, ha.mono _ _ _ _ _ (fun τs g1 q1 vs H1 hl _ r1 => hc.2.1 B lim σ H1 g1 Φ vs τs Q hl r1 (hc.2.2 _ _ _ (fun τ z v H' r' => z v H' r') q1)) (fun _ _ _ z => z) q⟩
theorem d_callTy {id : String} {r : List V → Hp → VK → Prop} {rt : RNT} (hc : CallN X (.type id) r rt) (hg : Gl X x) (hm : X.mg x = none) (hv : bootBuiltins x = some (.type id)) (ha : DA X W (e :: es) bs t) (hn : x ≠ "__name__" := by decide) (hdb : (x == ("__debug__" : Str)) = false := by decide)
    (he : starEach (e :: es) X.env = (false, eval e X.env) :: starEach es X.env := by rfl) (hpl : (backTo pos (starEach es X.env)).any (·.1) = false := by rfl) : DE X W (.Call (.Name x p) (e :: es) [] pos) (xCB rt t) := by
  refine ⟨fun B => PE.imp (pe_callTy hc.1 hg hm hv (ha.run B) hn hdb he hpl) fun σ H Q ⟨Φ, lim, g, E, r, hx, q⟩ => ?_, xCB_mono hc.2.2 ha.mono⟩
  exact ⟨Φ, lim, g, E, r, hx, ha.mono _ _ _ _ _ (fun τs g1 q1 vs H1 hl _ r1 => hc.2.1 B lim σ H1 g1 Φ vs τs Q hl r1 (hc.2.2 _ _ _ (fun τ z v H' r' => z v H' r') q1)) (fun _ _ _ z => z) q⟩
theorem one_leaf {K : PySem.W.Frag} {B : Bs} {lim : List Addr} {σ : St} {H : Hp} {g : Ev} {Φ : Its} {vs : List V} {w : V} (hl : vs.length = [T.leaf w].length) (r : RepG K B lim σ H g (vs.zip [T.leaf w] ++ Φ)) : vs = [w] ∧ RepG K B lim σ H g Φ := by
  match vs, hl with
  | [v], _ =>
    have r2 : RepG K B lim σ H g ((v, .leaf w) :: Φ) := r
    obtain rfl := r2.leaf
    exact ⟨rfl, r2.dropT⟩
theorem two_leaf {K : PySem.W.Frag} {B : Bs} {lim : List Addr} {σ : St} {H : Hp} {g : Ev} {Φ : Its} {vs : List V} {w w' : V} (hl : vs.length = [T.leaf w, T.leaf w'].length) (r : RepG K B lim σ H g (vs.zip [T.leaf w, T.leaf w'] ++ Φ)) : vs = [w, w'] ∧ RepG K B lim σ H g Φ := by
  match vs, hl with
  | [v, v'], _ =>
    have r2 : RepG K B lim σ H g ((v, .leaf w) :: (v', .leaf w') :: Φ) := r
    obtain rfl := r2.leaf
    obtain rfl := r2.dropT.leaf
    exact ⟨rfl, r2.dropT.dropT⟩
def rnAbs : RNT := fun τs Q => match τs with
  | [.leaf (.int i)] => Q (.leaf (.int (if i < 0 then -i else i)))
  | _ => False
theorem n_abs : CallN X (.builtin "abs") (fun xs H Q => ∃ i, xs = [.int i] ∧ Q (.int (if i < 0 then -i else i)) H) rnAbs := by
  refine ⟨call_abs, fun B lim σ H g Φ vs τs Q hl r q => ?_, fun τs Q Q' h q => ?_⟩
  · unfold rnAbs at q
    split at q
    · obtain ⟨rfl, r'⟩ := one_leaf hl r
      exact ⟨_, rfl, q _ _ r'.addLeaf⟩
    · exact q.elim
  · unfold rnAbs at q
    split at q
    · exact h _ q
    · exact q.elim
def rnInt : RNT := fun τs Q => match τs with
  | [.leaf (.int i)] => Q (.leaf (.int i))
  | [.leaf (.bl k)] => Q (.leaf (.int (if k then 1 else 0)))
  | _ => False
theorem n_int : CallN X (.type "int") (fun xs H Q => (∃ i, xs = [.int i] ∧ Q (.int i) H) ∨ ∃ k, xs = [.bl k] ∧ Q (.int (if k then 1 else 0)) H) rnInt := by
  refine ⟨call_int1, fun B lim σ H g Φ vs τs Q hl r q => ?_, fun τs Q Q' h q => ?_⟩
  · unfold rnInt at q
    split at q
    · obtain ⟨rfl, r'⟩ := one_leaf hl r
      exact .inl ⟨_, rfl, q _ _ r'.addLeaf⟩
    · obtain ⟨rfl, r'⟩ := one_leaf hl r
      exact .inr ⟨_, rfl, q _ _ r'.addLeaf⟩
    · exact q.elim
  · unfold rnInt at q
    split at q
    · exact h _ q
    · exact h _ q
    · exact q.elim
def rnLen : RNT := fun τs Q => match τs with
  | [.node _ .lst ts] => Q (.leaf (.int ts.length))
  | [.node _ .tup ts] => Q (.leaf (.int ts.length))
  | [.leaf (.str z)] => z.length ≤ sizeLine ∧ Q (.leaf (.int z.length))
  | _ => False
def rLenA (K : PySem.W.Frag) : List V → Hp → VK → Prop := fun xs H Q => (∃ p ys, xs = [.ref p] ∧ (SqL K H p ys ∨ SqT K H p ys) ∧ Q (.int ys.length) H) ∨ ∃ z, xs = [.str z] ∧ z.length ≤ sizeLine ∧ Q (.int z.length) H
theorem n_len : CallN X (.builtin "len") (rLenA X.K) rnLen := by
  refine ⟨call_len_seq.or call_len_str, fun B lim σ H g Φ vs τs Q hl r q => ?_, fun τs Q Q' h q => ?_⟩
  · unfold rnLen at q
    split at q
    · rename_i o ts
      match vs, hl with
      | [v], _ =>
        have r2 : RepG X.K B lim σ H g ((v, .node o .lst ts) :: Φ) := r
        obtain ⟨a, us, rfl, hl', hr⟩ := r2.node
        exact .inl ⟨a, us, rfl, .inl (seqL hr), by rw [hl']; exact q _ _ r2.dropT.addLeaf⟩
    · rename_i o ts
      match vs, hl with
      | [v], _ =>
        have r2 : RepG X.K B lim σ H g ((v, .node o .tup ts) :: Φ) := r
        obtain ⟨a, us, rfl, hl', hr⟩ := r2.node
        exact .inl ⟨a, us, rfl, .inr (seqT hr), by rw [hl']; exact q _ _ r2.dropT.addLeaf⟩
    · obtain ⟨rfl, r'⟩ := one_leaf hl r
      exact .inr ⟨_, rfl, q.1, q.2 _ _ r'.addLeaf⟩
    · exact q.elim
  · unfold rnLen at q
    split at q
    · exact h _ q
    · exact h _ q
    · exact ⟨q.1, h _ q.2⟩
    · exact q.elim
def rnMax2 : RNT := fun τs Q => match τs with
  | [.leaf (.int i), .leaf (.int j)] => Q (.leaf (.int (if j > i then j else i)))
  | _ => False
theorem n_max2 (hc : X.calm = true) : CallN X (.builtin "max") (fun xs H Q => ∃ i j, xs = [.int i, .int j] ∧ Q (.int (if j > i then j else i)) H) rnMax2 := by
  refine ⟨call_max2 hc, fun B lim σ H g Φ vs τs Q hl r q => ?_, fun τs Q Q' h q => ?_⟩
  · unfold rnMax2 at q
    split at q
    · obtain ⟨rfl, r'⟩ := two_leaf hl r
      exact ⟨_, _, rfl, q _ _ r'.addLeaf⟩
    · exact q.elim
  · unfold rnMax2 at q
    split at q
    · exact h _ q
    · exact q.elim
mutual
def toP : T → Option PyData
  | .leaf .non => some .none
  | .leaf (.bl b) => some (.bool b)
  | .leaf (.int i) => some (.int i)
  | .leaf (.str x) => some (.str x)
  | .leaf _ => none
  | .node _ .lst ts => (toPL ts).map .list
  | .node _ .tup ts => (toPL ts).map .tuple
  | .node _ _ _ => none
  | .pin _ _ => none
def toPL : List T → Option (List PyData)
  | [] => some []
  | t :: ts => match toP t with
    | none => none
    | some d => (toPL ts).map (d :: ·)
end
mutual
theorem OwnP.dp {K : PySem.W.Frag} {F : Addr → Prop} {H : Hp} : ∀ (t : T) {v : V} {fp : List Addr} {d : PyData}, OwnP K F H v t fp → toP t = some d → Dp K H v d
  | .leaf w, _, _, d, h, e => by
    cases h
    cases w <;> simp only [toP, Option.some.injEq, reduceCtorEq] at e
    · subst e; exact .non
    · subst e; exact .bl _
    · subst e; exact .int _
    · subst e; exact .str _
  | .pin _ _, _, _, _, _, e => by simp [toP] at e
  | .node o s ts, _, _, d, h, e => by
    cases s with
    | lst =>
      simp only [toP] at e
      cases q : toPL ts with
      | none => rw [q] at e; cases e
      | some ds =>
        rw [q] at e
        cases e
        cases h with
        | fz hf hr hk => exact .lst (SqL.of hr) (OwnL.dp ts hk q)
        | own ha hk => exact .lst (SqL.of ha) (OwnL.dp ts hk q)
    | tup =>
      simp only [toP] at e
      cases q : toPL ts with
      | none => rw [q] at e; cases e
      | some ds =>
        rw [q] at e
        cases e
        cases h with
        | fz hf hr hk => exact .tup (SqT.of hr) (OwnL.dp ts hk q)
        | kz hc _ hk => exact .tup (seqT (.inr hc)) (OwnL.dp ts hk q)
        | tk hr hk => exact .tup (seqT (.inl (.inl hr))) (OwnL.dp ts hk q)
        | own ha hk => exact .tup (SqT.of ha) (OwnL.dp ts hk q)
    | dK _ => simp [toP] at e
    | dT _ => simp [toP] at e
    | ins _ _ _ => simp [toP] at e
    | ext _ => simp [toP] at e
    | exc _ => simp [toP] at e
    | lk _ _ => simp [toP] at e
theorem OwnL.dp {K : PySem.W.Frag} {F : Addr → Prop} {H : Hp} : ∀ (ts : List T) {vs : List V} {fp : List Addr} {ds : List PyData}, OwnL K F H vs ts fp → toPL ts = some ds → DpAll K H vs ds
  | [], _, _, _, h, e => by
    cases h
    simp only [toPL, Option.some.injEq] at e
    subst e
    exact .nil
  | t :: ts, _, _, ds, h, e => by
    cases h with
    | cons h1 h2 =>
      simp only [toPL] at e
      cases q1 : toP t with
      | none => rw [q1] at e; cases e
      | some d =>
        rw [q1] at e
        cases q2 : toPL ts with
        | none => simp [q2] at e
        | some ds' =>
          simp only [q2, Option.map_some, Option.some.injEq] at e
          subst e
          exact .cons (OwnP.dp t h1 q1) (OwnL.dp ts h2 q2)
end
theorem RepG.dp {K : PySem.W.Frag} {B : Bs} {lim : List Addr} {σ : St} {H : Hp} {g : Ev} {Φ : Its} {v : V} {τ : T} {d : PyData} (h : RepG K B lim σ H g ((v, τ) :: Φ)) (e : toP τ = some d) : Dp K H v d := by
  obtain ⟨F, zs, fp, en, oz, f, hl⟩ := h
  obtain ⟨fp', pf, o'⟩ := oz.perm (List.perm_middle (a := (v, τ)))
  obtain ⟨f1, f2, rfl, p1, o2⟩ := OwnZ.uncons (zs := zs ++ Φ) o'
  exact p1.dp τ e
def rtEq (neg : Bool) : R2T := fun τ1 τ2 Q => match τ1, τ2 with
  | .leaf (.int i), .leaf (.int j) => Q (.leaf (.bl (if neg then !decide (i = j) else decide (i = j))))
  | .leaf (.str i), .leaf (.str j) => Q (.leaf (.bl (if neg then !decide (i = j) else decide (i = j))))
  | .leaf (.bl i), .leaf (.bl j) => Q (.leaf (.bl (if neg then !decide (i = j) else decide (i = j))))
  | τ1, τ2 => ∃ d e, toP τ1 = some d ∧ toP τ2 = some e ∧ SeqAt.shaped d = true ∧ SeqAt.shaped e = true ∧ Q (.leaf (.bl (if neg then !PyData.eqv d e else PyData.eqv d e)))
theorem rtEq_mono {neg : Bool} : ∀ τ1 τ2 Q Q', (∀ τ, Q τ → Q' τ) → rtEq neg τ1 τ2 Q → rtEq neg τ1 τ2 Q' := by
  intro τ1 τ2 Q Q' hq q
  unfold rtEq at q ⊢
  split at q
  · exact hq _ q
  · exact hq _ q
  · exact hq _ q
  · obtain ⟨d, e, h1, h2, h3, h4, q⟩ := q
    exact ⟨d, e, h1, h2, h3, h4, hq _ q⟩
def rEqA (K : PySem.W.Frag) : R2 := fun x y H Q => rEq x y H Q ∨ rEqD K x y H Q
def rNeA (K : PySem.W.Frag) : R2 := fun x y H Q => rNe x y H Q ∨ rNeD K x y H Q
theorem op_eqA (hu : X.A.units + 64 < cLine) : OpR X (compareOp .Eq) (rEqA X.K) := fun pins s σ H x y v u Q I rx ry h => h.elim (op_eq pins s σ H x y v u Q I rx ry) (op_eqD hu pins s σ H x y v u Q I rx ry)
theorem op_neA (hu : X.A.units + 64 < cLine) : OpR X (compareOp .NotEq) (rNeA X.K) := fun pins s σ H x y v u Q I rx ry h => h.elim (op_ne pins s σ H x y v u Q I rx ry) (op_neD hu pins s σ H x y v u Q I rx ry)
theorem dec_vint (i j : Int) : decide (V.int i = V.int j) = decide (i = j) := by simp
theorem dec_vstr (i j : Str) : decide (V.str i = V.str j) = decide (i = j) := by simp
theorem dec_vbl (i j : Bool) : decide (V.bl i = V.bl j) = decide (i = j) := by simp
theorem op2_eq {K : PySem.W.Frag} : Op2 K (rEqA K) (rtEq false) := by
  refine ⟨fun B lim σ H g Φ v1 v2 τ1 τ2 Q r q => ?_, rtEq_mono⟩
  unfold rtEq at q
  split at q
  · obtain rfl := r.leaf
    obtain rfl := r.dropT.leaf
    refine .inl ⟨rfl, ?_⟩
    rw [dec_vint]
    exact q _ _ r.dropT.dropT.addLeaf
  · obtain rfl := r.leaf
    obtain rfl := r.dropT.leaf
    refine .inl ⟨rfl, ?_⟩
    rw [dec_vstr]
    exact q _ _ r.dropT.dropT.addLeaf
  · obtain rfl := r.leaf
    obtain rfl := r.dropT.leaf
    refine .inl ⟨rfl, ?_⟩
    rw [dec_vbl]
    exact q _ _ r.dropT.dropT.addLeaf
  · obtain ⟨d, e, h1, h2, h3, h4, q⟩ := q
    exact .inr ⟨d, e, r.dropT.dp h1, r.dp h2, h3, h4, q _ _ r.dropT.dropT.addLeaf⟩
theorem op2_ne {K : PySem.W.Frag} : Op2 K (rNeA K) (rtEq true) := by
  refine ⟨fun B lim σ H g Φ v1 v2 τ1 τ2 Q r q => ?_, rtEq_mono⟩
  unfold rtEq at q
  split at q
  · obtain rfl := r.leaf
    obtain rfl := r.dropT.leaf
    refine .inl ⟨rfl, ?_⟩
    rw [dec_vint]
    exact q _ _ r.dropT.dropT.addLeaf
  · obtain rfl := r.leaf
    obtain rfl := r.dropT.leaf
    refine .inl ⟨rfl, ?_⟩
    rw [dec_vstr]
    exact q _ _ r.dropT.dropT.addLeaf
  · obtain rfl := r.leaf
    obtain rfl := r.dropT.leaf
    refine .inl ⟨rfl, ?_⟩
    rw [dec_vbl]
    exact q _ _ r.dropT.dropT.addLeaf
  · obtain ⟨d, e, h1, h2, h3, h4, q⟩ := q
    exact .inr ⟨d, e, r.dropT.dp h1, r.dp h2, h3, h4, q _ _ r.dropT.dropT.addLeaf⟩
def rRepr (K : PySem.W.Frag) : List V → Hp → VK → Prop := fun xs H Q => ∃ v d, xs = [v] ∧ Dp K H v d ∧ d.showable = true ∧ d.hasDict = false ∧ d.depth ≤ 60 ∧ d.shown.length ≤ sizeLine ∧ Q (.str d.shown) H
theorem reads_leafy {h : Heap} {u : Value} {d : PyData} {as : List Addr} (r : Reads h u d as) : (∃ a, u = .ref a) ∨ (u = .none ∧ d = .none) ∨ (∃ b, u = .bool b ∧ d = .bool b) ∨ (∃ i t, u = .int i t ∧ d = .int i) ∨ ∃ x t, u = .str x t ∧ d = .str x := by
  cases r with
  | none => exact .inr (.inl ⟨rfl, rfl⟩)
  | bool b => exact .inr (.inr (.inl ⟨b, rfl, rfl⟩))
  | int i t => exact .inr (.inr (.inr (.inl ⟨i, t, rfl, rfl⟩)))
  | str x t => exact .inr (.inr (.inr (.inr ⟨x, t, rfl, rfl⟩)))
  | list h1 h2 h3 h4 => exact .inl ⟨_, rfl⟩
  | tuple h1 h2 h3 h4 => exact .inl ⟨_, rfl⟩
  | dict h1 h2 h3 h4 h5 => exact .inl ⟨_, rfl⟩
theorem call_reprD (hgd : X.A.guards = some []) (hu : X.A.units + 64 < cLine) : CallR X (.builtin "repr") (rRepr X.K) := by
  intro pins s σ H xs us Q I r h
  obtain ⟨v, d, rfl, hd, hs, hnd, hdep, hsz, q⟩ := h
  obtain ⟨u, rfl, ru⟩ := Vals.one r
  obtain ⟨as, rd⟩ := Dp.reads I d v u hd ru
  have fin : ∀ (h' : Heap) (t tk : Nat), (∀ b o, s.heap.get? b = some o → h'.get? b = some o) → EP X pins σ Q (.str d.shown t) { s with heap := h', toks := tk } := fun h' t tk k => ⟨.str d.shown, H, I.kept k, ⟨t, rfl⟩, q⟩
  rcases reads_leafy rd with ⟨a, rfl⟩ | ⟨rfl, rfl⟩ | ⟨b, rfl, rfl⟩ | ⟨i, t, rfl, rfl⟩ | ⟨x, t, rfl, rfl⟩
  · exact repr_of_reads' rd hs (fun z => by rw [hnd] at z; cases z) hgd (by omega) (fun _ _ z => z) (fun h' u tk k => fin h' u tk k) hsz
  · have := fin s.heap s.toks (s.toks + 1) fun _ _ z => z
    simp only [PyData.shown] at this
    exact PySem.P.repr_of_none this
  · have := fin s.heap s.toks (s.toks + 1) fun _ _ z => z
    simp only [PyData.shown] at this
    exact PySem.P.repr_of_bool this
  · have := fin s.heap s.toks (s.toks + 1) fun _ _ z => z
    simp only [PyData.shown] at this
    exact PySem.P.repr_of_int (by simpa [PyData.showable] using hs) this
  · have := fin s.heap s.toks (s.toks + 1) fun _ _ z => z
    simp only [PyData.shown] at this hsz
    exact PySem.P.repr_of_str this hsz
def rnRepr : RNT := fun τs Q => match τs with
  | [τ] => ∃ d, toP τ = some d ∧ d.showable = true ∧ d.hasDict = false ∧ d.depth ≤ 60 ∧ d.shown.length ≤ sizeLine ∧ Q (.leaf (.str d.shown))
  | _ => False
theorem n_repr (hgd : X.A.guards = some []) (hu : X.A.units + 64 < cLine) : CallN X (.builtin "repr") (rRepr X.K) rnRepr := by
  refine ⟨call_reprD hgd hu, fun B lim σ H g Φ vs τs Q hl r q => ?_, fun τs Q Q' h q => ?_⟩
  · unfold rnRepr at q
    split at q
    · rename_i τ
      match vs, hl with
      | [v], _ =>
        have r2 : RepG X.K B lim σ H g ((v, τ) :: Φ) := r
        obtain ⟨d, h1, h2, h3, h4, h5, q⟩ := q
        exact ⟨v, d, rfl, r2.dp h1, h2, h3, h4, h5, q _ _ r2.dropT.addLeaf⟩
    · exact q.elim
  · unfold rnRepr at q
    split at q
    · obtain ⟨d, h1, h2, h3, h4, h5, q⟩ := q
      exact ⟨d, h1, h2, h3, h4, h5, h _ q⟩
    · exact q.elim
end
end DL
set_option Elab.async false
set_option linter.all false
set_option maxRecDepth 100000
set_option maxHeartbeats 4000000
namespace DL
open PySem L2
theorem upd_self {H : Hp} {a : Addr} {o : HO} (h : H a = some o) : upd H a o = H := by
  funext b
  unfold upd
  split
  · rename_i e
    rw [e, h]
  · rfl
section
variable {K : PySem.W.Frag} {B : Bs} {lim : List Addr} {σ : St} {H H' : Hp} {g : Ev} {Φ Ψ : Its}
theorem set_perm {α : Type} : ∀ {l : List α} {i : Nat} {x : α} (y : α), l[i]? = some x → ∃ r, l.Perm (x :: r) ∧ (l.set i y).Perm (y :: r)
  | [], _, _, _, h => by simp at h
  | a :: l, 0, x, y, h => by
    simp at h
    subst h
    exact ⟨l, .refl _, .refl _⟩
  | a :: l, i + 1, x, y, h => by
    obtain ⟨r, p1, p2⟩ := set_perm (l := l) (i := i) (x := x) y (by simpa using h)
    exact ⟨a :: r, (List.Perm.cons _ p1).trans (List.Perm.swap _ _ _), (List.Perm.cons _ p2).trans (List.Perm.swap _ _ _)⟩
theorem zip_set {α β : Type} : ∀ {l : List α} {r : List β} {i : Nat} {a : α} {b : β}, (l.zip r).set i (a, b) = (l.set i a).zip (r.set i b)
  | [], _, _, _, _ => by simp
  | _ :: _, [], _, _, _ => by simp
  | x :: l, y :: r, 0, a, b => rfl
  | x :: l, y :: r, i + 1, a, b => by
    simp only [List.zip_cons_cons, List.set_cons_succ, List.cons.injEq, true_and]
    exact zip_set
theorem RepG.partO {i : Nat} {s : Sh} {ts : List T} {j : Nat} {t : T} (h : RepG K B lim σ H g Φ) (e : g[i]? = some (some (.node true s ts))) (ht : ts[j]? = some t) :
    ∃ a us x, σ[i]? = some (some (.ref a)) ∧ us.length = ts.length ∧ H a = some (s.mk a us) ∧ us[j]? = some x ∧ RepG K B lim σ H (g.set i (some (.node true s (ts.set j (frz t))))) ((x, frz t) :: Φ) := by
  obtain ⟨v, hv, r1⟩ := h.move e
  obtain ⟨a, us, rfl, hl, ha, r2⟩ := r1.open_
  obtain ⟨x, hx, hz⟩ := zip_get (l := us) (r := ts) hl ht
  obtain ⟨r, p1, p2⟩ := set_perm (x, frz t) hz
  have r3 : RepG K B (a :: lim) σ H (g.set i none) ((x, t) :: (r ++ Φ)) := r2.perm (List.Perm.append_right Φ p1)
  have r4 := r3.freezeT.dup (frz_frz t)
  have r5 : RepG K B (a :: lim) σ H (g.set i none) (us.zip (ts.set j (frz t)) ++ ((x, frz t) :: Φ)) := by
    refine r4.perm ?_
    have e1 : us.zip (ts.set j (frz t)) = (us.zip ts).set j (x, frz t) := by
      rw [zip_set, set_at hx]
    rw [e1]
    refine (List.Perm.cons _ (List.Perm.append_right Φ p2.symm)).trans ?_
    exact List.perm_middle.symm
  have hl2 : us.length = (ts.set j (frz t)).length := by rw [List.length_set]; exact hl
  have r6 := r5.close (s := s) (fun vs e => by rw [List.map_fst_zip (by omega)]; exact Option.some.inj (ha.symm.trans e))
  rw [List.map_fst_zip (by omega), List.map_snd_zip (by omega), upd_self ha] at r6
  have r7 := r6.back hv
  rw [List.set_set] at r7
  exact ⟨a, us, x, hv, hl, ha, hx, r7⟩
theorem RepG.setO {i : Nat} {s : Sh} {ts : List T} {j : Nat} {w : V} {τ : T} (h : RepG K B lim σ H g ((w, τ) :: Φ)) (e : g[i]? = some (some (.node true s ts))) (hj : j < ts.length) (hs : s ≠ .tup := by intro h; cases h) :
    ∃ a us, σ[i]? = some (some (.ref a)) ∧ us.length = ts.length ∧ H a = some (s.mk a us) ∧ RepG K B lim σ (upd H a (s.mk a (us.set j w))) (g.set i (some (.node true s (ts.set j τ)))) Φ := by
  obtain ⟨v, hv, r1⟩ := h.move e
  obtain ⟨a, us, rfl, hl, ha, r2⟩ := r1.open_
  have ht : ts[j]? = some ts[j] := by simp [hj]
  obtain ⟨x, hx, hz⟩ := zip_get (l := us) (r := ts) hl ht
  obtain ⟨r, p1, p2⟩ := set_perm (w, τ) hz
  have r3 : RepG K B (a :: lim) σ H (g.set i none) ((x, ts[j]) :: (r ++ ((w, τ) :: Φ))) := r2.perm (List.Perm.append_right _ p1)
  have r5 : RepG K B (a :: lim) σ H (g.set i none) ((us.set j w).zip (ts.set j τ) ++ Φ) := by
    refine r3.dropT.perm ?_
    rw [← zip_set]
    exact List.perm_middle.trans (List.Perm.append_right Φ p2.symm)
  have hl2 : (us.set j w).length = (ts.set j τ).length := by rw [List.length_set, List.length_set]; exact hl
  have r6 := r5.close (s := s) (fun vs e => absurd (Sh.mk_tup (Option.some.inj (ha.symm.trans e))).1 hs)
  rw [List.map_fst_zip (by omega), List.map_snd_zip (by omega)] at r6
  have r7 := r6.back hv
  rw [List.set_set] at r7
  exact ⟨a, us, hv, hl, ha, r7⟩
theorem RepG.renew {i : Nat} {s s' : Sh} {ts : List T} (h : RepG K B lim σ H g Φ) (e : g[i]? = some (some (.node true s ts))) (hs : s ≠ .tup := by intro h; cases h) :
    ∃ a us, σ[i]? = some (some (.ref a)) ∧ us.length = ts.length ∧ H a = some (s.mk a us) ∧ ∀ (zs Ψ : Its), (zs ++ Ψ).Perm (us.zip ts ++ Φ) →
      RepG K B lim σ (upd H a (s'.mk a (zs.map (·.1)))) (g.set i (some (.node true s' (zs.map (·.2))))) Ψ := by
  obtain ⟨v, hv, r1⟩ := h.move e
  obtain ⟨a, us, rfl, hl, ha, r2⟩ := r1.open_
  refine ⟨a, us, hv, hl, ha, fun zs Ψ p => ?_⟩
  have r6 := (r2.perm p.symm).close (s := s') (fun vs e => absurd (Sh.mk_tup (Option.some.inj (ha.symm.trans e))).1 hs)
  have r7 := r6.back hv
  rwa [List.set_set] at r7
theorem RepG.slot {i : Nat} {t : T} (h : RepG K B lim σ H g Φ) (e : g[i]? = some (some t)) : ∃ v, σ[i]? = some (some v) := by
  obtain ⟨v, hv, _⟩ := h.move e
  exact ⟨v, hv⟩
end
section
variable {X : Cx} {W : WX} {m : Nat → Bool} {a b c e : Expr} {es : List Expr} {ta tb tc te : DTE} {t : DTA} {bs : List (Option Nat)} {pos p : Pos} {x : Str}
def atSlot (i : Nat) (g : Ev) (P : T → Prop) : Prop := match g[i]? with
  | some (some t) => P t
  | _ => False
theorem atSlot_mono {i : Nat} {g : Ev} {P P' : T → Prop} (h : ∀ t, P t → P' t) (q : atSlot i g P) : atSlot i g P' := by
  unfold atSlot at q ⊢
  split at q
  · exact h _ q
  · exact q.elim
theorem atSlot_of {i : Nat} {g : Ev} {P : T → Prop} (q : atSlot i g P) : ∃ t, g[i]? = some (some t) ∧ P t := by
  unfold atSlot at q
  split at q
  · rename_i t h
    exact ⟨t, h, q⟩
  · exact q.elim
def ownL : T → (List T → Prop) → Prop
  | .node true .lst ts, P => P ts
  | _, _ => False
theorem ownL_mono {t : T} {P P' : List T → Prop} (h : ∀ ts, P ts → P' ts) (q : ownL t P) : ownL t P' := by
  unfold ownL at q
  split at q
  · exact h _ q
  · exact q.elim
theorem ownL_of {t : T} {P : List T → Prop} (q : ownL t P) : ∃ ts, t = .node true .lst ts ∧ P ts := by
  unfold ownL at q
  split at q
  · exact ⟨_, rfl, q⟩
  · exact q.elim
def isI : T → (Int → Prop) → Prop
  | .leaf (.int i), P => P i
  | _, _ => False
theorem isI_mono {t : T} {P P' : Int → Prop} (h : ∀ i, P i → P' i) (q : isI t P) : isI t P' := by
  unfold isI at q
  split at q
  · exact h _ q
  · exact q.elim
theorem isI_of {t : T} {P : Int → Prop} (q : isI t P) : ∃ i, t = .leaf (.int i) ∧ P i := by
  unfold isI at q
  split at q
  · exact ⟨_, rfl, q⟩
  · exact q.elim
theorem ixN_lt {n : Nat} {k : Int} {j : Nat} (h : ixN n k = some j) : j < n := (ixN_seq h).2.1
def xIxO (i : Nat) (tb : DTE) : DTE := fun g Q E => atSlot i g fun _ => tb g (fun τ2 g1 => isI τ2 fun k => atSlot i g1 fun t0 => ownL t0 fun ts => ∃ j t, ixN ts.length k = some j ∧ ts[j]? = some t ∧ Q (frz t) (g1.set i (some (.node true .lst (ts.set j (frz t)))))) E
theorem d_ixO (i : Nat) (ha : PE X a (tVar i)) (hb : DE X W b tb) (hs : PlainIx b := by intro _ _; rfl) : DE X W (.Subscript a b pos) (xIxO i tb) := by
  refine ⟨fun B => PE.imp (pe_ix ix_list ha (hb.run B) hs) fun σ H Q ⟨Φ, lim, g, E, r, hx, q⟩ => ?_, fun g Q Q' E E' hq he q => atSlot_mono (fun _ q => hb.mono _ _ _ _ _ (fun τ g1 q1 => isI_mono (fun k q2 => atSlot_mono (fun t0 q3 => ownL_mono (fun ts ⟨j, t, h1, h2, q4⟩ => ⟨j, t, h1, h2, hq _ _ q4⟩) q3) q2) q1) he q) q⟩
  obtain ⟨t0, h0, q⟩ := atSlot_of q
  obtain ⟨v, hv⟩ := r.slot h0
  refine ⟨v, hv, Φ, lim, g, E, r, hx, hb.mono _ _ _ _ _ (fun τ2 g1 q1 v2 H2 r2 => ?_) (fun _ _ _ z => z) q⟩
  obtain ⟨k, rfl, q1⟩ := isI_of q1
  obtain ⟨t1, h1, q1⟩ := atSlot_of q1
  obtain ⟨ts, rfl, j, t, hj, ht, q1⟩ := ownL_of q1
  obtain rfl := r2.leaf
  obtain ⟨ad, us, y, hv2, hl, hH, hy, r3⟩ := r2.dropT.partO h1 ht
  rw [hv] at hv2
  cases hv2
  refine ⟨ad, us, k, y, rfl, rfl, SqL.of hH, ?_, q1 _ _ r3⟩
  unfold atI
  rw [hl, hj]
  exact hy
def gSetI (i : Nat) (ti : DTE) : DTG := fun τ g Q => atSlot i g fun _ => ti g (fun τ2 g1 => isI τ2 fun k => atSlot i g1 fun t0 => ownL t0 fun ts => ∃ j, ixN ts.length k = some j ∧ Q (g1.set i (some (.node true .lst (ts.set j τ))))) noX
theorem dg_setI {o ix : Expr} {ti : DTE} (i : Nat) (ho : PE X o (tVar i)) (hi : DE X W0 ix ti) (ha : ∀ v, assign (.Subscript o ix pos) X.env v = (do
      let ov ← holding [v] (eval o X.env)
      let iv ← holding [v, ov] (eval ix X.env)
      standAt pos
      holding [v, ov, iv] (setItem ov iv v)
      release [v, ov, iv] []) := by intro _; rfl) : DG X m (.Subscript o ix pos) (gSetI i ti) := by
  refine ⟨fun B σ0 => PG.imp (pg_sub ho (hi.run B) set_list ha) fun v σ H Q ⟨Φ, lim, g, τ, r, hk, q⟩ => ?_, fun τ g Q Q' h q => atSlot_mono (fun _ q => hi.mono _ _ _ _ _ (fun τ g1 q1 => isI_mono (fun k q2 => atSlot_mono (fun t0 q3 => ownL_mono (fun ts ⟨j, h1, q4⟩ => ⟨j, h1, h _ q4⟩) q3) q2) q1) (fun _ _ _ z => z) q) q⟩
  obtain ⟨t0, h0, q⟩ := atSlot_of q
  obtain ⟨v0, hv⟩ := r.slot h0
  refine ⟨v0, hv, (v, τ) :: Φ, lim, g, noX, r, liftX0, hi.mono _ _ _ _ _ (fun τ2 g1 q1 v2 H2 r2 => ?_) (fun _ _ _ z => z) q⟩
  obtain ⟨k, rfl, q1⟩ := isI_of q1
  obtain ⟨t1, h1, q1⟩ := atSlot_of q1
  obtain ⟨ts, rfl, j, hj, q1⟩ := ownL_of q1
  obtain rfl := r2.leaf
  obtain ⟨ad, us, hv2, hl, hH, r3⟩ := r2.dropT.setO h1 (ixN_lt hj)
  rw [hv] at hv2
  cases hv2
  exact ⟨ad, us, k, j, rfl, rfl, hH, by rw [hl]; exact hj, q1 _ _ r3 hk⟩
theorem get_list : PGet X (fun o i H Q => ∃ (p : Addr) (xs : List V) (k : Int) (v : V), o = .ref p ∧ i = .int k ∧ 0 ≤ k ∧ SqL X.K H p xs ∧ xs[k.toNat]? = some v ∧ Q v H) := by
  intro pins s σ H o i ov iv Q I ro ri h
  obtain ⟨pa, xs, k, v, rfl, rfl, h0, hs, hv, q⟩ := h
  cases ro
  obtain ⟨t, rfl⟩ := ri
  obtain ⟨its, r, pl, hz⟩ := I.list hs
  obtain ⟨w, ew, rw'⟩ := r.get hv
  have hl := r.length
  have hn := line63
  have hk : k.toNat < xs.length := by
    rw [List.getElem?_eq_some_iff] at hv
    exact hv.1
  exact wpAny_getItem_list pl.isList h0 (by omega) (by simpa using ew) ⟨v, H, I, rw', q⟩
def isLf : T → (V → Prop) → Prop
  | .leaf w, P => P w
  | _, _ => False
theorem isLf_mono {t : T} {P P' : V → Prop} (h : ∀ i, P i → P' i) (q : isLf t P) : isLf t P' := by
  unfold isLf at q
  split at q
  · exact h _ q
  · exact q.elim
theorem isLf_of {t : T} {P : V → Prop} (q : isLf t P) : ∃ i, t = .leaf i ∧ P i := by
  unfold isLf at q
  split at q
  · exact ⟨_, rfl, q⟩
  · exact q.elim
def sAugI (i : Nat) (ti : DTE) (rt : R2T) (te : DTE) : DTS := fun D g => atSlot i g fun _ => ti g (fun τ2 g1 => isI τ2 fun k => 0 ≤ k ∧ atSlot i g1 fun t0 => ownL t0 fun ts => ∃ t, ts[k.toNat]? = some t ∧ isLf t fun w => te g1 (fun τe g2 => rt (.leaf w) τe fun τ =>
  atSlot i g2 fun t2 => ownL t2 fun ts2 => k.toNat < ts2.length ∧ D.nx (g2.set i (some (.node true .lst (ts2.set k.toNat τ))))) D.ex) D.ex
theorem ds_augI {o ix : Expr} {ti : DTE} {op : Operator} {rr : R2} {rt : R2T} {tpos : Pos} (i : Nat) (ho : PE X o (tVar i)) (hi : DE X W ix ti) (he : DE X W e te) (hp : OpR X (inplaceOp op) rr) (hr : Op2 X.K rr rt)
    (ha : ∀ ov iv new, augStore ix ov iv new = (do holding [new, ov, iv] (setItem ov iv new); release [new, ov, iv] []; pure .next) := by intros; rfl) : DS X W m (.AugAssign (.Subscript o ix tpos) op e pos) (sAugI i ti rt te) := by
  refine .mk' (fun B σ0 => ps_augS ho (hi.run B) get_list (he.run B) hp set_list ha) (fun B σ0 D σ H Φ lim g E r hk hX q => ?_) fun D D' g h q => ?_
  · obtain ⟨t0, h0, q⟩ := atSlot_of q
    obtain ⟨v0, hv⟩ := r.slot h0
    refine ⟨v0, hv, Φ, lim, g, E, r, hX σ hk, hi.mono _ _ _ _ _ (fun τ2 g1 q1 v2 H2 r2 => ?_) (fun _ _ _ z => z) q⟩
    obtain ⟨k, rfl, hk0, q1⟩ := isI_of q1
    obtain ⟨t1, h1, q1⟩ := atSlot_of q1
    obtain ⟨ts, rfl, t, ht, q1⟩ := ownL_of q1
    obtain ⟨w, rfl, q1⟩ := isLf_of q1
    obtain rfl := r2.leaf
    obtain ⟨ad, us, y, hv2, hl, hH, hy, r3⟩ := r2.dropT.partO h1 ht
    rw [hv] at hv2
    cases hv2
    obtain rfl := r3.leaf
    have r4 : RepG X.K B lim σ H2 g1 ((y, .leaf y) :: Φ) := by
      have e1 : ts.set k.toNat (frz (.leaf y)) = ts := by
        show ts.set k.toNat (.leaf y) = ts
        exact set_at ht
      rw [e1, set_at h1] at r3
      exact r3
    refine ⟨ad, us, k, y, rfl, rfl, hk0, SqL.of hH, hy, (y, .leaf y) :: Φ, lim, g1, E, r4, hX σ hk, he.mono _ _ _ _ _ (fun τe g2 q2 v3 H3 r5 => ?_) (fun _ _ _ z => z) q1⟩
    refine hr.1 B lim σ H3 g2 Φ y v3 _ τe _ r5 (hr.2 _ _ _ _ (fun τ q3 v4 H4 r6 => ?_) q2)
    obtain ⟨t2, h2, q3⟩ := atSlot_of q3
    obtain ⟨ts2, rfl, hlt, q3⟩ := ownL_of q3
    obtain ⟨ad2, us2, hv3, hl2, hH2, r7⟩ := r6.setO h2 hlt
    rw [hv] at hv3
    cases hv3
    refine ⟨ad, us2, k, k.toNat, rfl, rfl, hH2, ?_, q3 _ _ r7 hk⟩
    unfold ixN
    rw [if_pos hk0, hl2, if_pos (by omega)]
  · refine atSlot_mono (fun _ q => hi.mono _ _ _ _ _ (fun τ g1 q1 => isI_mono (fun k q2 => ⟨q2.1, atSlot_mono (fun t0 q3 => ownL_mono (fun ts ⟨t, h1, q4⟩ => ⟨t, h1, isLf_mono (fun w q5 => ?_) q4⟩) q3) q2.2⟩) q1) h.ex q) q
    exact he.mono _ _ _ _ _ (fun τe g2 q6 => hr.2 _ _ _ _ (fun τ q7 => atSlot_mono (fun t2 q8 => ownL_mono (fun ts2 q9 => ⟨q9.1, h.nx _ q9.2⟩) q8) q7) q6) h.ex q5
def sAug (i : Nat) (rt : R2T) (te : DTE) : DTS := fun D g => atSlot i g fun t0 => isLf t0 fun w => te g (fun τe g1 => rt (.leaf w) τe fun τ => D.nx (g1.set i (some (frz τ)))) D.ex
theorem ds_aug {i : Nat} {op : Operator} {rr : R2} {rt : R2T} {pos' : Pos} (hN : X.N.Nodup) (hi : X.N[i]? = some x) (hx : Loc X.env.scope x) (he : DE X W e te) (hp : OpR X (inplaceOp op) rr) (hr : Op2 X.K rr rt) (hm : m i = false)
    (hf : X.fn x = true ∨ X.env.scope.names.lookup x = some .local := by first | exact .inl rfl | exact .inr rfl | assumption) : DS X W m (.AugAssign (.Name x pos') op e pos) (sAug i rt te) := by
  refine .mk' (fun B σ0 => ps_aug hN hi hx (he.run B) hp hf) (fun B σ0 D σ H Φ lim g E r hk hX q => ?_) fun D D' g h q => ?_
  · obtain ⟨t0, h0, q⟩ := atSlot_of q
    obtain ⟨w, rfl, q⟩ := isLf_of q
    obtain ⟨v0, hv, r1⟩ := r.look h0 rfl
    obtain rfl := r1.leaf
    refine ⟨v0, hv, (v0, .leaf v0) :: Φ, lim, g, E, r1, hX σ hk, he.mono _ _ _ _ _ (fun τe g1 q1 v1 H1 r2 => ?_) (fun _ _ _ z => z) q⟩
    exact hr.1 B lim σ H1 g1 Φ v0 v1 _ τe _ r2 (hr.2 _ _ _ _ (fun τ q2 v2 H2 r3 => q2 _ _ r3.freezeT.put' (hk.set hm)) q1)
  · exact atSlot_mono (fun t0 q => isLf_mono (fun w q => he.mono _ _ _ _ _ (fun τe g1 q1 => hr.2 _ _ _ _ (fun τ q2 => h.nx _ q2) q1) h.ex q) q) q
def xApp (i : Nat) (te : DTE) : DTE := fun g Q E => atSlot i g fun t0 => ownL t0 fun _ => te g (fun τ g1 => atSlot i g1 fun t1 => ownL t1 fun ts => ts.length < sizeLine ∧ Q (.leaf .non) (g1.set i (some (.node true .lst (ts ++ [τ]))))) E
theorem d_app {o : Expr} {apos cpos : Pos} (i : Nat) (ho : PE X o (tVar i)) (he : DE X W e te) (hbase : attributeBase o "append" X.env (eval o X.env) = eval o X.env := by rfl)
    (hfew : ((backTo cpos (starEach [e] X.env)).all (fun x => !x.1) && (backToKw cpos (keywordEach [] X.env)).all (fun x => x.1.isSome) && decide ([e].length + ([] : List Keyword).length + (if ([] : List Keyword).isEmpty then 0 else 1) < 30)) = true := by rfl)
    (hline : (apos.endLine == cpos.line) = true := by rfl) (hs : starEach [e] X.env = (false, eval e X.env) :: starEach [] X.env := by rfl) (hplain : (backTo cpos (starEach [] X.env)).any (·.1) = false := by rfl) : DE X W (.Call (.Attribute o "append" apos) [e] [] cpos) (xApp i te) := by
  refine ⟨fun B => PE.imp (pe_bm PySem.F.plainAttrs_list PySem.F.slot_list_append PySem.F.type_list_append mt_append ho (pa_cons (he.run B) pa_nil hs) hbase hfew hline hs hplain) fun σ H Q ⟨Φ, lim, g, E, r, hx, q⟩ => ?_, fun g Q Q' E E' hq hE q => ?_⟩
  · obtain ⟨t0, h0, q⟩ := atSlot_of q
    obtain ⟨ts0, rfl, q⟩ := ownL_of q
    obtain ⟨ad, us, hv, hl, hH, _⟩ := r.renew (s' := .lst) h0
    refine ⟨.ref ad, hv, .inl ⟨rfl, us, SqL.of hH⟩, Φ, lim, g, E, r, hx, he.mono _ _ _ _ _ (fun τ g1 q1 w H1 r1 => ?_) (fun _ _ _ z => z) q⟩
    obtain ⟨t1, h1, q1⟩ := atSlot_of q1
    obtain ⟨ts, rfl, hlt, q1⟩ := ownL_of q1
    obtain ⟨ad2, us2, hv2, hl2, hH2, k⟩ := r1.renew (s' := .lst) h1
    rw [hv] at hv2
    cases hv2
    refine ⟨ad, us2, w, rfl, rfl, hH2, by omega, ?_⟩
    have r2 := k (us2.zip ts ++ [(w, τ)]) Φ (by rw [List.append_assoc]; exact .refl _)
    have e1 : ((us2.zip ts ++ [(w, τ)]).map (·.1)) = us2 ++ [w] := by
      rw [List.map_append, List.map_fst_zip (by omega)]
      rfl
    have e2 : ((us2.zip ts ++ [(w, τ)]).map (·.2)) = ts ++ [τ] := by
      rw [List.map_append, List.map_snd_zip (by omega)]
      rfl
    rw [e1, e2] at r2
    exact q1 _ _ r2.addLeaf
  · exact atSlot_mono (fun t0 q => ownL_mono (fun _ q => he.mono _ _ _ _ _ (fun τ g1 q1 => atSlot_mono (fun t1 q2 => ownL_mono (fun ts q3 => ⟨q3.1, hq _ _ q3.2⟩) q2) q1) hE q) q) q
end
end DL
set_option Elab.async false
set_option linter.all false
set_option maxRecDepth 100000
set_option maxHeartbeats 4000000
namespace DL
open PySem L2
section
variable {K : PySem.W.Frag} {B : Bs} {lim : List Addr} {σ : St} {H H' : Hp} {g : Ev} {Φ Ψ : Its}
theorem RepG.leaves : ∀ {ws vs : List V}, vs.length = (ws.map T.leaf).length → RepG K B lim σ H g (vs.zip (ws.map T.leaf) ++ Φ) → vs = ws
  | [], [], _, _ => rfl
  | [], _ :: _, h, _ => by cases h
  | _ :: _, [], h, _ => by cases h
  | w :: ws, v :: vs, h, r => by
    have r1 : RepG K B lim σ H g ((v, .leaf w) :: (vs.zip (ws.map T.leaf) ++ Φ)) := r
    obtain rfl := r1.leaf
    rw [RepG.leaves (ws := ws) (vs := vs) (by simpa using h) r1.dropT]
theorem frzL_leaves (ws : List V) : frzL (ws.map T.leaf) = ws.map T.leaf := by
  rw [frzL_map, List.map_map]
  rfl
theorem RepG.flats {v : V} {o : Bool} {s : Sh} {ws : List V} (h : RepG K B lim σ H g ((v, .node o s (ws.map T.leaf)) :: Φ)) :
    ∃ a, v = .ref a ∧ (Rd H a (s.mk a ws) ∨ Konst K a ws s) := by
  obtain ⟨a, vs, e, hl, hr, r⟩ := h.parts
  rw [frzL_leaves] at r
  rw [RepG.leaves hl r] at hr
  exact ⟨a, e, hr⟩
theorem RepG.kidsH {v : V} {s : Sh} {ts : List T} (hs : s ≠ .tup) (h : RepG K B lim σ H g ((v, .node false s ts) :: Φ)) :
    ∃ a vs, v = .ref a ∧ vs.length = ts.length ∧ H a = some (s.mk a vs) ∧ RepG K B lim σ H g (vs.zip ts ++ (v, .node false s ts) :: Φ) := by
  obtain ⟨F, zs, fp, en, oz, f, hl⟩ := h
  obtain ⟨fp', pf, o'⟩ := oz.perm (List.perm_middle (a := (v, T.node false s ts)))
  obtain ⟨f1, f2, rfl, p1, o2⟩ := OwnZ.uncons (zs := zs ++ Φ) o'
  have f' := f.perm (List.Perm.append_left lim pf)
  have p1' := p1
  have fin : ∀ vs : List V, OwnL K F H vs ts [] → f1 = [] → RepG K B lim σ H g (vs.zip ts ++ (v, .node false s ts) :: Φ) := fun vs hk e => by
    subst e
    have oz2 : OwnZ K F H (vs.zip ts ++ ((v, T.node false s ts) :: (zs ++ Φ))) ([] ++ ([] ++ f2)) := hk.zip.append (.cons p1' o2)
    refine rep_items (ds := []) en oz2 f' hl ?_
    rw [List.nil_append]
    have e1 : (vs.zip ts ++ (v, T.node false s ts) :: (zs ++ Φ)).Perm ((zs ++ ((v, T.node false s ts) :: Φ)) ++ vs.zip ts) :=
      List.perm_append_comm.trans (List.Perm.append_right _ List.perm_middle.symm)
    refine e1.trans ?_
    rw [List.append_assoc]
    exact List.Perm.append_left _ List.perm_append_comm
  cases p1 with
  | fz hf hr hk => exact ⟨_, _, rfl, hk.length, hr, fin _ hk rfl⟩
  | kz hc _ hk => exact absurd rfl hs
  | tk _ _ => exact absurd rfl hs
theorem RepG.subs {zs ys : Its} (e : ys.Sublist zs) (h : RepG K B lim σ H g (zs ++ Φ)) : RepG K B lim σ H g (ys ++ Φ) := by
  induction e generalizing Φ with
  | slnil => exact h
  | cons x _ ih => exact ih (RepG.dropT h)
  | cons_cons x _ ih =>
    rename_i l1 l2 _
    have h1 : RepG K B lim σ H g (l2 ++ x :: Φ) := h.perm List.perm_middle.symm
    exact (ih h1).perm List.perm_middle
end
def cutA {α : Type} (xs : List α) (lo hi : Option Int) : List α := (xs.drop (HT.sIx xs.length 0 lo)).take (HT.sIx xs.length xs.length hi - HT.sIx xs.length 0 lo)
theorem cutA_zip {α β : Type} {xs : List α} {ys : List β} (h : xs.length = ys.length) (lo hi : Option Int) : (cutA xs lo hi).zip (cutA ys lo hi) = cutA (xs.zip ys) lo hi := by
  unfold cutA
  have e : (xs.zip ys).length = xs.length := by rw [List.length_zip]; omega
  rw [e, ← h, List.zip_eq_zipWith, List.zip_eq_zipWith, List.drop_zipWith, List.take_zipWith]
theorem cutA_sub {α : Type} (xs : List α) (lo hi : Option Int) : (cutA xs lo hi).Sublist xs := (List.take_sublist _ _).trans (List.drop_sublist _ _)
theorem cutA_len {α β : Type} {xs : List α} {ys : List β} (h : xs.length = ys.length) (lo hi : Option Int) : (cutA xs lo hi).length = (cutA ys lo hi).length := by
  unfold cutA
  rw [List.length_take, List.length_take, List.length_drop, List.length_drop, h]
abbrev DTO := Ev → (Option Int → Ev → Prop) → XP → Prop
def liftO (K : PySem.W.Frag) (B : Bs) (W : WX) (t : DTO) : TO := fun σ H Q => ∃ (Φ : Its) (lim : List Addr) (g : Ev) (E : XP), RepG K B lim σ H g Φ ∧ liftX K B W σ E ∧ t g (fun o g' => ∀ H', RepG K B lim σ H' g' Φ → Q o H') E
structure DO (X : Cx) (W : WX) (e : Option Expr) (t : DTO) : Prop where
  run : ∀ B, PO X e (liftO X.K B W t)
  mono : ∀ g Q Q' E E', (∀ b g', Q b g' → Q' b g') → (∀ c fs g', E c fs g' → E' c fs g') → t g Q E → t g Q' E'
def xNoP : DTO := fun g Q _ => Q none g
def xPart (te : DTE) : DTO := fun g Q E => te g (fun τ g1 => isI τ fun i => Q (some i) g1) E
theorem PO.imp {X : Cx} {e : Option Expr} {t t' : TO} (h : PO X e t) (i : ∀ σ H Q, t' σ H Q → t σ H Q) : PO X e t' := ⟨fun pins s σ H Q I hw => h.run pins s σ H Q I (i σ H Q hw)⟩
section
variable {X : Cx} {W : WX} {m : Nat → Bool} {a b c e : Expr} {es : List Expr} {ta tb tc te : DTE} {t : DTA} {bs : List (Option Nat)} {pos p p2 : Pos} {x : Str} {lo hi : Option Expr} {tl th : DTO}
theorem do_none : DO X W none xNoP := ⟨fun B => PO.imp po_none fun σ H Q ⟨Φ, lim, g, E, r, hx, q⟩ => q H r, fun g Q Q' E E' hq _ q => hq _ _ q⟩
theorem do_some (h : DE X W e te) : DO X W (some e) (xPart te) := by
  refine ⟨fun B => PO.imp (po_some (h.run B)) fun σ H Q ⟨Φ, lim, g, E, r, hx, q⟩ => ?_, fun g Q Q' E E' hq he q => h.mono _ _ _ _ _ (fun τ g1 q1 => isI_mono (fun i z => hq _ _ z) q1) he q⟩
  refine ⟨Φ, lim, g, E, r, hx, h.mono _ _ _ _ _ (fun τ g1 q1 v H1 r1 => ?_) (fun _ _ _ z => z) q⟩
  obtain ⟨i, rfl, q1⟩ := isI_of q1
  obtain rfl := r1.leaf
  exact ⟨i, rfl, q1 _ r1.dropT⟩
theorem make_cut {B : Bs} {K : PySem.W.Frag} {lim : List Addr} {σ : St} {H : Hp} {g : Ev} {Φ : Its} {us : List V} {ts : List T} {lo hi : Option Int} (s : Sh) (hl : us.length = ts.length) (r : RepG K B lim σ H g (us.zip ts ++ Φ)) {q : Addr} (hq : H q = none) :
    RepG K B lim σ (upd H q (s.mk q (cutV us lo hi))) g ((.ref q, .node true s (cutA ts lo hi)) :: Φ) := by
  have r1 : RepG K B lim σ H g ((cutA us lo hi).zip (cutA ts lo hi) ++ Φ) := by
    rw [cutA_zip hl]
    exact r.subs (cutA_sub _ _ _)
  exact make_of s (cutA_len hl lo hi) r1 hq
theorem leavesR {B : Bs} {K : PySem.W.Frag} {lim : List Addr} {σ : St} {H : Hp} {g : Ev} {Φ : Its} (r : RepG K B lim σ H g Φ) : ∀ vs : List V, RepG K B lim σ H g (vs.zip (vs.map T.leaf) ++ Φ)
  | [] => r
  | v :: vs => (leavesR r vs).addLeaf
def rtCat : R2T := fun τ1 τ2 Q => match τ1, τ2 with
  | .node _ .lst ts, .node _ .lst us => ts.length + us.length ≤ sizeLine ∧ Q (.node true .lst (frzL ts ++ frzL us))
  | .leaf (.int i), .leaf (.int j) => Q (.leaf (.int (i + j)))
  | _, _ => False
theorem rtCat_mono : ∀ τ1 τ2 Q Q', (∀ τ, Q τ → Q' τ) → rtCat τ1 τ2 Q → rtCat τ1 τ2 Q' := by
  intro τ1 τ2 Q Q' hq q
  unfold rtCat at q
  split at q
  · exact ⟨q.1, hq _ q.2⟩
  · exact hq _ q
  · exact q.elim
def rAdd : R2 := fun x y H Q => rCat x y H Q ∨ rI0 (fun i j => .int (i + j)) x y H Q
theorem frz_node (o : Bool) (s : Sh) (ts : List T) : frz (T.node o s ts) = .node false s (frzL ts) := by simp [frz]
theorem zip_app {α β : Type} {l l' : List α} {r r' : List β} (h : l.length = r.length) : (l ++ l').zip (r ++ r') = l.zip r ++ l'.zip r' := List.zip_append h
theorem op2_cat {K : PySem.W.Frag} : Op2 K rAdd rtCat := by
  refine ⟨fun B lim σ H g Φ v1 v2 τ1 τ2 Q r q => ?_, rtCat_mono⟩
  unfold rtCat at q
  split at q
  · rename_i o ts o' us
    have r0 := r.freezeT
    rw [frz_node] at r0
    have r1 := (r0.perm (List.Perm.swap _ _ _)).freezeT
    rw [frz_node] at r1
    obtain ⟨a1, vs1, rfl, hl1, hr1, r2⟩ := r1.kidsH (by nofun)
    have r3 := r2.perm (Ψ := (v2, .node false .lst (frzL us)) :: (vs1.zip (frzL ts) ++ (V.ref a1, T.node false .lst (frzL ts)) :: Φ)) (by
      have e := List.perm_middle (a := (v2, T.node false .lst (frzL us))) (l₁ := vs1.zip (frzL ts) ++ [(V.ref a1, T.node false .lst (frzL ts))]) (l₂ := Φ)
      simpa using e)
    obtain ⟨a2, vs2, rfl, hl2, hr2, r4⟩ := r3.kidsH (by nofun)
    refine .inl ⟨a1, a2, vs1, vs2, rfl, rfl, hr1, hr2, by rw [hl1, hl2, frzL_length, frzL_length]; exact q.1, fun p hp => q.2 _ _ ?_⟩
    have r5 : RepG K B lim σ H g ((vs1 ++ vs2).zip (frzL ts ++ frzL us) ++ Φ) := by
      rw [zip_app hl1]
      have r6 := r4.perm (Ψ := (V.ref a2, T.node false .lst (frzL us)) :: (V.ref a1, T.node false .lst (frzL ts)) :: (vs1.zip (frzL ts) ++ vs2.zip (frzL us) ++ Φ)) (by
        refine (List.perm_middle).trans (List.Perm.cons _ ?_)
        have e1 : (vs2.zip (frzL us) ++ (vs1.zip (frzL ts) ++ (V.ref a1, T.node false .lst (frzL ts)) :: Φ)).Perm ((V.ref a1, T.node false .lst (frzL ts)) :: (vs2.zip (frzL us) ++ (vs1.zip (frzL ts) ++ Φ))) := by
          rw [← List.append_assoc, ← List.append_assoc]
          exact List.perm_middle
        refine e1.trans (List.Perm.cons _ ?_)
        rw [← List.append_assoc]
        exact List.Perm.append_right _ List.perm_append_comm)
      exact r6.dropT.dropT
    have hl : (vs1 ++ vs2).length = (frzL ts ++ frzL us).length := by rw [List.length_append, List.length_append, hl1, hl2]
    exact make_of .lst hl r5 hp
  · obtain rfl := r.leaf
    obtain rfl := r.dropT.leaf
    exact .inr ⟨_, _, rfl, rfl, q _ _ r.dropT.dropT.addLeaf⟩
  · exact q.elim
abbrev intsT (ns : List Int) : List T := ns.map fun i => .leaf (.int i)
theorem intsT_eq (ns : List Int) : intsT ns = (ns.map V.int).map T.leaf := by rw [List.map_map]; rfl
def rnSum : RNT := fun τs Q => match τs with
  | [.node _ .lst ts] => ∃ ns : List Int, ts = intsT ns ∧ Q (.leaf (.int ns.sum))
  | _ => False
theorem n_sum (hc : X.calm = true) : CallN X (.builtin "sum") (rSum X.K) rnSum := by
  refine ⟨cr_sum hc, fun B lim σ H g Φ vs τs Q hl r q => ?_, fun τs Q Q' h q => ?_⟩
  · unfold rnSum at q
    split at q
    · obtain ⟨ns, rfl, q⟩ := q
      match vs, hl with
      | [v], _ =>
        rename_i o _
        have r2 : RepG X.K B lim σ H g ((v, .node o .lst ((ns.map V.int).map T.leaf)) :: Φ) := by
          rw [← intsT_eq]
          exact r
        obtain ⟨a, rfl, hr⟩ := r2.flats
        exact ⟨a, ns, rfl, seqL hr, q _ _ r2.dropT.addLeaf⟩
    · exact q.elim
  · unfold rnSum at q
    split at q
    · obtain ⟨ns, e, q⟩ := q
      exact ⟨ns, e, h _ q⟩
    · exact q.elim
def rnSortedI : RNT := fun τs Q => match τs with
  | [.node _ .lst ts] => ∃ ns : List Int, ts = intsT ns ∧ ∀ ns' : List Int, ns'.Perm ns → ns'.Pairwise (· ≤ ·) → Q (.node true .lst (intsT ns'))
  | _ => False
theorem n_sortedI : CallN X (.builtin "sorted") (rSortedI X.K) rnSortedI := by
  refine ⟨cr_sortedI, fun B lim σ H g Φ vs τs Q hl r q => ?_, fun τs Q Q' h q => ?_⟩
  · unfold rnSortedI at q
    split at q
    · obtain ⟨ns, rfl, q⟩ := q
      match vs, hl with
      | [v], _ =>
        rename_i o _
        have r2 : RepG X.K B lim σ H g ((v, .node o .lst ((ns.map V.int).map T.leaf)) :: Φ) := by
          rw [← intsT_eq]
          exact r
        obtain ⟨a, rfl, hr⟩ := r2.flats
        refine ⟨a, ns, rfl, seqL hr, fun ns' p hp1 hp2 hp => q ns' hp1 hp2 _ _ ?_⟩
        rw [intsT_eq]
        exact make_of .lst (by simp) (leavesR r2.dropT (ns'.map V.int)) hp
    · exact q.elim
  · unfold rnSortedI at q
    split at q
    · obtain ⟨ns, e, q⟩ := q
      exact ⟨ns, e, fun ns' h1 h2 => h _ (q ns' h1 h2)⟩
    · exact q.elim
abbrev DTR := Ev → (Int → Int → Ev → Prop) → XP → Prop
abbrev TRg := St → Hp → (Int → Int → Hp → Prop) → Prop
def liftR (K : PySem.W.Frag) (B : Bs) (W : WX) (t : DTR) : TRg := fun σ H Q => ∃ (Φ : Its) (lim : List Addr) (g : Ev) (E : XP), RepG K B lim σ H g Φ ∧ liftX K B W σ E ∧ t g (fun i j g' => ∀ H', RepG K B lim σ H' g' Φ → Q i j H') E
structure DR (X : Cx) (W : WX) (e : Expr) (t : DTR) : Prop where
  run : ∀ B, PRg X e (liftR X.K B W t)
  mono : ∀ g Q Q' E E', (∀ i j g', Q i j g' → Q' i j g') → (∀ c fs g', E c fs g' → E' c fs g') → t g Q E → t g Q' E'
def xRg1 (ta : DTE) : DTR := fun g Q E => ta g (fun τ g1 => isI τ fun n => Q 0 n g1) E
theorem PRg.imp {X : Cx} {e : Expr} {t t' : TRg} (h : PRg X e t) (i : ∀ σ H Q, t' σ H Q → t σ H Q) : PRg X e t' := fun pins s σ H Q I hw => h pins s σ H Q I (i σ H Q hw)
theorem dr_1 (hg : Gl X "range") (hm : X.mg "range" = none) (ha : DE X W a ta) (na : starEach [a] X.env = (false, eval a X.env) :: starEach [] X.env := by rfl) : DR X W (.Call (.Name "range" p) [a] [] pos) (xRg1 ta) := by
  refine ⟨fun B => PRg.imp (prg_1 hg hm (ha.run B) na) fun σ H Q ⟨Φ, lim, g, E, r, hx, q⟩ => ?_, fun g Q Q' E E' hq he q => ha.mono _ _ _ _ _ (fun τ g1 q1 => isI_mono (fun n z => hq _ _ _ z) q1) he q⟩
  refine ⟨Φ, lim, g, E, r, hx, ha.mono _ _ _ _ _ (fun τ g1 q1 v H1 r1 => ?_) (fun _ _ _ z => z) q⟩
  obtain ⟨i, rfl, q1⟩ := isI_of q1
  obtain rfl := r1.leaf
  exact ⟨i, rfl, q1 _ r1.dropT⟩
def xLstRg (t : DTR) : DTE := fun g Q E => t g (fun a b g1 => RgOk a b ∧ Q (.node true .lst ((rgV a b).map .leaf)) g1) E
theorem d_listRg {t : DTR} (hc : X.calm = true) (hg : Gl X "list") (hm : X.mg "list" = none) (he : DR X W e t) (na : starEach [e] X.env = (false, eval e X.env) :: starEach [] X.env := by rfl) : DE X W (.Call (.Name "list" p) [e] [] pos) (xLstRg t) := by
  refine ⟨fun B => PE.imp (pe_listRg hc hg hm (he.run B) na) fun σ H Q ⟨Φ, lim, g, E, r, hx, q⟩ => ?_, fun g Q Q' E E' hq hE q => he.mono _ _ _ _ _ (fun i j g1 q1 => ⟨q1.1, hq _ _ q1.2⟩) hE q⟩
  refine ⟨Φ, lim, g, E, r, hx, he.mono _ _ _ _ _ (fun i j g1 q1 H1 r1 => ⟨q1.1, fun q hq => q1.2 _ _ ?_⟩) (fun _ _ _ z => z) q⟩
  exact make_of .lst (by simp) (leavesR r1 (rgV i j)) hq
end
end DL
set_option Elab.async false
set_option linter.all false
set_option maxRecDepth 100000
set_option maxHeartbeats 4000000
namespace DL
open PySem L2 PySem.Spec PyProof.Rows
theorem spD_law {K : PySem.W.Frag} {mg : Str → Option Value} {H : Hp} {a : Addr} {ns : List Int} {m : DSp} (hm : MonoD m) (hS : SqL K H a (ns.map V.int)) (h : m [.pin .lst (ns.map V.int)] (fun t _ => t = .leaf (.bl true)) fun _ _ _ => False) :
    spD K mg [false] m [.ref a] H (fun v _ => v = .bl true) fun _ _ _ => False := by
  have fin : ∀ F : Addr → Prop, OwnP K F H (.ref a) (.pin .lst (ns.map V.int)) [] → (∀ b, F b → H b ≠ none) → spD K mg [false] m [.ref a] H (fun v _ => v = .bl true) fun _ _ _ => False := fun F o ht => by
    refine ⟨[.pin .lst (ns.map V.int)], F, [], .cons (fp := []) (fp' := []) o .nil, .nil, (fun _ z => nomatch z), ht, rfl, hm _ (fun t _ => t = .leaf (.bl true)) _ (fun _ _ _ => False) _ (fun t us e v H' aft => ?_) (fun _ _ _ z => z.elim) h⟩
    subst e
    obtain ⟨F', f', hl, o2, _⟩ := aft
    have o3 : OwnZ K F' H' [(v, .leaf (.bl true))] f' := by
      have : (pick [false] [V.ref a]).zip us = [] := by
        show ([] : List V).zip us = []
        rfl
      rw [this] at o2
      exact o2
    obtain ⟨f1, f2, _, p, _⟩ := o3.uncons
    cases p
    rfl
  rcases hS with hr | ⟨o, its, n, h1, h2, h3, h4, h5, h6⟩
  · refine fin (fun b => b = a) (.pinF rfl hr) fun b e => ?_
    subst e
    rcases hr with hr | ⟨o, hr⟩
    · rw [hr]; exact nofun
    · rw [hr]; exact nofun
  · exact fin (fun _ => False) (.pinK ⟨o, its, n, h1, h2, h3, h4, h5, h6⟩) fun _ z => z.elim
theorem law_callG {P : Program} {w : World} {K : PySem.W.Frag} {mg mb : Str → Option Value} {k : Nat} {fa a : Addr} {fd : FuncData} {x : Str} {sp : Sp} {s₁ : Shared} {vs : List Value} {ns : List Int}
    (KX : K.In s₁.heap) (hns : s₁.heap.Ns mainGlobals mg) (hb : s₁.heap.Ns builtinsNs mb) (hbb : ∀ x : Str, x ≠ "__name__" → mb x = bootBuiltins x) (hlim : s₁.heap.NoLimit) (hg : s₁.gens = #[])
    (ha : s₁.heap.get? a = some { cls := .type "list", data := .seq vs.toArray }) (hi : IntsAre vs ns) (hl : ns.length ≤ sizeLine) (hr : Room k callerA)
    (F : ∀ base : Heap, K.In base → base.Ns mainGlobals mg → FnG P w K mg base k fa fd [x] sp) (hbind : ∀ (s : Shared) (u : Value), BindsTo s fd ⟨[u], []⟩ [(x, u)])
    (hsp : ∀ H : Hp, SqL K H a (ns.map V.int) → sp [.ref a] H (fun v _ => v = .bl true) fun _ _ _ => False) :
    codeAny (model P w) callerA (.call (.ref fa) ⟨[.ref a], []⟩) (fun r s' => r = .ok (.ret (.bool true)) ∧ OldK s₁.heap s'.heap ∧ s'.os = s₁.os ∧ AllBare s'.gens) s₁ := by
  have rv := vals_ints hi
  have lenV := hi.length
  have core : ∀ H : Hp, (∀ b, H b = none ∨ ∃ ob xs, H b = some (.frz ob xs)) → SqL K H a (ns.map V.int) → HOk P w H s₁.heap → (∀ b, H b ≠ none → b = a) → (H a ≠ none → K.lookup a = none) →
      codeAny (model P w) callerA (.call (.ref fa) ⟨[.ref a], []⟩) (fun r s' => r = .ok (.ret (.bool true)) ∧ OldK s₁.heap s'.heap ∧ s'.os = s₁.os ∧ AllBare s'.gens) s₁ := by
    intro H hO hS hok hA hK
    have base_of : ∀ {b : Addr} {o : Obj}, s₁.heap.get? b = some o → H b = none → (hidT s₁.heap H).get? b = some o := fun e n => hidT_get e n
    have noA : ∀ {b : Addr} {o : Obj} {es : Array DictEntry} {ep : Nat}, s₁.heap.get? b = some o → o.data = .dict es ep → H b = none := fun {b o es ep} e d => by
      cases q : H b with
      | none => rfl
      | some u =>
        have e' : b = a := hA b (by rw [q]; simp)
        subst e'
        rw [ha] at e; cases e
        have d' : Data.seq vs.toArray _ = Data.dict es ep := d
        cases d'
    have nsK : ∀ {b : Addr} {m : Str → Option Value}, s₁.heap.Ns b m → (hidT s₁.heap H).Ns b m := fun {b m} ⟨o, es, ep, e, d, r⟩ => ⟨o, es, ep, base_of e (noA e d), d, r⟩
    have hKb : K.In (hidT s₁.heap H) := fun b o e => base_of (KX b o e) (by
      cases q : H b with
      | none => rfl
      | some u =>
        have e' : b = a := hA b (by rw [q]; simp)
        subst e'
        rw [hK (by rw [q]; simp)] at e; cases e)
    have hM : Mod K mg (hidT s₁.heap H) := ⟨hKb, nsK hns, ⟨mb, nsK hb, hbb⟩, let ⟨mc, h1, h2⟩ := hlim; ⟨mc, nsK h1, h2⟩⟩
    have e0 : Env0 P w K mg (hidT s₁.heap H) callerA [] s₁ H := ⟨rfl, hM, fun b o e => of_hidT e, Nat.le_of_eq (hidT_size _ _), trivial, fun b hb => absurd (show b ∈ ([] : List Addr) from hb) (by simp), hok, .of_eq hg⟩
    refine codeAny_mono ((F _ hKb (nsK hns)).run callerA [] s₁ H ⟨[.ref a], []⟩ [.ref a] [.ref a] _ _ hr rfl e0 (hbind s₁ (.ref a)) (.cons rfl .nil) (hsp H hS)) fun r s' h => ?_
    cases r with
    | error e =>
      obtain ⟨_, _, _, _, _, _, _, _, _, _, _, _, z⟩ := h
      exact z.elim
    | ok fl =>
      cases fl with
      | next => exact False.elim h
      | brk => exact False.elim h
      | cont => exact False.elim h
      | ret u =>
        obtain ⟨v, H', os, bare, un, hok', r', q⟩ := h
        have q' : v = .bl true := q
        subst q'
        obtain rfl : u = Value.bool true := r'
        refine ⟨rfl, OldK.of_keep fun b o e => ?_, os, bare⟩
        cases q : H b with
        | none => exact un.keep b o e q (by intro z; exact absurd (show b ∈ ([] : List Addr) from z) (by simp)) (by simp)
        | some u =>
          rcases hO b with z | ⟨ob, xs, z⟩
          · rw [q] at z; cases z
          · have z2 := un.frzs b ob _ z
            obtain ⟨e1, _⟩ := hok b _ z
            obtain ⟨e2, _⟩ := hok' b _ z2
            rw [e] at e1; cases e1
            exact e2
  cases hk : K.lookup a with
  | some o =>
    have e := KX a o hk
    rw [ha] at e
    cases e
    refine core (fun _ => none) (fun _ => .inl rfl) (.inr ⟨_, vs.toArray, _, hk, rfl, rfl, rfl, by rw [List.size_toArray, lenV]; exact hl, by simpa using rv⟩) (fun b u z => by have z' : (none : Option HO) = some u := z; cases z') (fun b z => absurd rfl z) fun z => absurd rfl z
  | none =>
    refine core (fun b => if b = a then some (.frz { cls := .type "list", data := .seq vs.toArray } (.lst (ns.map V.int))) else none) (fun b => ?_) (.inl (.inr ⟨{ cls := .type "list", data := .seq vs.toArray }, if_pos rfl⟩)) (fun b u z => ?_) (fun b z => ?_) fun _ => hk
    · by_cases hb : b = a
      · exact .inr ⟨_, _, if_pos hb⟩
      · exact .inl (if_neg hb)
    · by_cases hb : b = a
      · have z' := (if_pos hb).symm.trans z
        cases z'
        subst hb
        exact ⟨ha, by rw [List.length_map]; exact hl, vs, _, rv, ha⟩
      · have z' := (if_neg hb).symm.trans z
        cases z'
    · by_cases hb : b = a
      · exact hb
      · exact absurd (if_neg hb) z
theorem walk_ofG {l : PySem.W.OpenLaw} {n k : Nat} {q : Program} {loose : List Str} {XP : (Str → Option Value) → Heap → Prop} {YP : World → Heap → Prop} {d : DefRec} {K : Params → PySem.W.Frag} {sp : DSp} {x : Str}
    (hn : l.most = some n) (hn2 : n ≤ sizeLine) (hdf : d.params.defaults = []) (hr : Room k callerA)
    (hY : ∀ (w : World) (h : Heap), YP w h → (K w.params).In h) (hm : MonoD sp)
    (F : ∀ (w : World) (mg : Str → Option Value) (fa : Addr) (h : Heap), (K w.params).In h → h.Ns mainGlobals mg → mg d.name = some (.ref fa) →
      ∃ fd : FuncData, (∀ (s : Shared) (u : Value), BindsTo s fd ⟨[u], []⟩ [(x, u)]) ∧
        ∀ base : Heap, (K w.params).In base → base.Ns mainGlobals mg → FnG l.prog w (K w.params) mg base k fa fd [x] (spD (K w.params) mg [false] sp))
    (hsp : ∀ (ns : List Int), ns.length ≤ n → sp [.pin .lst (ns.map V.int)] (fun t _ => t = .leaf (.bl true)) fun _ _ _ => False) :
    PySem.W.WalkO q loose XP YP l.row.toRowW d [] (fun f vs => PySem.call f vs) := by
  refine Att.attach_call hn hdf fun w s₀ s₁ mg mb fa o pm cd doc a vs ns G Y ho hd hcd hmg hobj hints hlen hg => ?_
  have KX := hY w _ Y
  obtain ⟨fd, hb, hF⟩ := F w mg fa _ KX G.T.g hmg
  exact law_callG KX G.T.g G.T.b G.T.builtins G.T.nolimit hg hobj hints (Nat.le_trans hlen hn2) hr hF hb fun H hS => spD_law hm hS (hsp ns hlen)
def spLaw : DSp := fun ts Q _ => ∃ ns : List Int, ts = [.pin .lst (ns.map V.int)] ∧ ns.length ≤ 63 ∧ Q (.leaf (.bl true)) []
theorem spLaw_mono : MonoD spLaw := fun ts Q Q' E E' hq he ⟨ns, e, h, q⟩ => ⟨ns, e, h, hq _ _ q⟩
end DL
set_option Elab.async false
set_option linter.all false
set_option maxRecDepth 100000
set_option maxHeartbeats 4000000
namespace DL
open PySem L2
def isTup : Sh → Bool
  | .tup => true
  | _ => false
theorem isTup_of : ∀ {s : Sh}, isTup s = true → s = .tup := by
  intro s h
  cases s <;> first | rfl | (simp [isTup] at h)
mutual
def pureT : T → Bool
  | .leaf _ => true
  | .pin _ _ => false
  | .node o s k => (o || isTup s) && pureL k
def pureL : List T → Bool
  | [] => true
  | t :: ts => pureT t && pureL ts
end
section
variable {K : PySem.W.Frag} {F F' : Addr → Prop} {H H' : Hp}
mutual
theorem OwnP.anyF : ∀ (t : T) {v : V} {fp : List Addr}, OwnP K F H v t fp → pureT t = true → OwnP K F' H v t fp
  | .leaf _, _, _, h, _ => by
    cases h
    exact .leaf _
  | .pin _ _, _, _, _, e => by simp [pureT] at e
  | .node o s ts, _, _, h, e => by
    simp only [pureT, Bool.and_eq_true, Bool.or_eq_true] at e
    obtain ⟨eo, e⟩ := e
    cases h with
    | own ha hk => exact .own ha (OwnL.anyF ts hk e)
    | tk ha hk => exact .tk ha (OwnL.anyF ts hk e)
    | kz k1 k2 hk => exact .kz k1 k2 (OwnL.anyF ts hk e)
    | fz hf ha hk =>
      rcases eo with z | z
      · cases z
      · obtain rfl := isTup_of z
        exact .tk ha (OwnL.anyF ts hk e)
theorem OwnL.anyF : ∀ (ts : List T) {vs : List V} {fp : List Addr}, OwnL K F H vs ts fp → pureL ts = true → OwnL K F' H vs ts fp
  | [], _, _, h, _ => by
    cases h
    exact .nil
  | t :: ts, _, _, h, e => by
    simp only [pureL, Bool.and_eq_true] at e
    cases h with
    | cons h1 h2 => exact .cons (OwnP.anyF t h1 e.1) (OwnL.anyF ts h2 e.2)
end
def frzE (g : Ev) : Ev := g.map (Option.map frz)
theorem EnvIs.frzE : ∀ {σ : St} {g : Ev} {zs : Its}, EnvIs σ g zs → EnvIs σ (frzE g) (zs.map fun z => (z.1, frz z.2))
  | _, _, _, .nil => .nil
  | _, _, _, .skip h => .skip (EnvIs.frzE h)
  | _, _, _, .have h => .have (EnvIs.frzE h)
theorem OwnZ.frzZ {zs : Its} {fp : List Addr} (hF : ∀ a, F a → F' a) (h : OwnZ K F H zs fp) (hp : ∀ a ∈ fp, F' a) : OwnZ K F' H (zs.map fun z => (z.1, frz z.2)) [] := by
  have := OwnL.freeze hF _ h hp
  rw [frzL_map] at this
  unfold OwnZ
  rw [List.map_map, List.map_map]
  rw [List.map_map] at this
  exact this
end
section
variable {X : Cx} {W : WX} {m : Nat → Bool} {a b c e : Expr} {es : List Expr} {ta tb tc te : DTE} {tA : DTT} {t : DTA} {bs : List (Option Nat)} {pos p : Pos} {x : Str}
def baseB (H : Hp) (F : Addr → Prop) (fp : List Addr) : Bs := ⟨H, fun a => F a ∨ a ∈ fp, []⟩
theorem bor_in {K : PySem.W.Frag} {B : Bs} {lim : List Addr} {σ : St} {H : Hp} {g : Ev} {Φ : Its} (r : RepG K B lim σ H g Φ) : ∃ B', RepG K B' [] σ H (frzE g) [] ∧
    (∀ H1, (∃ g', RepG K B' [] σ H1 g' []) → RepG K B lim σ H1 g Φ) ∧ ∀ v τ H1 g', pureT τ = true → RepG K B' [] σ H1 g' [(v, τ)] → RepG K B lim σ H1 g ((v, τ) :: Φ) := by
  obtain ⟨F, zs, fp, en, o, f, hl⟩ := r
  obtain ⟨f1, f2, rfl, o1, o2⟩ := o.split
  have trk : ∀ a, a ∈ lim ++ (f1 ++ f2) → H a ≠ none := fun a ha => by
    rcases List.mem_append.mp ha with z | z
    · exact hl a z
    · exact o.tracked a z
  have back : ∀ H1 (F1 : Addr → Prop) (fv : List Addr) (Ψ : Its), Fine (baseB H F (lim ++ (f1 ++ f2))) F1 H1 fv → OwnZ K F H1 Ψ fv → RepG K B lim σ H1 g (Ψ ++ Φ) := fun H1 F1 fv Ψ fn oz => by
    have st : ∀ b o, H b = some o → H1 b = some o := fun b o e => fn.keep b o e (fun z => nomatch z)
    have stn : ∀ b, H b ≠ none → H1 b ≠ none := fun b hb => by
      cases q : H b with
      | none => exact absurd q hb
      | some o => rw [st b o q]; exact nofun
    have new : ∀ b ∈ fv, H b = none := fun b hb => by
      rcases fn.newO b hb with z | z
      · cases z
      · exact z
    have oo : OwnZ K F H1 (zs ++ Φ) (f1 ++ f2) := o.mono (fun _ z => z) (fun b _ u e => st b u e) fun b vs e => st b _ e
    have o3 : OwnZ K F H1 (Ψ ++ (zs ++ Φ)) (fv ++ (f1 ++ f2)) := oz.append oo
    have ff : Fine B F H1 (lim ++ (fv ++ (f1 ++ f2))) := by
      refine ⟨?_, fun b z => ?_, fun b z => stn b (f.trk b z), f.inc, fun b o e n => st b o (f.keep b o e n), f.newF, fun b z => ?_, fun b vs e => st b _ (f.keepT b vs e)⟩
      · refine List.nodup_append.mpr ⟨(List.nodup_append.mp f.nd).1, List.nodup_append.mpr ⟨fn.nd, (List.nodup_append.mp f.nd).2.1, fun x hx y hy e => ?_⟩, fun x hx y hy e => ?_⟩
        · subst e
          exact trk x (List.mem_append_right _ hy) (new x hx)
        · subst e
          rcases List.mem_append.mp hy with q | q
          · exact hl x hx (new x q)
          · exact (List.nodup_append.mp f.nd).2.2 x hx x q rfl
      · rcases List.mem_append.mp z with q | q
        · exact f.off b (List.mem_append_left _ q)
        · rcases List.mem_append.mp q with q | q
          · intro zz
            exact f.trk b zz (new b q)
          · exact f.off b (List.mem_append_right _ q)
      · rcases List.mem_append.mp z with q | q
        · exact f.newO b (List.mem_append_left _ q)
        · rcases List.mem_append.mp q with q | q
          · by_cases hb : b ∈ B.fp0
            · exact .inl hb
            · refine .inr ?_
              cases z : B.H0 b with
              | none => rfl
              | some u =>
                have := f.keep b u z hb
                rw [new b q] at this; cases this
          · exact f.newO b (List.mem_append_right _ q)
    refine rep_items (ds := []) en o3 ff (fun b z => stn b (hl b z)) ?_
    rw [List.nil_append, ← List.append_assoc, ← List.append_assoc]
    exact List.Perm.append_right _ List.perm_append_comm
  refine ⟨baseB H F (lim ++ (f1 ++ f2)), ?_, fun H1 ⟨g', r1⟩ => ?_, fun v τ H1 g' hp r1 => ?_⟩
  · refine ⟨fun a => F a ∨ a ∈ lim ++ (f1 ++ f2), zs.map fun z => (z.1, frz z.2), [], en.frzE, ?_, ?_, fun _ z => nomatch z⟩
    · rw [List.append_nil]
      exact o1.frzZ (fun _ z => .inl z) fun a z => .inr (List.mem_append_right _ (List.mem_append_left _ z))
    · exact ⟨.nil, (fun _ z => nomatch z), fun b z => z.elim (f.trk b) (trk b), fun _ z => z, fun _ _ z _ => z, fun _ z => .inl z, (fun _ z => nomatch z), fun _ _ e => e⟩
  · obtain ⟨F1, zs1, fp1, en1, oz1, fn, _⟩ := r1
    exact back H1 F1 [] [] (fn.sub (List.nil_sublist _)) .nil
  · obtain ⟨F1, zs1, fp1, en1, oz1, fn, _⟩ := r1
    obtain ⟨g1, g2, rfl, oa, ob⟩ := oz1.split
    obtain ⟨h1, h2, e, pv, pn⟩ := ob.uncons
    have e2 : h2 = [] := by cases pn; rfl
    subst e e2
    exact back H1 F1 (h1 ++ []) [(v, τ)] (fn.sub (by rw [List.nil_append]; exact List.sublist_append_right _ _)) (.cons (pv.anyF τ hp) .nil)
def xBor (te : DTE) : DTE := fun g Q _ => te (frzE g) (fun τ _ => pureT τ = true ∧ Q τ g) noX
def xBorT (tA : DTT) : DTT := fun g Q _ => tA (frzE g) (fun b _ => Q b g) noX
theorem d_bor (h : DE X W e te) : DE X W e (xBor te) := by
  refine ⟨fun B => ⟨fun pins s σ H Q I ⟨Φ, lim, g, E, r, hx, q⟩ => ?_⟩, fun g Q Q' E E' hq _ q => h.mono _ _ _ _ _ (fun τ g1 q1 => ⟨q1.1, hq _ _ q1.2⟩) (fun _ _ _ z => z) q⟩
  obtain ⟨B', r1, _, k⟩ := bor_in r
  refine (h.run B').run pins s σ H Q I ⟨[], [], _, noX, r1, liftX0, h.mono _ _ _ _ _ (fun τ g1 q1 v H1 r2 => ?_) (fun _ _ _ z => z) q⟩
  exact q1.2 v H1 (k v τ H1 g1 q1.1 r2)
theorem dt_bor (h : DT X W e tA) : DT X W e (xBorT tA) := by
  refine ⟨fun B => ⟨fun pins s σ H Q I ⟨Φ, lim, g, E, r, hx, q⟩ => ?_⟩, fun g Q Q' E E' hq _ q => h.mono _ _ _ _ _ (fun τ g1 q1 => hq _ _ q1) (fun _ _ _ z => z) q⟩
  obtain ⟨B', r1, k, _⟩ := bor_in r
  refine (h.run B').run pins s σ H Q I ⟨[], [], _, noX, r1, liftX0, h.mono _ _ _ _ _ (fun b g1 q1 H1 r2 => ?_) (fun _ _ _ z => z) q⟩
  exact q1 H1 (k H1 ⟨g1, r2⟩)
def xUn (f : Int → V) (ta : DTE) : DTE := fun g Q E => ta g (fun τ g1 => isI τ fun i => Q (.leaf (f i)) g1) E
theorem d_un {op : UnaryOp} {f : Int → V} (ho : UnR X (unaryOp op) (rU f)) (ha : DE X W a ta) : DE X W (.UnaryOp op a pos) (xUn f ta) := by
  refine ⟨fun B => PE.imp (pe_un ho (ha.run B)) fun σ H Q ⟨Φ, lim, g, E, r, hx, q⟩ => ?_, fun g Q Q' E E' hq he q => ha.mono _ _ _ _ _ (fun τ g1 q1 => isI_mono (fun i z => hq _ _ z) q1) he q⟩
  refine ⟨Φ, lim, g, E, r, hx, ha.mono _ _ _ _ _ (fun τ g1 q1 v H1 r1 => ?_) (fun _ _ _ z => z) q⟩
  obtain ⟨i, rfl, q1⟩ := isI_of q1
  obtain rfl := r1.leaf
  exact ⟨i, rfl, q1 _ _ r1.dropT.addLeaf⟩
end
end DL
set_option Elab.async false
set_option linter.all false
set_option maxRecDepth 100000
set_option maxHeartbeats 4000000
namespace DL
open PySem L2 PySem.Spec PyProof.Rows
def frzP : List Bool → List T → List T
  | true :: bs, t :: ts => t :: frzP bs ts
  | false :: bs, t :: ts => frz t :: frzP bs ts
  | _, ts => ts
theorem frzP_length : ∀ (fl : List Bool) (ts : List T), (frzP fl ts).length = ts.length
  | true :: bs, t :: ts => by simp [frzP, frzP_length bs ts]
  | false :: bs, t :: ts => by simp [frzP, frzP_length bs ts]
  | [], ts => by simp [frzP]
  | _ :: _, [] => by simp [frzP]
section
variable {K : PySem.W.Frag} {B : Bs} {lim : List Addr} {σ : L2.St} {H : Hp} {Φ : Its}
theorem RepG.frzP : ∀ {fl : List Bool} {ts : List T} {pre rest : Ev}, RepG K B lim σ H (pre ++ (ts.map some ++ rest)) Φ → RepG K B lim σ H (pre ++ ((frzP fl ts).map some ++ rest)) Φ
  | true :: bs, t :: ts, pre, rest, h => by
    have h1 : RepG K B lim σ H ((pre ++ [some t]) ++ (ts.map some ++ rest)) Φ := by
      rw [List.append_assoc]
      exact h
    have h2 := RepG.frzP (fl := bs) h1
    rw [List.append_assoc] at h2
    exact h2
  | false :: bs, t :: ts, pre, rest, h => by
    have e : (pre ++ ((t :: ts).map some ++ rest))[pre.length]? = some (some t) := by simp
    have h0 := h.freeze e
    have e2 : (pre ++ ((t :: ts).map some ++ rest)).set pre.length (some (frz t)) = (pre ++ [some (frz t)]) ++ (ts.map some ++ rest) := by simp
    rw [e2] at h0
    have h2 := RepG.frzP (fl := bs) h0
    rw [List.append_assoc] at h2
    exact h2
  | [], ts, pre, rest, h => h
  | true :: _, [], pre, rest, h => h
  | false :: _, [], pre, rest, h => h
end
section
variable {P : Program} {w : World} {K : PySem.W.Frag} {mg : Str → Option Value} {base : Heap}
theorem fnD_of2 {x qual : Str} {st : Stmt} {f : Addr} {fd : FuncData} {N ps : List Str} {k : Nat} {sp : DSp} {fl : List Bool} (F : Fun K x qual st f fd) (S : FnScope N ps (defScope st)) (hfl : fl.length = ps.length)
    (hbody : ∀ (cdv : Value) (A : Around) (outer : List Env) (s : Shared) (H : Hp) (E : XK), Room k (A.deeper (PyProof.Rows.envOfC qual (defScope st) s.heap.objs.size f cdv)) → (A.deeper (PyProof.Rows.envOfC qual (defScope st) s.heap.objs.size f cdv)).guards = some [] →
      ∃ t, DSs (cxOf (L2.CX P w) P w K mg base N qual (defScope st) f cdv A outer s H E) (fun x d _ H => ∀ cv, sym mg x cv → E cv d H) (mutOf fl) (defBody st) t ∧
        ∀ ts Q' E', ts.length = ps.length → sp ts Q' E' → t (bodyEnds fl Q' E') (startE N.length (frzP fl ts))) :
    FnG P w K mg base (k + 1) f fd ps (spD K mg fl sp) := by
  refine fnD_of F S hfl fun cdv A outer s H E hr hgd => ?_
  obtain ⟨t, ht, hb⟩ := hbody cdv A outer s H E hr hgd
  refine ⟨fun D g => ∃ ts, g = startE N.length ts ∧ t D (startE N.length (frzP fl ts)), ⟨fun B σ0 => ⟨fun pins s σ H D I ⟨Φ, lim, g, E, r, hk, hx, ts, e, q⟩ => ?_⟩, fun D D' g h ⟨ts, e, q⟩ => ⟨ts, e, ht.mono _ _ _ h q⟩⟩, fun ts Q' E' hl h => ⟨ts, rfl, hb ts Q' E' hl h⟩⟩
  refine (ht.run B σ0).run pins s σ H D I ⟨Φ, lim, _, E, ?_, hk, hx, q⟩
  subst e
  have := RepG.frzP (fl := fl) (pre := []) r
  unfold startE
  rw [frzP_length]
  exact this
end
def aLend (j : Nat) (t : DTA) : DTA := fun g Q E => atSlot j g fun _ => t g (fun τs g2 => atSlot j g2 fun τ => Q (τ :: τs) (g2.set j none)) E
theorem da_late {X : Cx} {W : WX} {e : Expr} {es : List Expr} (j : Nat) {bs : List (Option Nat)} {t : DTA} (h : PE X e (tVar j)) (hr : DA X W es bs t) (hs : starEach (e :: es) X.env = (false, eval e X.env) :: starEach es X.env := by rfl) : DA X W (e :: es) (some j :: bs) (aLend j t) := by
  refine ⟨fun B => PA.imp (pa_cons h (hr.run B) hs) fun σ H Q ⟨Φ, lim, g, E, r, hx, q⟩ => ?_, fun g Q Q' E E' hq he q => atSlot_mono (fun τ z => hr.mono _ _ _ _ _ (fun τs g2 q2 => atSlot_mono (fun τ z => hq _ _ z) q2) he z) q⟩
  obtain ⟨τ0, h0, q⟩ := atSlot_of q
  obtain ⟨v, hv⟩ := r.slot h0
  refine ⟨v, hv, Φ, lim, g, E, r, hx, hr.mono _ _ _ _ _ (fun τs g2 q2 vs H2 hl hb r2 => ?_) (fun _ _ _ z => z) q⟩
  obtain ⟨τ, h2, q2⟩ := atSlot_of q2
  obtain ⟨v', hv', r'⟩ := r2.move h2
  rw [hv] at hv'
  cases hv'
  exact q2 (v :: vs) H2 (by simp [hl]) ⟨hv, hb⟩ r'
abbrev oSub : R2T := rtI0 fun i j => .int (i - j)
def CMulA (i j : Int) : Prop := CMul i j ∨ CMulW i j
abbrev oDiv : R2T := rtI CDivW fun i j => .int (i / j)
abbrev oMod : R2T := rtI (fun _ j => 0 < j) fun i j => .int (i % j)
abbrev oPow : R2T := rtI CPow fun i j => .int (i ^ j.toNat)
abbrev oLt : R2T := rtI0 fun i j => .bl (decide (i < j))
abbrev oLe : R2T := rtI0 fun i j => .bl (decide (i ≤ j))
abbrev oGt : R2T := rtI0 fun i j => .bl (decide (j < i))
abbrev oGe : R2T := rtI0 fun i j => .bl (decide (j ≤ i))
section
variable {X : Cx} {W : WX} {m : Nat → Bool} {a b c e : Expr} {es : List Expr} {ta tb tc te : DTE} {tA : DTT} {t : DTA} {bs : List (Option Nat)} {pos p : Pos} {x : Str}
theorem op_mulA : OpR X (binaryOp .Mult) (rI CMulA fun i j => .int (i * j)) := opI fun _ _ _ _ _ _ _ hc q => mul_int q (hc.elim CMul.ok CMulW.ok)
theorem d_sub (ha : DE X W a ta) (hb : DE X W b tb) : DE X W (.BinOp a .Sub b pos) (xOp oSub ta tb) := d_op2 op_sub op2_I0 ha hb
theorem d_div (ha : DE X W a ta) (hb : DE X W b tb) : DE X W (.BinOp a .FloorDiv b pos) (xOp oDiv ta tb) := d_op2 op_fdivW (op2_I fun _ _ z => z) ha hb
theorem d_mod (ha : DE X W a ta) (hb : DE X W b tb) : DE X W (.BinOp a .Mod b pos) (xOp oMod ta tb) := d_op2 op_mod (op2_I fun _ _ z => z) ha hb
theorem d_pow (ha : DE X W a ta) (hb : DE X W b tb) : DE X W (.BinOp a .Pow b pos) (xOp oPow ta tb) := d_op2 op_pow (op2_I fun _ _ z => z) ha hb
theorem d_lt (ha : DE X W a ta) (hb : DE X W b tb) : DE X W (.Compare a [.Lt] [b] pos) (xOp oLt ta tb) := d_cmp op_lt op2_I0 ha hb (nomark _)
theorem d_ge (ha : DE X W a ta) (hb : DE X W b tb) : DE X W (.Compare a [.GtE] [b] pos) (xOp oGe ta tb) := d_cmp op_ge op2_I0 ha hb (nomark _)
theorem d_eq (hu : X.A.units + 64 < cLine) (ha : DE X W a ta) (hb : DE X W b tb) : DE X W (.Compare a [.Eq] [b] pos) (xOp (rtEq false) ta tb) := d_cmp (op_eqA hu) op2_eq ha hb (nomark _)
theorem d_ne (hu : X.A.units + 64 < cLine) (ha : DE X W a ta) (hb : DE X W b tb) : DE X W (.Compare a [.NotEq] [b] pos) (xOp (rtEq true) ta tb) := d_cmp (op_neA hu) op2_ne ha hb (nomark _)
theorem dt_lt (ha : DE X W a ta) (hb : DE X W b tb) : DT X W (.Compare a [.Lt] [b] pos) (xB (xOp oLt ta tb)) := dt_cmp op_lt op2_I0 ha hb (nomark _)
theorem dt_gt (ha : DE X W a ta) (hb : DE X W b tb) : DT X W (.Compare a [.Gt] [b] pos) (xB (xOp oGt ta tb)) := dt_cmp op_gt op2_I0 ha hb (nomark _)
theorem dt_ge (ha : DE X W a ta) (hb : DE X W b tb) : DT X W (.Compare a [.GtE] [b] pos) (xB (xOp oGe ta tb)) := dt_cmp op_ge op2_I0 ha hb (nomark _)
theorem dt_eq (hu : X.A.units + 64 < cLine) (ha : DE X W a ta) (hb : DE X W b tb) : DT X W (.Compare a [.Eq] [b] pos) (xB (xOp (rtEq false) ta tb)) := dt_cmp (op_eqA hu) op2_eq ha hb (nomark _)
theorem dt_ne (hu : X.A.units + 64 < cLine) (ha : DE X W a ta) (hb : DE X W b tb) : DT X W (.Compare a [.NotEq] [b] pos) (xB (xOp (rtEq true) ta tb)) := dt_cmp (op_neA hu) op2_ne ha hb (nomark _)
theorem d_neg (ha : DE X W a ta) : DE X W (.UnaryOp .USub a pos) (xUn (fun i => .int (-i)) ta) := d_un un_neg ha
end
theorem takes0 {X : Cx} : Takes X (upW X.mg W0) := by
  intro u s' x
  obtain ⟨_, _, _, _, _, _, _, _, _, _, _, _, _, _, _, _, _, _, z⟩ := x
  exact z.elim
theorem takesN {X : Cx} {E : XK} (h : Takes X (fun cls d _ H => E cls d H)) : Takes X (upW X.mg (fun x d _ H => ∀ cv, sym X.mg x cv → E cv d H)) := h.imp fun c _ _ _ ⟨_, hs, w⟩ => w c hs
mutual
def smallD : PyData → Prop
  | .none => True
  | .bool _ => True
  | .int i => i.natAbs < 2 ^ 1800
  | .str x => PyData.canLay0 (.str x) = true ∧ (∀ c ∈ x.cps.toList, c < 16 ^ 8)
  | .list xs => smallL xs
  | .tuple xs => smallL xs
  | .dict _ => False
def smallL : List PyData → Prop
  | [] => True
  | x :: xs => smallD x ∧ smallL xs
end
mutual
def szD : PyData → Nat
  | .none => 1
  | .bool _ => 1
  | .int _ => 1
  | .str x => x.length + 1
  | .list xs => szL xs + 1
  | .tuple xs => szL xs + 1
  | .dict _ => 1
def szL : List PyData → Nat
  | [] => 0
  | x :: xs => szD x + szL xs
end
mutual
theorem small_canLay : ∀ d : PyData, smallD d → d.canLay0 = true
  | .none, _ => by simp [PyData.canLay0]
  | .bool _, _ => by simp [PyData.canLay0]
  | .int _, _ => by simp [PyData.canLay0]
  | .str x, h => by
    simp only [smallD] at h
    exact h.1
  | .list xs, h => by
    simp only [smallD] at h
    simp only [PyData.canLay0]
    exact small_canLayL xs h
  | .tuple xs, h => by
    simp only [smallD] at h
    simp only [PyData.canLay0]
    exact small_canLayL xs h
  | .dict _, h => by simp only [smallD] at h
theorem small_canLayL : ∀ xs : List PyData, smallL xs → PyData.canLayAll0 xs = true
  | [], _ => by simp [PyData.canLayAll0]
  | x :: xs, h => by
    simp only [smallL] at h
    simp only [PyData.canLayAll0, Bool.and_eq_true]
    exact ⟨small_canLay x h.1, small_canLayL xs h.2⟩
end
theorem log2_small {n : Nat} (h : n < 2 ^ 1800) : n.log2 < 1800 := PySem.Flt.log2_lt_of (by decide) h
mutual
theorem small_show : ∀ d : PyData, smallD d → d.showable = true
  | .none, _ => by simp [PyData.showable]
  | .bool _, _ => by simp [PyData.showable]
  | .int i, h => by
    simp only [smallD] at h
    simp only [PyData.showable, decide_eq_true_eq]
    exact Nat.lt_trans (log2_small h) (by decide)
  | .str x, h => by simp [PyData.showable]
  | .list xs, h => by
    simp only [smallD] at h
    simp only [PyData.showable]
    exact small_showL xs h
  | .tuple xs, h => by
    simp only [smallD] at h
    simp only [PyData.showable]
    exact small_showL xs h
  | .dict _, h => by simp only [smallD] at h
theorem small_showL : ∀ xs : List PyData, smallL xs → PyData.showableAll xs = true
  | [], _ => by simp [PyData.showableAll]
  | x :: xs, h => by
    simp only [smallL] at h
    simp only [PyData.showableAll, Bool.and_eq_true]
    exact ⟨small_show x h.1, small_showL xs h.2⟩
end
theorem szL_len : ∀ xs : List PyData, (PyData.shownAll xs).length = xs.length
  | [] => by simp [PyData.shownAll]
  | x :: xs => by simp [PyData.shownAll, szL_len xs]
mutual
theorem small_len : ∀ d : PyData, smallD d → d.shown.length + 2 ≤ 2000 * szD d
  | .none, _ => by
    have e : (PyData.shown .none).length = 4 := by simp only [PyData.shown]; rfl
    simp only [szD]
    omega
  | .bool b, _ => by
    have e : (PyData.shown (.bool b)).length ≤ 5 := by
      simp only [PyData.shown]
      cases b <;> decide
    simp only [szD]
    omega
  | .int i, h => by
    simp only [smallD] at h
    have e : (PyData.shown (.int i)).length ≤ 1801 := by
      simp only [PyData.shown]
      have := int_text_length_le (a := i) (k := 1800) (by decide) (log2_small h)
      exact Nat.le_trans (Nat.le_of_eq (PySem.ofString_length _)) this
    simp only [szD]
    omega
  | .str x, h => by
    simp only [smallD] at h
    have e := StrLaws.reprText_len x h.2
    simp only [PyData.shown, szD]
    omega
  | .list xs, h => by
    simp only [smallD] at h
    have h1 := small_lenL xs h
    have h2 := listText_len_le (PyData.shownAll xs)
    have h3 := szL_len xs
    simp only [PyData.shown, szD]
    omega
  | .tuple xs, h => by
    simp only [smallD] at h
    have h1 := small_lenL xs h
    have h2 := tupleText_len_le (PyData.shownAll xs)
    have h3 := szL_len xs
    simp only [PyData.shown, szD]
    omega
  | .dict _, h => by simp only [smallD] at h
theorem small_lenL : ∀ xs : List PyData, smallL xs → ((PyData.shownAll xs).map (·.length)).sum + 2 * xs.length ≤ 2000 * szL xs
  | [], _ => by simp [PyData.shownAll, szL]
  | x :: xs, h => by
    simp only [smallL] at h
    have h1 := small_len x h.1
    have h2 := small_lenL xs h.2
    simp only [PyData.shownAll, List.map_cons, List.sum_cons, List.length_cons, szL]
    omega
end
structure GoodD (d : PyData) : Prop where
  sm : smallD d
  dp : d.depth ≤ 60
  sz : szD d ≤ 8000
theorem GoodD.shaped {d : PyData} (h : GoodD d) : SeqAt.shaped d = true := by
  unfold SeqAt.shaped
  rw [Bool.and_eq_true, decide_eq_true_eq]
  exact ⟨small_canLay d h.sm, Nat.le_trans h.dp (by decide)⟩
theorem GoodD.show {d : PyData} (h : GoodD d) : d.showable = true := small_show d h.sm
theorem GoodD.nodict {d : PyData} (h : GoodD d) : d.hasDict = false := PyData.hasDict_of_canLay d (small_canLay d h.sm)
theorem GoodD.len {d : PyData} (h : GoodD d) : d.shown.length ≤ sizeLine := by
  have h1 := small_len d h.sm
  have h2 := h.sz
  show _ ≤ 2 ^ 24
  omega
theorem GoodD.refl {d : PyData} (h : GoodD d) : PyData.eqv d d = true := SeqAt.eqv_refl d (small_canLay d h.sm)
end DL
set_option Elab.async false
set_option linter.all false
set_option maxRecDepth 100000
set_option maxHeartbeats 4000000
namespace DL
open PySem L2
theorem intsT_frz (ns : List Int) : frzL (intsT ns) = intsT ns := by
  rw [frzL_map, List.map_map]
  rfl
theorem frz_ints (s : Sh) (ns : List Int) : frz (.node false s (intsT ns)) = .node false s (intsT ns) := by
  rw [frz_node, intsT_frz]
theorem rtEq_same {a b : T} {d : PyData} {Q : T → Prop} (ha : toP a = some d) (hb : toP b = some d) (h : GoodD d) (q : Q (.leaf (.bl true))) : rtEq false a b Q := by
  unfold rtEq
  split
  · rename_i i j
    simp only [toP, Option.some.injEq] at ha hb
    have : i = j := by
      rw [← ha] at hb
      cases hb
      rfl
    simpa [this] using q
  · rename_i i j
    simp only [toP, Option.some.injEq] at ha hb
    have : i = j := by
      rw [← ha] at hb
      cases hb
      rfl
    simpa [this] using q
  · rename_i i j
    simp only [toP, Option.some.injEq] at ha hb
    have : i = j := by
      rw [← ha] at hb
      cases hb
      rfl
    simpa [this] using q
  · exact ⟨d, d, ha, hb, h.shaped, h.shaped, by simpa [h.refl] using q⟩
mutual
theorem toP_frz : ∀ t : T, toP (frz t) = toP t
  | .leaf _ => by simp [frz]
  | .pin _ _ => by simp [frz]
  | .node o s k => by
    cases s <;> simp [frz, toP, toPL_frz k]
theorem toPL_frz : ∀ ts : List T, toPL (frzL ts) = toPL ts
  | [] => by simp [frzL]
  | t :: ts => by simp [frzL, toPL, toP_frz t, toPL_frz ts]
end
theorem toPL_ints : ∀ ns : List Int, toPL (intsT ns) = some (ns.map PyData.int)
  | [] => by simp [toPL]
  | n :: ns => by
    have := toPL_ints ns
    simp only [intsT, List.map_cons, toPL, toP] at this ⊢
    rw [this]
    rfl
theorem smallL_ints : ∀ {ns : List Int}, (∀ n ∈ ns, n.natAbs < 2 ^ 1800) → smallL (ns.map PyData.int)
  | [], _ => by simp [smallL]
  | n :: ns, h => by
    simp only [List.map_cons, smallL, smallD]
    exact ⟨h n List.mem_cons_self, smallL_ints fun m hm => h m (List.mem_cons_of_mem _ hm)⟩
theorem szL_ints : ∀ ns : List Int, szL (ns.map PyData.int) = ns.length
  | [] => by simp [szL]
  | n :: ns => by
    simp only [List.map_cons, szL, szD, List.length_cons, szL_ints ns]
    omega
theorem depthAll_ints : ∀ ns : List Int, PyData.depthAll (ns.map PyData.int) = 0
  | [] => by simp [PyData.depthAll]
  | n :: ns => by simp [PyData.depthAll, PyData.depth, depthAll_ints ns]
theorem small_of_abs {i : Int} (h : i.natAbs < 2 ^ 200) : i.natAbs < 2 ^ 1800 := Nat.lt_of_lt_of_le h (Nat.pow_le_pow_right (by decide) (by decide))
theorem good_ints {ns : List Int} (h : ∀ n ∈ ns, n.natAbs < 2 ^ 1800) (hl : ns.length ≤ 7000) : GoodD (.list (ns.map .int)) := ⟨by simpa [smallD] using smallL_ints h, by simp [PyData.depth, depthAll_ints], by simp [szD, szL_ints]; omega⟩
theorem ixN_nat (n k : Nat) : ixN n (k : Int) = if k < n then some k else none := by
  unfold ixN
  rw [if_pos (by omega), Int.toNat_natCast]
  by_cases h : k < n
  · rw [if_pos h, if_pos (by omega)]
  · rw [if_neg h, if_neg (by omega)]
theorem cutA_length_le {α : Type} (xs : List α) (lo hi : Option Int) : (cutA xs lo hi).length ≤ xs.length := (cutA_sub xs lo hi).length_le
end DL
set_option Elab.async false
set_option linter.all false
set_option maxRecDepth 100000
set_option maxHeartbeats 4000000
namespace DL
open PySem PySem.Spec PyProof.Rows
open Sem (wp)
open L2
def repS (z : Str) (n : Int) : Str := ⟨(List.replicate n.toNat z.cps.toList).flatten.toArray⟩
def rRepS : R2 := fun x y H Q => ∃ z n, x = .str z ∧ y = .int n ∧ -(2 ^ 62) ≤ n ∧ n < 2 ^ 62 ∧ z.length * n.toNat ≤ sizeLine ∧ Q (.str (repS z n)) H
theorem foldl_app (l : List (Array Nat)) : ∀ acc : Array Nat, (l.foldl (· ++ ·) acc).toList = acc.toList ++ (l.map Array.toList).flatten := by
  induction l with
  | nil => intro acc; simp
  | cons a l ih =>
    intro acc
    rw [List.foldl_cons, ih]
    simp
theorem op_repS {X : Cx} : OpR X (binaryOp .Mult) rRepS := by
  intro pins s σ H x y v u Q I rx ry h
  obtain ⟨z, n, rfl, rfl, h1, h2, hz, q⟩ := h
  obtain ⟨t, rfl⟩ := rx
  obtain ⟨t', rfl⟩ := ry
  have e1 : ∀ h : n < 1, repS z n = Str.empty := fun h => by
    unfold repS
    rw [show n.toNat = 0 by omega]
    rfl
  have e3 : (⟨(List.replicate n.toNat z.cps).foldl (· ++ ·) #[]⟩ : Str) = repS z n := by
    unfold repS
    congr 1
    apply Array.toList_inj.mp
    rw [foldl_app]
    simp
  have e2 : (n == 1 || z.length == 0) = true → ¬ n < 1 → z = repS z n := fun h hn => by
    have : z.cps = (List.replicate n.toNat z.cps.toList).flatten.toArray := by
      rw [Bool.or_eq_true] at h
      rcases h with h | h
      · have : n = 1 := by simpa using h
        subst this
        simp
      · have h0 : z.cps.size = 0 := by
          have : z.length = 0 := by simpa using h
          exact this
        have : z.cps = #[] := Array.eq_empty_of_size_eq_zero h0
        rw [this]
        simp
    unfold repS
    rw [← this]
  have e4 : (⟨(List.replicate n.toNat z.cps).foldl (· ++ ·) #[]⟩ : Str).cps.size ≤ sizeLine := by
    rw [e3]
    unfold repS
    have : (List.replicate n.toNat z.cps.toList).flatten.toArray.size = z.length * n.toNat := by
      rw [List.size_toArray, List.length_flatten, List.map_replicate, List.sum_replicate_nat, Nat.mul_comm]
      rfl
    show (List.replicate n.toNat z.cps.toList).flatten.toArray.size ≤ _
    rw [this]
    exact hz
  refine PySem.P.mul_str (by
      have a1 : ¬ n < -(2 ^ 63 : Int) := by omega
      have a2 : ¬ n ≥ 2 ^ 63 := by omega
      rw [decide_eq_false a1, decide_eq_false a2]; rfl) (fun hn hb => ?_) (fun hn hb => ?_) ?_
  · have hm : ((z.length : Nat) : Int) * n ≤ 2 ^ 63 - 1 := by
      have e : ((z.length * n.toNat : Nat) : Int) = (z.length : Int) * n := by
        rw [Int.natCast_mul, Int.toNat_of_nonneg (by omega)]
      rw [← e]
      have : z.length * n.toNat ≤ 2 ^ 24 := hz
      omega
    have := Int.le_ediv_of_mul_le (by omega : 0 < n) hm
    omega
  · unfold Builtin.Str.tooLong
    exact decide_eq_false (by omega)
  · by_cases hn : n < 1
    · rw [if_pos hn]
      refine ⟨by decide, ?_⟩
      exact ⟨.str (repS z n), H, I.tok _, ⟨_, by rw [e1 hn]⟩, q⟩
    · rw [if_neg hn]
      by_cases hb : (n == 1 || z.length == 0) = true
      · rw [if_pos hb]
        refine ⟨.str (repS z n), H, I, ⟨_, by rw [← e2 hb hn]⟩, q⟩
      · rw [if_neg hb]
        refine ⟨e4, ?_⟩
        exact ⟨.str (repS z n), H, I.tok _, ⟨_, by rw [e3]⟩, q⟩
end DL
set_option Elab.async false
set_option linter.all false
set_option maxRecDepth 100000
set_option maxHeartbeats 4000000
namespace DL
open PySem L2
section
variable {K : PySem.W.Frag} {B : Bs} {lim : List Addr} {σ : St} {H : Hp} {g : Ev} {Φ : Its}
theorem make_pair {x y : V} {t u : T} (r : RepG K B lim σ H g ((x, t) :: (y, u) :: Φ)) {p : Addr} (hp : H p = none) : RepG K B lim σ (upd H p (.tup [x, y])) g ((.ref p, .node true .tup [t, u]) :: Φ) :=
  RepG.make (s := .tup) (zs := [(x, t), (y, u)]) r hp
end
section
variable {X : Cx} {W : WX} {m : Nat → Bool} {tg e a b c : Expr} {es : List Expr} {te ta tb tc : DTE} {t : DTA} {bs : List (Option Nat)} {pos p tpos : Pos}
def isBl (τ : T) (P : Bool → Prop) : Prop := match τ with
  | .leaf (.bl b) => P b
  | _ => False
theorem isBl_mono {τ : T} {P P' : Bool → Prop} (h : ∀ b, P b → P' b) (q : isBl τ P) : isBl τ P' := by
  unfold isBl at q ⊢
  split at q
  · exact h _ q
  · exact q.elim
theorem isBl_of {τ : T} {P : Bool → Prop} (q : isBl τ P) : ∃ b, τ = .leaf (.bl b) ∧ P b := by
  unfold isBl at q
  split at q
  · exact ⟨_, rfl, q⟩
  · exact q.elim
theorem ifB_mono {c : Bool} {a a' b b' : Prop} (h1 : a → a') (h2 : b → b') (q : ifB c a b) : ifB c a' b' := by
  cases c with
  | true => exact h1 q
  | false => exact h2 q
def xChain (r1 r2 : R2T) (ta tb tc : DTE) : DTE := fun g Q E => ta g (fun τ1 g1 => tb g1 (fun τ2 g2 => r1 τ1 (frz τ2) fun τ => isBl τ fun k => ifB k (tc g2 (fun τ3 g3 => r2 (frz τ2) τ3 fun τ' => Q τ' g3) E) (Q (.leaf (.bl false)) g2)) E) E
theorem xChain_mono {r1 r2 : R2T} (h1 : ∀ τ1 τ2 Q Q', (∀ τ, Q τ → Q' τ) → r1 τ1 τ2 Q → r1 τ1 τ2 Q') (h2 : ∀ τ1 τ2 Q Q', (∀ τ, Q τ → Q' τ) → r2 τ1 τ2 Q → r2 τ1 τ2 Q') (ha : DE X W a ta) (hb : DE X W b tb) (hc : DE X W c tc) :
    ∀ g Q Q' E E', (∀ τ g', Q τ g' → Q' τ g') → (∀ c fs g', E c fs g' → E' c fs g') → xChain r1 r2 ta tb tc g Q E → xChain r1 r2 ta tb tc g Q' E' := fun g Q Q' E E' hq he q =>
  ha.mono _ _ _ _ _ (fun τ1 g1 q1 => hb.mono _ _ _ _ _ (fun τ2 g2 q2 => h1 _ _ _ _ (fun τ q3 => isBl_mono (fun k q4 => ifB_mono (fun q5 => hc.mono _ _ _ _ _ (fun τ3 g3 q6 => h2 _ _ _ _ (fun τ' z => hq _ _ z) q6) he q5) (fun z => hq _ _ z) q4) q3) q2) he q1) he q
theorem chain_reads {op op' : CmpOp} {rr rr' : R2} {r1 r2 : R2T} (hr1 : Op2 X.K rr r1) (hr2 : Op2 X.K rr' r2) (ha : DE X W a ta) (hb : DE X W b tb) (hc : DE X W c tc) {B : Bs} {σ : St} {H : Hp} {Q : VK} (h : liftE X.K B W (xChain r1 r2 ta tb tc) σ H Q) :
    tChain rr rr' (liftE X.K B W ta) (liftE X.K B W tb) (liftE X.K B W tc) σ H Q := by
  obtain ⟨Φ, lim, g, E, r, hx, q⟩ := h
  refine ⟨Φ, lim, g, E, r, hx, ha.mono _ _ _ _ _ (fun τ1 g1 q1 v1 H1 k1 => ?_) (fun _ _ _ z => z) q⟩
  refine ⟨(v1, τ1) :: Φ, lim, g1, E, k1, hx, hb.mono _ _ _ _ _ (fun τ2 g2 q2 v2 H2 k2 => ?_) (fun _ _ _ z => z) q1⟩
  have k3 := k2.freezeT.dup (frz_frz τ2)
  have k4 : RepG X.K B lim σ H2 g2 ((v2, frz τ2) :: (v1, τ1) :: (v2, frz τ2) :: Φ) := k3.perm (List.Perm.cons _ (List.Perm.swap _ _ _))
  refine hr1.1 B lim σ H2 g2 ((v2, frz τ2) :: Φ) v1 v2 τ1 (frz τ2) _ k4 (hr1.2 _ _ _ _ (fun τ q3 v3 H3 k5 => ?_) q2)
  obtain ⟨k, rfl, q4⟩ := isBl_of q3
  obtain rfl := k5.leaf
  refine ⟨k, rfl, ?_⟩
  cases k with
  | false => exact q4 _ _ k5.dropT.dropT.addLeaf
  | true =>
    refine ⟨(v2, frz τ2) :: Φ, lim, g2, E, k5.dropT, hx, hc.mono _ _ _ _ _ (fun τ3 g3 q5 v4 H4 k6 => ?_) (fun _ _ _ z => z) q4⟩
    exact hr2.1 B lim σ H4 g3 Φ v2 v4 (frz τ2) τ3 _ k6 (hr2.2 _ _ _ _ (fun τ' z v5 H5 k7 => z v5 H5 k7) q5)
theorem d_chain {op op' : CmpOp} {rr rr' : R2} {r1 r2 : R2T} (ho : OpR X (compareOp op) rr) (hr1 : Op2 X.K rr r1) (ho' : OpR X (compareOp op') rr') (hr2 : Op2 X.K rr' r2) (ha : DE X W a ta) (hb : DE X W b tb) (hc : DE X W c tc)
    (hm : lastMarks [op, op'] [b, c] = false := by with_unfolding_all rfl) : DE X W (.Compare a [op, op'] [b, c] pos) (xChain r1 r2 ta tb tc) :=
  ⟨fun B => PE.imp (pe_chain ho ho' (ha.run B) (hb.run B) (hc.run B) hm) fun σ H Q h => chain_reads (op := op) (op' := op') hr1 hr2 ha hb hc h, xChain_mono hr1.2 hr2.2 ha hb hc⟩
theorem dt_chain {op op' : CmpOp} {rr rr' : R2} {r1 r2 : R2T} (ho : OpR X (compareOp op) rr) (hr1 : Op2 X.K rr r1) (ho' : OpR X (compareOp op') rr') (hr2 : Op2 X.K rr' r2) (ha : DE X W a ta) (hb : DE X W b tb) (hc : DE X W c tc)
    (hm : lastMarks [op, op'] [b, c] = false := by with_unfolding_all rfl) : DT X W (.Compare a [op, op'] [b, c] pos) (xB (xChain r1 r2 ta tb tc)) := by
  refine ⟨fun B => PT.imp (pt_chain ho ho' (ha.run B) (hb.run B) (hc.run B) hm) fun σ H Q ⟨Φ, lim, g, E, r, hx, q⟩ => ?_, fun g Q Q' E E' hq hE q => ?_⟩
  · refine chain_reads (op := op) (op' := op') hr1 hr2 ha hb hc ⟨Φ, lim, g, E, r, hx, xChain_mono hr1.2 hr2.2 ha hb hc _ _ _ _ _ (fun τ g1 q1 v H1 k1 => ?_) (fun _ _ _ z => z) q⟩
    split at q1
    · obtain rfl := k1.leaf
      exact ⟨_, rfl, q1 _ k1.dropT⟩
    · exact q1.elim
  · exact xChain_mono hr1.2 hr2.2 ha hb hc _ _ _ _ _ (fun τ g1 q1 => m_bl hq q1) hE q
def rtIs (neg : Bool) : R2T := fun τ1 τ2 Q => match τ1, τ2 with
  | .leaf (.bl a), .leaf (.bl b) => Q (.leaf (.bl (if neg then !decide (a = b) else decide (a = b))))
  | .leaf v, .leaf .non => Q (.leaf (.bl (if neg then !decide (v = .non) else decide (v = .non))))
  | .node _ _ _, .leaf .non => Q (.leaf (.bl neg))
  | _, _ => False
theorem rtIs_mono {neg : Bool} : ∀ τ1 τ2 Q Q', (∀ τ, Q τ → Q' τ) → rtIs neg τ1 τ2 Q → rtIs neg τ1 τ2 Q' := by
  intro τ1 τ2 Q Q' hq q
  unfold rtIs at q ⊢
  split at q
  · exact hq _ q
  · exact hq _ q
  · exact hq _ q
  · exact q.elim
def rIsNo : R2 := fun x y H Q => y = .non ∧ Q (.bl (decide (x = .non))) H
def rNotNo : R2 := fun x y H Q => y = .non ∧ Q (.bl (!decide (x = .non))) H
def rIsA : R2 := fun x y H Q => rIsB x y H Q ∨ rIsNo x y H Q
def rIsBn : R2 := fun x y H Q => ∃ a b, x = .bl a ∧ y = .bl b ∧ Q (.bl (!decide (a = b))) H
def rIsnA : R2 := fun x y H Q => rIsBn x y H Q ∨ rNotNo x y H Q
theorem op_isA : OpR X (compareOp .Is) rIsA := fun pins s σ H x y v u Q I rx ry h => h.elim (op_isBl pins s σ H x y v u Q I rx ry) (op_isN pins s σ H x y v u Q I rx ry)
theorem op_isnA : OpR X (compareOp .IsNot) rIsnA := fun pins s σ H x y v u Q I rx ry h => h.elim (op_isnot_bl pins s σ H x y v u Q I rx ry) (op_notN pins s σ H x y v u Q I rx ry)
theorem op2_is {K : PySem.W.Frag} : Op2 K rIsA (rtIs false) := by
  refine ⟨fun B lim σ H g Φ v1 v2 τ1 τ2 Q r q => ?_, rtIs_mono⟩
  unfold rtIs at q
  split at q
  · obtain rfl := r.leaf
    obtain rfl := r.dropT.leaf
    exact .inl ⟨_, _, rfl, rfl, q _ _ r.dropT.dropT.addLeaf⟩
  · obtain rfl := r.leaf
    obtain rfl := r.dropT.leaf
    exact .inr ⟨rfl, q _ _ r.dropT.dropT.addLeaf⟩
  · obtain rfl := r.leaf
    obtain ⟨a, vs, rfl, _⟩ := r.dropT.node
    exact .inr ⟨rfl, q _ _ r.dropT.dropT.addLeaf⟩
  · exact q.elim
theorem op2_isn {K : PySem.W.Frag} : Op2 K rIsnA (rtIs true) := by
  refine ⟨fun B lim σ H g Φ v1 v2 τ1 τ2 Q r q => ?_, rtIs_mono⟩
  unfold rtIs at q
  split at q
  · obtain rfl := r.leaf
    obtain rfl := r.dropT.leaf
    exact .inl ⟨_, _, rfl, rfl, q _ _ r.dropT.dropT.addLeaf⟩
  · obtain rfl := r.leaf
    obtain rfl := r.dropT.leaf
    exact .inr ⟨rfl, q _ _ r.dropT.dropT.addLeaf⟩
  · obtain rfl := r.leaf
    obtain ⟨a, vs, rfl, _⟩ := r.dropT.node
    exact .inr ⟨rfl, q _ _ r.dropT.dropT.addLeaf⟩
  · exact q.elim
theorem dt_is (ha : DE X W a ta) (hb : DE X W b tb) : DT X W (.Compare a [.Is] [b] pos) (xB (xOp (rtIs false) ta tb)) := dt_cmp op_isA op2_is ha hb (nomark _)
theorem dt_isnot (ha : DE X W a ta) (hb : DE X W b tb) : DT X W (.Compare a [.IsNot] [b] pos) (xB (xOp (rtIs true) ta tb)) := dt_cmp op_isnA op2_isn ha hb (nomark _)
end
end DL
set_option Elab.async false
set_option linter.all false
set_option maxRecDepth 100000
set_option maxHeartbeats 4000000
namespace DL
open PySem L2
inductive Ty where
  | non | int | bl | str | lst | tup | dct | exc
deriving DecidableEq
def Ty.name : Ty → String
  | .non => "NoneType"
  | .int => "int"
  | .bl => "bool"
  | .str => "str"
  | .lst => "list"
  | .tup => "tuple"
  | .dct => "dict"
  | .exc => "BaseException"
def tyT : T → Option Ty
  | .leaf .non => some .non
  | .leaf (.bl _) => some .bl
  | .leaf (.int _) => some .int
  | .leaf (.str _) => some .str
  | .node _ .lst _ => some .lst
  | .node _ .tup _ => some .tup
  | .node _ (.dK _) _ => some .dct
  | .node _ (.dT _) _ => some .dct
  | .pin .lst _ => some .lst
  | .pin .tup _ => some .tup
  | .pin (.exc _) _ => some .exc
  | _ => none
def Ty.isa : Ty → Ty → Bool
  | .bl, .int => true
  | a, b => decide (a = b)
theorem isa_ok (a b : Ty) (h : b ≠ .non ∧ b ≠ .exc) (ha : a ≠ .exc) : kitB a.name b.name = some (a.isa b) := by
  cases a <;> cases b <;> first | exact absurd rfl h.1 | exact absurd rfl h.2 | exact absurd rfl ha | decide +kernel
theorem RepG.tyx {K : PySem.W.Frag} {B : Bs} {lim : List Addr} {σ : St} {H : Hp} {g : Ev} {Φ : Its} {v : V} {τ : T} {ty : Ty} (r : RepG K B lim σ H g ((v, τ) :: Φ)) (e : tyT τ = some ty) (hne : ty ≠ .exc) : TyX K H v (.type ty.name) := by
  unfold tyT at e
  split at e
  · cases e
    obtain rfl := r.leaf
    exact .base .non
  · cases e
    obtain rfl := r.leaf
    exact .base (.bl _)
  · cases e
    obtain rfl := r.leaf
    exact .base (.int _)
  · cases e
    obtain rfl := r.leaf
    exact .base (.str _)
  · cases e
    obtain ⟨a, vs, rfl, _, ha⟩ := r.nodeH (by nofun)
    exact .base (.lst ha)
  · cases e
    obtain ⟨a, vs, rfl, _, hr⟩ := r.node
    rcases hr with (ha | ⟨o, ha⟩) | ⟨o, its, n, h1, h2, h3, h4, h5⟩
    · exact .base (.tup ha)
    · exact .fTuple ha
    · exact .kTuple h1 h2
  · cases e
    obtain ⟨a, vs, rfl, _, ha⟩ := r.nodeH (by nofun)
    exact .base (.dK ha)
  · cases e
    obtain ⟨a, vs, rfl, _, ha⟩ := r.nodeH (by nofun)
    exact .base (.dT ha)
  · cases e
    obtain ⟨a, rfl, hr⟩ := r.pinAt
    rcases hr with (ha | ⟨o, ha⟩) | ⟨o, its, n, h1, h2, h3, h4, h5⟩
    · exact .base (.lst ha)
    · exact .base (.frz ha)
    · exact .kList h1 h2
  · cases e
    obtain ⟨a, rfl, hr⟩ := r.pinAt
    rcases hr with (ha | ⟨o, ha⟩) | ⟨o, its, n, h1, h2, h3, h4, h5⟩
    · exact .base (.tup ha)
    · exact .fTuple ha
    · exact .kTuple h1 h2
  · cases e
    exact absurd rfl hne
  · cases e
theorem excKit {K : PySem.W.Frag} {D : Addr} (hv : ExcV K D) (c : Ty) (hc : c ≠ .non ∧ c ≠ .exc) : PySem.W.kitOne K (.ref D) (.type c.name) = some (Ty.exc.isa c) := by
  have := hv.kit c.name (by cases c <;> first | exact absurd rfl hc.1 | exact absurd rfl hc.2 | decide)
  rw [this]
  cases c <;> first | rfl | exact absurd rfl hc.2
theorem excKitAny {K : PySem.W.Frag} {D : Addr} (hv : ExcV K D) : ∀ cs : List Ty, (∀ c ∈ cs, c ≠ .non ∧ c ≠ .exc) → PySem.W.kitAny K (.ref D) (cs.map fun c => .type c.name) = some (cs.any Ty.exc.isa)
  | [], _ => kitAny_nil
  | c :: cs, h => by
    have ih := excKitAny hv cs fun d hd => h d (List.mem_cons_of_mem _ hd)
    refine kitAny_cons (excKit hv c (h c List.mem_cons_self)) (fun e => ?_) (fun e => ?_)
    · rw [ih, List.any_cons, e, Bool.false_or]
    · rw [List.any_cons, e, Bool.true_or]
theorem exc_inst {X : Cx} {pins : List (Addr × Obj)} {σ : St} {H : Hp} {s : Shared} {a : Addr} (I : Inv X pins σ H s) (ha : ExcIn X.K H a) : ∃ (D : Addr) (oe : Obj), ExcV X.K D ∧ PySem.W.InstAt s.heap a oe D none := by
  rcases ha with ⟨D, ha, hv⟩ | ha | ⟨o, ha⟩
  · obtain ⟨⟨oe, vs, e, z, d, _⟩, _, _⟩ := I.hok a _ ha
    refine ⟨D, oe, hv, ?_⟩
    obtain ⟨oc, od, oda, osl⟩ := oe
    obtain ⟨h1, h2⟩ := z
    dsimp only at h1 h2 d
    subst h1 h2 d
    exact ⟨e, rfl, rfl, trivial⟩
  · obtain ⟨z, _⟩ := I.hok a _ ha
    exact z.elim
  · have z := I.hok a _ ha
    exact z.2.1.elim
def rIsiV (K : PySem.W.Frag) : List V → Hp → VK → Prop := fun xs H Q => ∃ (a : Addr) (c : Ty), (c ≠ .non ∧ c ≠ .exc) ∧ xs = [.ref a, .ty c.name] ∧ ExcIn K H a ∧ Q (.bl (Ty.exc.isa c)) H
def rIsiTV (K : PySem.W.Frag) : List V → Hp → VK → Prop := fun xs H Q => ∃ (a tp : Addr) (cs : List Ty), (∀ c ∈ cs, c ≠ .non ∧ c ≠ .exc) ∧ xs = [.ref a, .ref tp] ∧ H tp = some (.tup (cs.map fun c => V.ty c.name)) ∧ ExcIn K H a ∧ Q (.bl (cs.any Ty.exc.isa)) H
theorem paired_ty : ∀ cs : List Ty, Paired ClsV (cs.map fun c => V.ty c.name) (cs.map fun c => Value.type c.name)
  | [] => .nil
  | c :: cs => .cons (.ty _) (paired_ty cs)
theorem call_isV {X : Cx} : CallR X (.builtin "isinstance") (fun xs H Q => rIsi X.K xs H Q ∨ rIsiV X.K xs H Q) := by
  intro pins s σ H xs us Q I r h
  rcases h with h | ⟨a, c, hc, rfl, ha, q⟩
  · exact call_isi pins s σ H xs us Q I r h
  · obtain ⟨u1, u2, rfl, r1, r2⟩ := vals2 r
    cases (show u1 = Value.ref a from r1)
    cases (show u2 = Value.type c.name from r2)
    obtain ⟨D, oe, hv, J⟩ := exc_inst I ha
    exact PySem.W.kia_one (PySem.W.handS_kitx_exc hv.ex.hg hv.ex.hk hv.ex.hs hv.ex.hd hv.ex.ha hv.ex.hn hv.ex.ht hv.ex.hm) I.kIn J (excKit hv c hc) (fun z => nomatch z) fun tk => ⟨.bl _, H, I.kept (t' := tk) fun _ _ z => z, rfl, q⟩
theorem call_isTV {X : Cx} : CallR X (.builtin "isinstance") (fun xs H Q => rIsiT X.K xs H Q ∨ rIsiTV X.K xs H Q) := by
  intro pins s σ H xs us Q I r h
  rcases h with h | ⟨a, tp, cs, hc, rfl, hT, ha, q⟩
  · exact call_isiT pins s σ H xs us Q I r h
  · obtain ⟨u1, u2, rfl, r1, r2⟩ := vals2 r
    cases (show u1 = Value.ref a from r1)
    cases (show u2 = Value.ref tp from r2)
    obtain ⟨D, oe, hv, J⟩ := exc_inst I ha
    obtain ⟨_, its, rv, o, h1, h2, n, h3⟩ := (show ObjOk X.prog X.w H s.heap tp (.tup (cs.map fun c => V.ty c.name)) from I.hok tp _ hT)
    have e3 := ClsV.all (paired_ty cs) rv
    subst e3
    obtain ⟨oc, od, dt, sl⟩ := o
    simp only at h2 h3
    subst h2 h3
    exact PySem.W.kia_tup (PySem.W.handS_kitx_exc hv.ex.hg hv.ex.hk hv.ex.hs hv.ex.hd hv.ex.ha hv.ex.hn hv.ex.ht hv.ex.hm) I.kIn J h1 (excKitAny hv cs hc) (fun z => nomatch z) fun tk => ⟨.bl _, H, I.tok tk, rfl, q⟩
theorem exc_of {τ : T} (e : tyT τ = some .exc) : ∃ n vs, τ = .pin (.exc n) vs := by
  unfold tyT at e
  split at e <;> first | cases e; done | exact ⟨_, _, rfl⟩ | (cases e)
def tyQ (τ : T) (P : Ty → Prop) : Prop := match tyT τ with
  | some ty => P ty
  | none => False
theorem tyQ_of {τ : T} {P : Ty → Prop} (q : tyQ τ P) : ∃ ty, tyT τ = some ty ∧ P ty := by
  unfold tyQ at q
  split at q
  · rename_i ty h
    exact ⟨ty, h, q⟩
  · exact q.elim
theorem tyQ_mono {τ : T} {P P' : Ty → Prop} (h : ∀ t, P t → P' t) (q : tyQ τ P) : tyQ τ P' := by
  unfold tyQ at q ⊢
  split at q
  · rename_i ty e
    exact h _ q
  · exact q.elim
section
variable {X : Cx} {W : WX} {m : Nat → Bool} {tg e a b c : Expr} {es : List Expr} {te ta tb tc : DTE} {t : DTA} {bs : List (Option Nat)} {pos p tpos : Pos} {x : Str}
theorem d_ty {n : String} (hg : Gl X x) (hm : X.mg x = none) (hv : bootBuiltins x = some (.type n)) (hn : x ≠ "__name__" := by decide) (hd : (x == ("__debug__" : Str)) = false := by decide) : DE X W (.Name x pos) (xC (.ty n)) := d_c (pe_bltn hg hm hv rfl hn hd)
def rnIsi (c : Ty) : RNT := fun τs Q => match τs with
  | [τ, .leaf (.ty n)] => n = c.name ∧ tyQ τ fun ty => Q (.leaf (.bl (ty.isa c)))
  | _ => False
theorem n_isi (c : Ty) (hc : c ≠ .non ∧ c ≠ .exc := by decide) : CallN X (.builtin "isinstance") (fun xs H Q => rIsi X.K xs H Q ∨ rIsiV X.K xs H Q) (rnIsi c) := by
  refine ⟨call_isV, fun B lim σ H g Φ vs τs Q hl r q => ?_, fun τs Q Q' h q => ?_⟩
  · unfold rnIsi at q
    split at q
    · rename_i τ n
      obtain ⟨rfl, q⟩ := q
      obtain ⟨ty, ht, q⟩ := tyQ_of q
      match vs, hl with
      | [v, w], _ =>
        have r2 : RepG X.K B lim σ H g ((v, τ) :: (w, .leaf (.ty c.name)) :: Φ) := r
        obtain rfl := r2.dropT.leaf
        by_cases hx : ty = .exc
        · subst hx
          obtain ⟨k, us, rfl⟩ := exc_of ht
          obtain ⟨a, rfl, ha⟩ := r2.excAt
          exact .inr ⟨a, c, hc, rfl, ha, q _ _ r2.dropT.dropT.addLeaf⟩
        · exact .inl ⟨v, _, _, _, _, rfl, .ty _, r2.tyx ht hx, kit_ty (isa_ok ty c hc hx), q _ _ r2.dropT.dropT.addLeaf⟩
    · exact q.elim
  · unfold rnIsi at q
    split at q
    · exact ⟨q.1, tyQ_mono (fun _ z => h _ z) q.2⟩
    · exact q.elim
def rnIsiT (cs : List Ty) : RNT := fun τs Q => match τs with
  | [τ, .node true .tup ts] => ts = cs.map (fun c => .leaf (.ty c.name)) ∧ tyQ τ fun ty => Q (.leaf (.bl (cs.any ty.isa)))
  | _ => False
theorem kitAny_ok {K : PySem.W.Frag} (ty : Ty) (hx : ty ≠ .exc) : ∀ cs : List Ty, (∀ c ∈ cs, c ≠ .non ∧ c ≠ .exc) → PySem.W.kitAny K (.type ty.name) (cs.map fun c => .type c.name) = some (cs.any ty.isa)
  | [], _ => kitAny_nil
  | c :: cs, h => by
    have ih := kitAny_ok (K := K) ty hx cs fun d hd => h d (List.mem_cons_of_mem _ hd)
    refine kitAny_cons (kit_ty (isa_ok ty c (h c List.mem_cons_self) hx)) (fun e => ?_) (fun e => ?_)
    · rw [ih, List.any_cons, e, Bool.false_or]
    · rw [List.any_cons, e, Bool.true_or]
theorem n_isiT (cs : List Ty) (hc : ∀ c ∈ cs, c ≠ .non ∧ c ≠ .exc := by decide) : CallN X (.builtin "isinstance") (fun xs H Q => rIsiT X.K xs H Q ∨ rIsiTV X.K xs H Q) (rnIsiT cs) := by
  refine ⟨call_isTV, fun B lim σ H g Φ vs τs Q hl r q => ?_, fun τs Q Q' h q => ?_⟩
  · unfold rnIsiT at q
    split at q
    · rename_i τ ts
      obtain ⟨rfl, q⟩ := q
      obtain ⟨ty, ht, q⟩ := tyQ_of q
      match vs, hl with
      | [v, w], _ =>
        have r2 : RepG X.K B lim σ H g ((v, τ) :: (w, .node true .tup (cs.map fun c => .leaf (.ty c.name))) :: Φ) := r
        have r3 : RepG X.K B lim σ H g ((w, .node true .tup ((cs.map fun c => V.ty c.name).map T.leaf)) :: Φ) := by
          rw [List.map_map]
          exact r2.dropT
        obtain ⟨ad, us, rfl, hl', ha, r4⟩ := r3.open_
        have e : us = cs.map fun c => V.ty c.name := RepG.leaves hl' r4
        subst e
        by_cases hx : ty = .exc
        · subst hx
          obtain ⟨k, us, rfl⟩ := exc_of ht
          obtain ⟨a, rfl, hb⟩ := r2.excAt
          exact .inr ⟨a, ad, cs, hc, rfl, ha, hb, q _ _ r2.dropT.dropT.addLeaf⟩
        · exact .inl ⟨v, ad, _, _, _, _, rfl, ha, paired_ty cs, r2.tyx ht hx, kitAny_ok ty hx cs hc, q _ _ r2.dropT.dropT.addLeaf⟩
    · exact q.elim
  · unfold rnIsiT at q
    split at q
    · exact ⟨q.1, tyQ_mono (fun _ z => h _ z) q.2⟩
    · exact q.elim
def rnDivmod : RNT := fun τs Q => match τs with
  | [.leaf (.int i), .leaf (.int j)] => CDivP i j ∧ Q (.node true .tup [.leaf (.int (i / j)), .leaf (.int (i % j))])
  | _ => False
theorem n_divmod : CallN X (.builtin "divmod") (fun xs H Q => ∃ i j, xs = [.int i, .int j] ∧ CDivP i j ∧ ∀ p, H p = none → Q (.ref p) (upd H p (.tup [.int (i / j), .int (i % j)]))) rnDivmod := by
  refine ⟨call_divmodW, fun B lim σ H g Φ vs τs Q hl r q => ?_, fun τs Q Q' h q => ?_⟩
  · unfold rnDivmod at q
    split at q
    · obtain ⟨rfl, r'⟩ := two_leaf hl r
      exact ⟨_, _, rfl, q.1, fun p hp => q.2 _ _ (make_pair r'.addLeaf.addLeaf hp)⟩
    · exact q.elim
  · unfold rnDivmod at q
    split at q
    · exact ⟨q.1, h _ q.2⟩
    · exact q.elim
def rnTuple : RNT := fun τs Q => match τs with
  | [.node _ .lst ts] => Q (.node true .tup (frzL ts))
  | [.node _ .tup ts] => Q (.node false .tup (frzL ts))
  | _ => False
theorem parts_only {K : PySem.W.Frag} {B : Bs} {lim : List Addr} {σ : St} {H : Hp} {g : Ev} {Φ : Its} {v : V} {o : Bool} {s : Sh} {ts : List T} (r : RepG K B lim σ H g ((v, .node o s ts) :: Φ)) :
    ∃ a vs, v = .ref a ∧ vs.length = (frzL ts).length ∧ (Rd H a (s.mk a vs) ∨ Konst K a vs s) ∧ RepG K B lim σ H g (vs.zip (frzL ts) ++ Φ) := by
  obtain ⟨a, vs, e, hl, hr, r2⟩ := r.parts
  refine ⟨a, vs, e, by rw [hl, frzL_length], hr, ?_⟩
  exact ((r2.perm (List.perm_append_comm (l₁ := vs.zip (frzL ts)) (l₂ := (v, T.node false s (frzL ts)) :: Φ))).dropT.perm List.perm_append_comm)
theorem n_tuple : CallN X (.type "tuple") (fun xs H Q => ∃ p ys, xs = [.ref p] ∧ ((SqL X.K H p ys ∧ ∀ l, H l = none → Q (.ref l) (upd H l (.tup ys))) ∨ (SqT X.K H p ys ∧ Q (.ref p) H))) rnTuple := by
  refine ⟨call_tuple_of, fun B lim σ H g Φ vs τs Q hl r q => ?_, fun τs Q Q' h q => ?_⟩
  · unfold rnTuple at q
    split at q
    · rename_i o ts
      match vs, hl with
      | [v], _ =>
        have r2 : RepG X.K B lim σ H g ((v, .node o .lst ts) :: Φ) := r
        obtain ⟨a, us, rfl, hl', hr, r3⟩ := parts_only r2
        exact ⟨a, us, rfl, .inl ⟨seqL hr, fun l hn => q _ _ (make_of .tup hl' r3 hn)⟩⟩
    · rename_i o ts
      match vs, hl with
      | [v], _ =>
        have r2 : RepG X.K B lim σ H g ((v, .node o .tup ts) :: Φ) := r
        obtain ⟨a, us, rfl, hl', hr, r3⟩ := r2.parts
        have r4 := r2.freezeT
        rw [frz_node] at r4
        exact ⟨a, us, rfl, .inr ⟨seqT hr, q _ _ r4⟩⟩
    · exact q.elim
  · unfold rnTuple at q
    split at q
    · exact h _ q
    · exact h _ q
    · exact q.elim
def rnList : RNT := fun τs Q => match τs with
  | [.node _ .lst ts] => Q (.node true .lst (frzL ts))
  | [.node _ .tup ts] => Q (.node true .lst (frzL ts))
  | _ => False
theorem n_list : CallN X (.type "list") (fun xs H Q => ∃ p ys, xs = [.ref p] ∧ (SqL X.K H p ys ∨ SqT X.K H p ys) ∧ ∀ l, H l = none → Q (.ref l) (upd H l (.lst ys))) rnList := by
  refine ⟨call_list_of, fun B lim σ H g Φ vs τs Q hl r q => ?_, fun τs Q Q' h q => ?_⟩
  · unfold rnList at q
    split at q
    · rename_i o ts
      match vs, hl with
      | [v], _ =>
        have r2 : RepG X.K B lim σ H g ((v, .node o .lst ts) :: Φ) := r
        obtain ⟨a, us, rfl, hl', hr, r3⟩ := parts_only r2
        exact ⟨a, us, rfl, .inl (seqL hr), fun l hn => q _ _ (make_of .lst hl' r3 hn)⟩
    · rename_i o ts
      match vs, hl with
      | [v], _ =>
        have r2 : RepG X.K B lim σ H g ((v, .node o .tup ts) :: Φ) := r
        obtain ⟨a, us, rfl, hl', hr, r3⟩ := parts_only r2
        exact ⟨a, us, rfl, .inr (seqT hr), fun l hn => q _ _ (make_of .lst hl' r3 hn)⟩
    · exact q.elim
  · unfold rnList at q
    split at q
    · exact h _ q
    · exact h _ q
    · exact q.elim
theorem one_flats {K : PySem.W.Frag} {B : Bs} {lim : List Addr} {σ : St} {H : Hp} {g : Ev} {Φ : Its} {vs : List V} {o : Bool} {ws : List V} (hl : vs.length = [T.node o .lst (ws.map T.leaf)].length) (r : RepG K B lim σ H g (vs.zip [T.node o .lst (ws.map T.leaf)] ++ Φ)) :
    ∃ a, vs = [.ref a] ∧ SqL K H a ws ∧ RepG K B lim σ H g Φ := by
  match vs, hl with
  | [v], _ =>
    have r2 : RepG K B lim σ H g ((v, .node o .lst (ws.map T.leaf)) :: Φ) := r
    obtain ⟨a, rfl, hr⟩ := r2.flats
    exact ⟨a, rfl, seqL hr, r2.dropT⟩
def rnMaxL : RNT := fun τs Q => match τs with
  | [.node _ .lst ts] => ∃ ns : List Int, ts = intsT ns ∧ 0 < ns.length ∧ ∀ k, k ∈ ns → (∀ y, y ∈ ns → y ≤ k) → Q (.leaf (.int k))
  | _ => False
theorem n_maxL (hc : X.calm = true) : CallN X (.builtin "max") (rMax X.K) rnMaxL := by
  refine ⟨cr_max hc, fun B lim σ H g Φ vs τs Q hl r q => ?_, fun τs Q Q' h q => ?_⟩
  · unfold rnMaxL at q
    split at q
    · obtain ⟨ns, rfl, h0, q⟩ := q
      rename_i o _
      simp only [intsT_eq] at hl r
      obtain ⟨a, rfl, hs, r'⟩ := one_flats hl r
      exact ⟨a, ns, rfl, hs, h0, fun k h1 h2 => q k h1 h2 _ _ r'.addLeaf⟩
    · exact q.elim
  · unfold rnMaxL at q
    split at q
    · obtain ⟨ns, e, h0, q⟩ := q
      exact ⟨ns, e, h0, fun k h1 h2 => h _ (q k h1 h2)⟩
    · exact q.elim
abbrev boolsT (ns : List Bool) : List T := ns.map fun i => .leaf (.bl i)
theorem boolsT_eq (ns : List Bool) : boolsT ns = (ns.map V.bl).map T.leaf := by rw [List.map_map]; rfl
def rnAll : RNT := fun τs Q => match τs with
  | [.node _ .lst ts] => ∃ ns : List Bool, ts = boolsT ns ∧ Q (.leaf (.bl (ns.all id)))
  | _ => False
def rnAny : RNT := fun τs Q => match τs with
  | [.node _ .lst ts] => ∃ ns : List Bool, ts = boolsT ns ∧ Q (.leaf (.bl (ns.any id)))
  | _ => False
theorem n_all (hc : X.calm = true) : CallN X (.builtin "all") (rAll X.K) rnAll := by
  refine ⟨cr_all hc, fun B lim σ H g Φ vs τs Q hl r q => ?_, fun τs Q Q' h q => ?_⟩
  · unfold rnAll at q
    split at q
    · obtain ⟨ns, rfl, q⟩ := q
      simp only [boolsT_eq] at hl r
      obtain ⟨a, rfl, hs, r'⟩ := one_flats hl r
      exact ⟨a, ns, rfl, hs, q _ _ r'.addLeaf⟩
    · exact q.elim
  · unfold rnAll at q
    split at q
    · obtain ⟨ns, e, q⟩ := q
      exact ⟨ns, e, h _ q⟩
    · exact q.elim
theorem n_any (hc : X.calm = true) : CallN X (.builtin "any") (rAny X.K) rnAny := by
  refine ⟨cr_any hc, fun B lim σ H g Φ vs τs Q hl r q => ?_, fun τs Q Q' h q => ?_⟩
  · unfold rnAny at q
    split at q
    · obtain ⟨ns, rfl, q⟩ := q
      simp only [boolsT_eq] at hl r
      obtain ⟨a, rfl, hs, r'⟩ := one_flats hl r
      exact ⟨a, ns, rfl, hs, q _ _ r'.addLeaf⟩
    · exact q.elim
  · unfold rnAny at q
    split at q
    · obtain ⟨ns, e, q⟩ := q
      exact ⟨ns, e, h _ q⟩
    · exact q.elim
def rnInt2 : RNT := fun τs Q => match τs with
  | [.leaf (.int i)] => Q (.leaf (.int i))
  | [.leaf (.bl k)] => Q (.leaf (.int (if k then 1 else 0)))
  | [.leaf (.str a)] => ∃ n, PySem.intText? a = some n ∧ a.length ≤ 640 ∧ Q (.leaf (.int n))
  | _ => False
theorem n_int2 : CallN X (.type "int") (fun xs H Q => ((∃ i, xs = [.int i] ∧ Q (.int i) H) ∨ ∃ k, xs = [.bl k] ∧ Q (.int (if k then 1 else 0)) H) ∨ ∃ a n, xs = [.str a] ∧ PySem.intText? a = some n ∧ a.length ≤ 640 ∧ Q (.int n) H) rnInt2 := by
  refine ⟨call_int1.or call_int_str, fun B lim σ H g Φ vs τs Q hl r q => ?_, fun τs Q Q' h q => ?_⟩
  · unfold rnInt2 at q
    split at q
    · obtain ⟨rfl, r'⟩ := one_leaf hl r
      exact .inl (.inl ⟨_, rfl, q _ _ r'.addLeaf⟩)
    · obtain ⟨rfl, r'⟩ := one_leaf hl r
      exact .inl (.inr ⟨_, rfl, q _ _ r'.addLeaf⟩)
    · obtain ⟨rfl, r'⟩ := one_leaf hl r
      obtain ⟨n, h1, h2, q⟩ := q
      exact .inr ⟨_, n, rfl, h1, h2, q _ _ r'.addLeaf⟩
    · exact q.elim
  · unfold rnInt2 at q
    split at q
    · exact h _ q
    · exact h _ q
    · obtain ⟨n, h1, h2, q⟩ := q
      exact ⟨n, h1, h2, h _ q⟩
    · exact q.elim
def truT : T → (Bool → Prop) → Prop
  | .leaf .non, P => P false
  | .leaf (.bl b), P => P b
  | .leaf (.int i), P => P (i != 0)
  | .leaf (.str y), P => y.length ≤ sizeLine ∧ P ((y.length : Int) != 0)
  | .node _ .lst ts, P => P (!ts.isEmpty)
  | .node _ .tup ts, P => P (!ts.isEmpty)
  | _, _ => False
theorem truT_mono {τ : T} {P P' : Bool → Prop} (h : ∀ b, P b → P' b) (q : truT τ P) : truT τ P' := by
  unfold truT at q
  split at q
  · exact h _ q
  · exact h _ q
  · exact h _ q
  · exact ⟨q.1, h _ q.2⟩
  · exact h _ q
  · exact h _ q
  · exact q.elim
theorem isEmpty_len {α β : Type} {xs : List α} {ys : List β} (h : xs.length = ys.length) : xs.isEmpty = ys.isEmpty := by
  cases xs <;> cases ys <;> first | rfl | simp at h
def xTru (te : DTE) : DTT := fun g Q E => te g (fun τ g1 => truT τ fun b => Q b g1) E
theorem dt_truth (ha : DE X W a ta) (he : ∀ whole, isTrue a X.env whole = (do let v ← whole; standAt a.pos; holding [v] (truthy v)) := by intro _; rfl) : DT X W a (xTru ta) := by
  refine ⟨fun B => PT.imp (pt_truth (ha.run B) he) fun σ H Q ⟨Φ, lim, g, E, r, hx, q⟩ => ?_, fun g Q Q' E E' hq hE q => ha.mono _ _ _ _ _ (fun τ g1 q1 => truT_mono (fun b z => hq _ _ z) q1) hE q⟩
  refine ⟨Φ, lim, g, E, r, hx, ha.mono _ _ _ _ _ (fun τ g1 q1 v H1 r1 => ?_) (fun _ _ _ z => z) q⟩
  unfold truT at q1
  split at q1
  · obtain rfl := r1.leaf
    exact ⟨false, rfl, q1 _ r1.dropT⟩
  · obtain rfl := r1.leaf
    exact ⟨_, rfl, q1 _ r1.dropT⟩
  · obtain rfl := r1.leaf
    exact ⟨_, rfl, q1 _ r1.dropT⟩
  · obtain rfl := r1.leaf
    exact ⟨_, ⟨q1.1, rfl⟩, q1.2 _ r1.dropT⟩
  · rename_i o ts
    obtain ⟨ad, us, rfl, hl, hr⟩ := r1.node
    exact ⟨_, .inl ⟨us, seqL hr, rfl⟩, by rw [isEmpty_len hl]; exact q1 _ r1.dropT⟩
  · rename_i o ts
    obtain ⟨ad, us, rfl, hl, hr⟩ := r1.node
    exact ⟨_, .inr (.inl ⟨us, seqT hr, rfl⟩), by rw [isEmpty_len hl]; exact q1 _ r1.dropT⟩
  · exact q1.elim
def rtAdd : R2T := fun τ1 τ2 Q => match τ1, τ2 with
  | .node _ .lst ts, .node _ .lst us => ts.length + us.length ≤ sizeLine ∧ Q (.node true .lst (frzL ts ++ frzL us))
  | .leaf (.int i), .leaf (.int j) => Q (.leaf (.int (i + j)))
  | .leaf (.str i), .leaf (.str j) => i.length + j.length ≤ sizeLine ∧ Q (.leaf (.str (i ++ j)))
  | .node _ .tup ts, .node _ .tup us => ts.length + us.length ≤ sizeLine ∧ Q (.node false .tup (frzL ts ++ frzL us))
  | _, _ => False
theorem rtAdd_mono : ∀ τ1 τ2 Q Q', (∀ τ, Q τ → Q' τ) → rtAdd τ1 τ2 Q → rtAdd τ1 τ2 Q' := by
  intro τ1 τ2 Q Q' hq q
  unfold rtAdd at q
  split at q
  · exact ⟨q.1, hq _ q.2⟩
  · exact hq _ q
  · exact ⟨q.1, hq _ q.2⟩
  · exact ⟨q.1, hq _ q.2⟩
  · exact q.elim
def rCatSs : R2 := fun x y H Q => ∃ i j, x = .str i ∧ y = .str j ∧ i.length + j.length ≤ sizeLine ∧ Q (.str (i ++ j)) H
def rAdd4 (K : PySem.W.Frag) : R2 := fun x y H Q => (rCat x y H Q ∨ rI0 (fun i j => .int (i + j)) x y H Q) ∨ (rCatSs x y H Q ∨ rCatA K x y H Q)
theorem op_add4 : OpR X (binaryOp .Add) (rAdd4 X.K) := fun pins s σ H x y v u Q I rx ry h => by
  rcases h with (h | h) | (h | h)
  · exact op_cat pins s σ H x y v u Q I rx ry h
  · exact op_add pins s σ H x y v u Q I rx ry h
  · exact op_add_str pins s σ H x y v u Q I rx ry h
  · exact op_catA pins s σ H x y v u Q I rx ry h
theorem op2_add4 {K : PySem.W.Frag} : Op2 K (rAdd4 K) rtAdd := by
  refine ⟨fun B lim σ H g Φ v1 v2 τ1 τ2 Q r q => ?_, rtAdd_mono⟩
  unfold rtAdd at q
  split at q
  · rename_i o ts o' us
    exact .inl (op2_cat.1 B lim σ H g Φ v1 v2 (.node o .lst ts) (.node o' .lst us) Q r q)
  · obtain rfl := r.leaf
    obtain rfl := r.dropT.leaf
    exact .inl (.inr ⟨_, _, rfl, rfl, q _ _ r.dropT.dropT.addLeaf⟩)
  · obtain rfl := r.leaf
    obtain rfl := r.dropT.leaf
    exact .inr (.inl ⟨_, _, rfl, rfl, q.1, q.2 _ _ r.dropT.dropT.addLeaf⟩)
  · rename_i o ts o' us
    have r0 := r.freezeT
    rw [frz_node] at r0
    have r1 := (r0.perm (List.Perm.swap _ _ _)).freezeT
    rw [frz_node] at r1
    obtain ⟨a1, vs1, rfl, hl1, hr1, r2⟩ := r1.kids
    have r3 := r2.perm (Ψ := (v2, .node false .tup (frzL us)) :: (vs1.zip (frzL ts) ++ (V.ref a1, T.node false .tup (frzL ts)) :: Φ)) (by
      have e := List.perm_middle (a := (v2, T.node false .tup (frzL us))) (l₁ := vs1.zip (frzL ts) ++ [(V.ref a1, T.node false .tup (frzL ts))]) (l₂ := Φ)
      simpa using e)
    obtain ⟨a2, vs2, rfl, hl2, hr2, r4⟩ := r3.kids
    refine .inr (.inr ⟨a1, a2, vs1, vs2, rfl, rfl, seqT hr1, seqT hr2, by rw [hl1, hl2, frzL_length, frzL_length]; exact q.1, fun e => ?_, fun e1 e2 => ?_, fun _ _ p hp => ?_⟩)
    · subst e
      have : frzL ts = [] := List.eq_nil_of_length_eq_zero (by rw [← hl1]; rfl)
      rw [this, List.nil_append] at q
      refine q.2 _ _ ?_
      exact (r1.perm (List.Perm.swap _ _ _)).perm (List.Perm.swap _ _ _) |>.dropT
    · subst e2
      have : frzL us = [] := List.eq_nil_of_length_eq_zero (by rw [← hl2]; rfl)
      rw [this, List.append_nil] at q
      refine q.2 _ _ ?_
      exact (r1.perm (List.Perm.swap _ _ _)).dropT
    · have r5 : RepG K B lim σ H g ((vs1 ++ vs2).zip (frzL ts ++ frzL us) ++ Φ) := by
        rw [zip_app hl1]
        have r6 := r4.perm (Ψ := (V.ref a2, T.node false .tup (frzL us)) :: (V.ref a1, T.node false .tup (frzL ts)) :: (vs1.zip (frzL ts) ++ vs2.zip (frzL us) ++ Φ)) (by
          refine (List.perm_middle).trans (List.Perm.cons _ ?_)
          have e1 : (vs2.zip (frzL us) ++ (vs1.zip (frzL ts) ++ (V.ref a1, T.node false .tup (frzL ts)) :: Φ)).Perm ((V.ref a1, T.node false .tup (frzL ts)) :: (vs2.zip (frzL us) ++ (vs1.zip (frzL ts) ++ Φ))) := by
            rw [← List.append_assoc, ← List.append_assoc]
            exact List.perm_middle
          refine e1.trans (List.Perm.cons _ ?_)
          rw [← List.append_assoc]
          exact List.Perm.append_right _ List.perm_append_comm)
        exact r6.dropT.dropT
      have hl : (vs1 ++ vs2).length = (frzL ts ++ frzL us).length := by rw [List.length_append, List.length_append, hl1, hl2]
      have r7 := (make_of .tup hl r5 hp).freezeT
      rw [frz_node] at r7
      have e : frzL (frzL ts ++ frzL us) = frzL ts ++ frzL us := by
        rw [frzL_map, List.map_append, ← frzL_map, ← frzL_map, frzL_frzL, frzL_frzL]
      rw [e] at r7
      exact q.2 _ _ r7
  · exact q.elim
theorem d_add4 (ha : DE X W a ta) (hb : DE X W b tb) : DE X W (.BinOp a .Add b pos) (xOp rtAdd ta tb) := d_op2 op_add4 op2_add4 ha hb
def repL (ts : List T) (n : Int) : List T := (List.replicate n.toNat ts).flatten
def rtMul : R2T := fun τ1 τ2 Q => match τ1, τ2 with
  | .leaf (.int i), .leaf (.int j) => CMulA i j ∧ Q (.leaf (.int (i * j)))
  | .leaf (.str z), .leaf (.int n) => (-(2 ^ 62) ≤ n ∧ n < 2 ^ 62 ∧ z.length * n.toNat ≤ sizeLine) ∧ Q (.leaf (.str (repS z n)))
  | .node _ .lst ts, .leaf (.int n) => (-(2 ^ 62) ≤ n ∧ n < 2 ^ 62 ∧ ts.length * n.toNat ≤ sizeLine) ∧ Q (.node true .lst (repL (frzL ts) n))
  | _, _ => False
theorem rtMul_mono : ∀ τ1 τ2 Q Q', (∀ τ, Q τ → Q' τ) → rtMul τ1 τ2 Q → rtMul τ1 τ2 Q' := by
  intro τ1 τ2 Q Q' hq q
  unfold rtMul at q
  split at q
  · exact ⟨q.1, hq _ q.2⟩
  · exact ⟨q.1, hq _ q.2⟩
  · exact ⟨q.1, hq _ q.2⟩
  · exact q.elim
def rMul3 : R2 := fun x y H Q => (rI CMulA (fun i j => .int (i * j)) x y H Q ∨ rRepS x y H Q) ∨ rRep x y H Q
theorem op_mul3 : OpR X (binaryOp .Mult) rMul3 := fun pins s σ H x y v u Q I rx ry h => by
  rcases h with (h | h) | h
  · exact op_mulA pins s σ H x y v u Q I rx ry h
  · exact op_repS pins s σ H x y v u Q I rx ry h
  · exact op_rep pins s σ H x y v u Q I rx ry h
theorem rep_times {K : PySem.W.Frag} {B : Bs} {lim : List Addr} {σ : St} {H : Hp} {g : Ev} {Φ : Its} {vs : List V} {ts : List T} (hl : vs.length = ts.length) (hf : frzL ts = ts) (r : RepG K B lim σ H g (vs.zip ts ++ Φ)) : ∀ n : Nat,
    (List.replicate n vs).flatten.length = (List.replicate n ts).flatten.length ∧ RepG K B lim σ H g ((List.replicate n vs).flatten.zip (List.replicate n ts).flatten ++ (vs.zip ts ++ Φ))
  | 0 => ⟨rfl, r⟩
  | n + 1 => by
    obtain ⟨e, r1⟩ := rep_times hl hf r n
    have dupAll : ∀ (ws : List V) (us : List T) {Ψ : Its}, (∀ u ∈ us, frz u = u) → RepG K B lim σ H g (ws.zip us ++ Ψ) → RepG K B lim σ H g (ws.zip us ++ (ws.zip us ++ Ψ)) := fun ws => by
      induction ws with
      | nil => intro us Ψ _ h; simpa using h
      | cons w ws ih =>
        intro us Ψ hu h
        cases us with
        | nil => simpa using h
        | cons u us =>
          have h1 : RepG K B lim σ H g ((w, u) :: (ws.zip us ++ Ψ)) := h
          have h2 := h1.dup (hu u List.mem_cons_self)
          have h3 : RepG K B lim σ H g (ws.zip us ++ ((w, u) :: (w, u) :: Ψ)) := h2.perm (by
            have e1 := List.perm_middle (a := (w, u)) (l₁ := ws.zip us) (l₂ := Ψ)
            have e2 := List.perm_middle (a := (w, u)) (l₁ := ws.zip us) (l₂ := (w, u) :: Ψ)
            exact (List.Perm.cons _ e1.symm).trans e2.symm)
          have h4 := ih us (fun u' hu' => hu u' (List.mem_cons_of_mem _ hu')) h3
          refine h4.perm ?_
          show (ws.zip us ++ (ws.zip us ++ ((w, u) :: (w, u) :: Ψ))).Perm ((w, u) :: (ws.zip us ++ ((w, u) :: (ws.zip us ++ Ψ))))
          have e2 : (ws.zip us ++ ((w, u) :: (w, u) :: Ψ)).Perm ((w, u) :: (w, u) :: (ws.zip us ++ Ψ)) := List.perm_middle.trans (List.Perm.cons _ List.perm_middle)
          refine (List.Perm.append_left _ e2).trans ?_
          refine List.perm_middle.trans (List.Perm.cons _ ?_)
          exact .refl _
    have fz : ∀ u ∈ ts, frz u = u := fun u hu => by
      obtain ⟨i, hi, rfl⟩ := List.mem_iff_getElem.mp hu
      have := congrArg (·[i]?) hf
      simp only [frzL_map, List.getElem?_map, List.getElem?_eq_getElem hi] at this
      exact Option.some.inj this
    have r2 : RepG K B lim σ H g (vs.zip ts ++ (vs.zip ts ++ ((List.replicate n vs).flatten.zip (List.replicate n ts).flatten ++ Φ))) := dupAll vs ts fz (r1.perm (by
      rw [← List.append_assoc, ← List.append_assoc]
      exact List.Perm.append_right _ List.perm_append_comm))
    refine ⟨by rw [List.replicate_succ, List.replicate_succ, List.flatten_cons, List.flatten_cons, List.length_append, List.length_append, hl, e], ?_⟩
    rw [List.replicate_succ, List.replicate_succ, List.flatten_cons, List.flatten_cons, zip_app hl, List.append_assoc]
    refine r2.perm (List.Perm.append_left _ ?_)
    rw [← List.append_assoc, ← List.append_assoc]
    exact List.Perm.append_right _ List.perm_append_comm
theorem op2_mul3 {K : PySem.W.Frag} : Op2 K rMul3 rtMul := by
  refine ⟨fun B lim σ H g Φ v1 v2 τ1 τ2 Q r q => ?_, rtMul_mono⟩
  unfold rtMul at q
  split at q
  · obtain rfl := r.leaf
    obtain rfl := r.dropT.leaf
    exact .inl (.inl ⟨_, _, rfl, rfl, q.1, q.2 _ _ r.dropT.dropT.addLeaf⟩)
  · obtain rfl := r.leaf
    obtain rfl := r.dropT.leaf
    exact .inl (.inr ⟨_, _, rfl, rfl, q.1.1, q.1.2.1, q.1.2.2, q.2 _ _ r.dropT.dropT.addLeaf⟩)
  · rename_i o ts n
    obtain rfl := r.leaf
    have r1 := r.dropT.freezeT
    rw [frz_node] at r1
    obtain ⟨a1, vs1, rfl, hl1, hr1, r2⟩ := r1.kidsH (by nofun)
    obtain ⟨e, r3⟩ := rep_times hl1 (frzL_frzL ts) r2 n.toNat
    refine .inr ⟨a1, n, vs1, rfl, rfl, hr1, by omega, by omega, by rw [hl1, frzL_length]; exact q.1.2.2, fun p hp => q.2 _ _ ?_⟩
    refine make_of .lst e ?_ hp
    have r4 := RepG.perm (Ψ := (vs1.zip (frzL ts) ++ [(V.ref a1, T.node false .lst (frzL ts))]) ++ ((List.replicate n.toNat vs1).flatten.zip (List.replicate n.toNat (frzL ts)).flatten ++ Φ)) r3 (by
      have e1 : ∀ (A B : Its) (c : V × T) (D : Its), (A ++ (B ++ c :: D)).Perm ((B ++ [c]) ++ (A ++ D)) := fun A B c D => by
        have h1 : A ++ (B ++ c :: D) = (A ++ (B ++ [c])) ++ D := by simp
        have h2 : (B ++ [c]) ++ (A ++ D) = ((B ++ [c]) ++ A) ++ D := by simp
        rw [h1, h2]
        exact List.Perm.append_right _ List.perm_append_comm
      exact e1 _ _ _ _)
    exact r4.dropTs
  · exact q.elim
theorem d_mul3 (ha : DE X W a ta) (hb : DE X W b tb) : DE X W (.BinOp a .Mult b pos) (xOp rtMul ta tb) := d_op2 op_mul3 op2_mul3 ha hb
def gSq (n : Nat) (u : DTGs) : DTG := fun τ g Q => match τ with
  | .node _ .tup ts => ts.length = n ∧ u (frzL ts) g Q
  | .node _ .lst ts => ts.length = n ∧ u (frzL ts) g Q
  | _ => False
theorem dg_seq {k n : Nat} {u : DTGs} (hc : X.calm = true) (h : DGs X m es u) (hn : (assignEach es X.env).length = n := by rfl) (hst : (assignEach es X.env).findIdx? (·.1) = none := by rfl) : DG X m (.Tuple es k pos) (gSq n u) := by
  refine ⟨fun B σ0 => ⟨fun pins s σ H v w Q I rv ⟨Φ, lim, g, τ, r, hk, q⟩ => ?_⟩, fun τ g Q Q' hq q => ?_⟩
  · unfold gSq at q
    split at q
    · rename_i o ts
      obtain ⟨a, vs, rfl, hl, hr, r'⟩ := r.parts
      exact (pg_tup hc (h.run B σ0) hn hst).run pins s σ H _ w Q I rv ⟨a, vs, rfl, seqT hr, by rw [hl]; exact q.1, _, lim, g, frzL ts, by rw [hl, frzL_length], r', hk, h.mono _ _ _ _ (fun g' q' σ' H' r2 hk' => q' σ' H' r2.dropT hk') q.2⟩
    · rename_i o ts
      obtain ⟨a, vs, rfl, hl, hr, r'⟩ := r.parts
      exact (pg_lst hc (h.run B σ0) hn hst).run pins s σ H _ w Q I rv ⟨a, vs, rfl, seqL hr, by rw [hl]; exact q.1, _, lim, g, frzL ts, by rw [hl, frzL_length], r', hk, h.mono _ _ _ _ (fun g' q' σ' H' r2 hk' => q' σ' H' r2.dropT hk') q.2⟩
    · exact q.elim
  · unfold gSq at q
    split at q
    · exact ⟨q.1, h.mono _ _ _ _ hq q.2⟩
    · exact ⟨q.1, h.mono _ _ _ _ hq q.2⟩
    · exact q.elim
end
end DL
set_option Elab.async false
set_option linter.all false
set_option maxRecDepth 100000
set_option maxHeartbeats 4000000
namespace DL
open PySem PySem.Spec PyProof.Rows L2
section
variable {P : Program} {w : World} {A : Around} {E : Value → Shared → Prop} {s : Shared}
set_option maxRecDepth 100000 in
set_option maxHeartbeats 3200000 in
theorem call_set_lstI {l : Addr} {items : Array Value} (ns : List Int) {Q : Value → Shared → Prop} (hh : A.handled = none) (hl : s.heap.IsList l items) (hit : IntsAre items.toList ns) (hb : ns.length + 1 < scanBound)
    (h : ∀ (h' : Heap) (tk c : Nat), SetR w h' s.heap.objs.size (fun j => decide (j ∈ ns)) c → c ≤ ns.length → (∀ b o, s.heap.get? b = some o → h'.get? b = some o) → Q (.ref s.heap.objs.size) { s with heap := h', toks := tk }) :
    wpAny (model P w) A (call (.type "set") [.ref l]) Q E s := by
  have hisz : items.size = ns.length := by
    have q := IntsAre.length hit
    rw [Array.length_toList] at q
    exact q
  obtain ⟨c, tl, hmro⟩ := F.called_set.mro
  have hmade := F.called_set.made
  have hsub := F.called_set.sub
  refine wpAny_call (codeAny_of_tree ?_)
  show wpAny _ _ (callAny (.type "set") _) _ _ _
  refine wpAny_pure ⟨Code.quiet_builtin _ (by decide +kernel), codeAny_builtin F.entry_type_call ?_⟩
  rw [Around.under_plain (weight_type_call_type "set" [.ref l] []) rfl]
  have h1 := F.called_set.notType
  have h2 := F.called_set.canCreate
  have hct := F.typeCall_set_1 (.ref l)
  repeat (any_goals (first | assumption | wp_step))
  refine codeAny_mono (code_set_led1 (.ref l) (E := E) (Q₁ := fun obj s₁ => obj = .ref s.heap.objs.size ∧ s₁ = { s with heap := s.heap.push { cls := .type "set", dict := none, data := .set #[] 0 (.fresh 0 0 (!w.params.followText "set-order")) } }) ⟨rfl, rfl⟩) fun r s₁ hr => ?_
  cases r with
  | error e => exact hr
  | ok fl =>
    cases fl with
    | ret obj =>
      obtain ⟨rfl, rfl⟩ := hr
      have hS : (s.heap.push { cls := .type "set", dict := none, data := .set #[] 0 (.fresh 0 0 (!w.params.followText "set-order")) }).get? s.heap.objs.size = some { cls := .type "set", dict := none, data := .set #[] 0 (.fresh 0 0 (!w.params.followText "set-order")) } := Heap.get?_push_size _ rfl
      have hT : Shared.TypeIs { s with heap := s.heap.push { cls := .type "set", dict := none, data := .set #[] 0 (.fresh 0 0 (!w.params.followText "set-order")) } } (.ref s.heap.objs.size) "set" := ⟨_, hS, rfl⟩
      have hli := F.called_set.init.lookup
      have hbi := F.called_set.init.bind (.ref s.heap.objs.size)
      repeat (any_goals (first | assumption | wp_step))
      refine codeAny_mono (codeAny_call_builtin (R := wants (fun r s₂ => r = .none ∧ ∃ h' tk c, s₂ = { s with heap := h', toks := tk } ∧ SetR w h' s.heap.objs.size (fun j => decide (j ∈ ns)) c ∧ c ≤ ns.length ∧
          (∀ b o, s.heap.get? b = some o → h'.get? b = some o)) E) F.called_set.init.plain F.entry_set_init (check_set_init_1 hT ?_)) fun r₂ s₂ hr₂ => ?_
      · obtain ⟨ol, hol, hcl, nl, hdl⟩ := hl
        obtain ⟨ocls, odict, odata, oslots⟩ := ol
        simp only at hcl hdl
        subst hcl; subst hdl
        have hol' : (s.heap.push { cls := .type "set", dict := none, data := .set #[] 0 (.fresh 0 0 (!w.params.followText "set-order")) }).get? l = some { cls := .type "list", dict := odict, data := .seq items nl, slots := oslots } := Heap.get?_push_of_some _ hol
        have hsls := F.sub_list_set
        have hslf := F.sub_list_frozenset
        have hne : (Value.type "list" == Value.type "dict") = false := by decide
        have hl1 : (s.heap.push { cls := .type "set", dict := none, data := .set #[] 0 (.fresh 0 0 (!w.params.followText "set-order")) }).IsList l items := ⟨_, hol', rfl, nl, rfl⟩
        unfold Builtin.«set.__init__» noKeywords Builtin.Frozenset.updateFrom
        generalize hPI : pyIter = PI
        wp_walk
        subst hPI
        refine wpAny_pyIter_list hl1 ?_
        refine wpAny_bind (wpAny_runValue ?_)
        have hlS : l < s.heap.objs.size := Heap.lt_size hol
        have hh3 : A.in1.in1.in1.handled = none := by simp [hh]
        have hz1 : (s.heap.push { cls := .type "set", dict := none, data := .set #[] 0 (.fresh 0 0 (!w.params.followText "set-order")) }).objs.size = s.heap.objs.size + 1 := Heap.size_push ..
        have hneI : l ≠ (s.heap.push { cls := .type "set", dict := none, data := .set #[] 0 (.fresh 0 0 (!w.params.followText "set-order")) }).objs.size := by
          rw [Heap.size_push]; exact Nat.ne_of_lt (Nat.lt_succ_of_lt hlS)
        have hSf : s.heap.objs.size ∉ [(s.heap.push { cls := .type "set", dict := none, data := .set #[] 0 (.fresh 0 0 (!w.params.followText "set-order")) }).objs.size, l] := by
          rw [Heap.size_push]; simp only [List.mem_cons, List.mem_singleton, List.not_mem_nil, or_false, not_or]
          exact ⟨Nat.ne_of_lt (Nat.lt_succ_self _), Nat.ne_of_gt hlS⟩
        have hval : ∀ (i : Nat) (v : Value), items[i]? = some v → ∃ k t, ns[i]? = some k ∧ v = .int k t := fun i v hv => by
          have hi : i < ns.length := by rw [← hisz]; exact (Array.getElem?_eq_some_iff.mp hv).1
          obtain ⟨t, e⟩ := PyProof.Rows.IntsAre.int_at hit i v (by rw [Array.getElem?_toList]; exact hv)
          refine ⟨ns[i], t, List.getElem?_eq_getElem hi, ?_⟩
          rw [e, List.getD_eq_getElem?_getD, List.getElem?_eq_getElem hi] <;> rfl
        refine set_update_ints ((Walks.list hh3 _ l hneI items).toS) s.heap.objs.size
          hSf ns hisz hb hval (items.size - 0) 0 _ (by omega) (Nat.zero_le _)
          ⟨⟨_, Heap.get?_push_size _ rfl, rfl, rfl⟩, (hl1.push _)⟩ ?hS0 ?hR
        case hS0 =>
          have hget : ((s.heap.push { cls := .type "set", dict := none, data := .set #[] 0 (.fresh 0 0 (!w.params.followText "set-order")) }).push { cls := .type "list_iterator", data := .fields #[.ref l, .int 0 0] }).get? s.heap.objs.size
              = some { cls := .type "set", dict := none, data := .set #[] 0 (.fresh 0 0 (!w.params.followText "set-order")) } := Heap.get?_push_of_some _ hS
          exact ⟨0, Nat.le_refl 0, setR_new_at hget⟩
        case hR =>
          intro s' c' hm hc' hS'
          obtain ⟨h', g2, d', tk', os'⟩ := s'
          have eg : g2 = s.gens := hm.gens
          have ed : d' = s.drawn := hm.drawn
          have eo : os' = s.os := hm.os
          subst eg; subst ed; subst eo
          show wpAny _ _ _ _ _ _
          refine wpAny_pure ?_
          show wpAny _ _ (ret Value.none) _ _ _
          rw [hisz] at hc'
          refine wpAny_pure ⟨rfl, h', tk', c', rfl, hS', hc', fun b o e => ?_⟩
          have hb0 : b < s.heap.objs.size := Heap.lt_size e
          have hb1 : b ≠ s.heap.objs.size := Nat.ne_of_lt hb0
          have hb2 : b ≠ (s.heap.push { cls := .type "set", dict := none, data := .set #[] 0 (.fresh 0 0 (!w.params.followText "set-order")) }).objs.size := by
            rw [Heap.size_push]; exact Nat.ne_of_lt (Nat.lt_succ_of_lt hb0)
          exact hm.heap b o (by simp only [List.mem_cons, List.mem_singleton, List.not_mem_nil, or_false, not_or]; exact ⟨hb1, hb2⟩) (Heap.get?_push_of_some _ (Heap.get?_push_of_some _ e))
      · cases r₂ with
        | error e => exact hr₂
        | ok fl₂ =>
          cases fl₂ with
          | ret r =>
            obtain ⟨rfl, h', tk, c', rfl, hS', hc', hk'⟩ := hr₂
            repeat (any_goals (first | assumption | wp_step))
            exact h _ _ _ hS' hc' hk'
          | _ => exact hr₂.elim
    | _ => exact hr.elim
end
end DL
set_option Elab.async false
set_option linter.all false
set_option maxRecDepth 100000
set_option maxHeartbeats 4000000
namespace DL
open PySem PySem.Spec PyProof.Rows L2
end DL
set_option Elab.async false
set_option linter.all false
set_option maxRecDepth 100000
set_option maxHeartbeats 4000000
namespace DL
open PySem L2 PyProof PyProof.Rows
section
variable {X : Cx} {W : WX} {m : Nat → Bool} {a b c e : Expr} {es : List Expr} {ta tb tc te : DTE} {pos p : Pos} {x : Str}
def sNever : DTS := fun _ _ => False
theorem ds_never {st : Stmt} : DS X W m st sNever := ⟨fun B σ0 => ⟨fun _ _ _ _ _ _ ⟨_, _, _, _, _, _, _, q⟩ => q.elim⟩, fun _ _ _ _ q => q.elim⟩
structure GK (K : PySem.W.Frag) (mg : Str → Option Value) (x : Str) (t : T) : Prop where
  out : ∃ (u : Value) (v : V), mg x = some u ∧ RelV v u ∧ ∀ (F : Addr → Prop) (H : Hp), OwnP K F H v t []
theorem GK.leaf {K : PySem.W.Frag} {mg : Str → Option Value} {u : Value} (v : V) (g : mg x = some u) (r : RelV v u) : GK K mg x (.leaf v) := ⟨⟨u, v, g, r, fun _ _ => .leaf _⟩⟩
theorem GK.tup {K : PySem.W.Frag} {mg : Str → Option Value} {c : Addr} {vs : List V} {ts : List T} (g : mg x = some (.ref c)) (k : Konst K c vs .tup) (hz : KzOk vs) (h : ∀ (F : Addr → Prop) (H : Hp), OwnL K F H vs ts []) : GK K mg x (.node false .tup ts) := ⟨⟨.ref c, .ref c, g, rfl, fun F H => .kz k hz (h F H)⟩⟩
def xG (t : T) : DTE := fun g Q _ => Q t g
theorem d_glob {t : T} (hg : Gl X x) (k : GK X.K X.mg x t) (hd : (x == ("__debug__" : Str)) = false := by decide) : DE X W (.Name x pos) (xG t) := by
  obtain ⟨u, v, hm, hr, ho⟩ := k.out
  refine ⟨fun B => PE.imp (pe_glob hg hm hr hd) fun σ H Q ⟨Φ, lim, g, E, r, hx, q⟩ => ?_, fun g Q Q' E E' hq he q => hq _ _ q⟩
  refine q v H ?_
  obtain ⟨F, zs, fp, en, o, f, hl⟩ := r
  have o' : OwnZ X.K F H ((v, t) :: (zs ++ Φ)) ([] ++ fp) := OwnZ.cons (ho F H) o
  exact rep_items (ds := []) en o' f hl List.perm_middle.symm
def CDivS (_ j : Int) : Prop := j ≠ 0 ∧ j.natAbs.log2 < 9000
theorem op_fdivS : OpR X (binaryOp .FloorDiv) (rI CDivS fun i j => .int (i.fdiv j)) := opI fun i j _ _ _ _ _ hc q => floordiv_int hc.1 q (.inl (PyProof.noPylong_of_log2 hc.2))
abbrev oDivS : R2T := rtI CDivS fun i j => .int (i.fdiv j)
theorem d_divS (ha : DE X W a ta) (hb : DE X W b tb) : DE X W (.BinOp a .FloorDiv b pos) (xOp oDivS ta tb) := d_op2 op_fdivS (op2_I fun _ _ z => z) ha hb
end
end DL
set_option Elab.async false
set_option linter.all false
set_option maxRecDepth 100000
set_option maxHeartbeats 4000000
namespace DL
open PySem L2 PySem.NumText
abbrev pairT (i j : Int) : List T := [.leaf (.int i), .leaf (.int j)]
theorem eq_pair {neg : Bool} {o p : Bool} {i j k l : Int} {Q : T → Prop} (q : Q (.leaf (.bl (if neg then !decide (i = k ∧ j = l) else decide (i = k ∧ j = l))))) : rtEq neg (.node o .tup (pairT i j)) (.node p .tup (pairT k l)) Q := by
  refine ⟨.tuple [.int i, .int j], .tuple [.int k, .int l], rfl, rfl, rfl, rfl, ?_⟩
  have e : PyData.eqv (.tuple [.int i, .int j]) (.tuple [.int k, .int l]) = decide (i = k ∧ j = l) := by
    simp only [PyData.eqv, PyData.eqvAll, Bool.and_true, Bool.decide_and]
    congr 1
  rw [e]
  exact q
end DL
set_option Elab.async false
set_option linter.all false
set_option maxRecDepth 100000
set_option maxHeartbeats 4000000
namespace DL
open PySem L2
end DL
set_option Elab.async false
set_option linter.all false
set_option maxRecDepth 100000
set_option maxHeartbeats 4000000
namespace DL
open PySem L2
theorem frame_in {K : PySem.W.Frag} {B : Bs} {lim : List Addr} {σ : St} {H : Hp} {g : Ev} {Φ : Its} (r : RepG K B lim σ H g Φ) :
    ∃ B', RepG K B' [] σ H g [] ∧ ∀ σ' H' g' Ψ, RepG K B' [] σ' H' g' Ψ → RepG K B lim σ' H' g' (Ψ ++ Φ) := by
  obtain ⟨F, zs, fp, en, o, f, hl⟩ := r
  obtain ⟨f1, f2, rfl, o1, o2⟩ := o.split
  refine ⟨⟨H, F, f1⟩, ⟨F, zs, f1, en, by rw [List.append_nil]; exact o1, ?_, fun _ z => nomatch z⟩, fun σ' H' g' Ψ r' => ?_⟩
  · have nd := (List.nodup_append.mp (List.nodup_append.mp f.nd).2.1).1
    exact ⟨nd, fun a z => f.off a (List.mem_append_right _ (List.mem_append_left _ z)), f.trk, fun _ z => z, fun _ _ z _ => z, fun _ z => .inl z, fun _ z => .inl z, fun _ _ e => e⟩
  · obtain ⟨F', zs', fp', en', o', fn, _⟩ := r'
    have r2 := call_frame (B := B) (lim := lim) (σ := []) (g := []) (zs := []) (Φ := Φ) .nil (show OwnZ K F H ([] ++ Φ) f2 from o2) f hl o' fn
    obtain ⟨F2, zs2, fp2, en2, oz2, f2', hl2⟩ := r2
    cases en2
    refine rep_items (ds := []) en' oz2 f2' hl2 ?_
    rw [List.nil_append, List.nil_append, List.append_assoc]
def subN (n m : Nat) : Bool := m == 0 || n == m
theorem Le.rf (D : DEnds) : DEnds.Le D D := ⟨fun _ z => z, fun _ _ z => z, fun _ _ _ z => z, fun _ z => z, fun _ z => z⟩
theorem Le.tr {D D' D2 : DEnds} (h : D.Le D') (h' : D'.Le D2) : D.Le D2 := ⟨fun _ z => h'.nx _ (h.nx _ z), fun _ _ z => h'.rt _ _ (h.rt _ _ z), fun _ _ _ z => h'.ex _ _ _ (h.ex _ _ _ z), fun _ z => h'.bk _ (h.bk _ z), fun _ z => h'.ct _ (h.ct _ z)⟩
def upc (t : DTS) : DTS := fun D g => ∃ D0, DEnds.Le D0 D ∧ t D0 g
theorem upc_mono {t : DTS} {D D' : DEnds} {g : Ev} (h : D.Le D') : upc t D g → upc t D' g := fun ⟨D0, h0, q⟩ => ⟨D0, Le.tr h0 h, q⟩
def sTry (m : Nat) (tb : DTS) (ts : DTS) : DTS := fun D g =>
  upc tb { D with ex := fun x fs g' => ∃ n, x = cxN n ∧ ifB (subN n m) (upc ts { D with ex := noX } g') (D.ex x fs g') } g
def symOf (mg : Str → Option Value) (W : WX) : WX := fun x d σ H => ∀ c, sym mg x c → W c d σ H
theorem up_sym {mg : Str → Option Value} {W : WX} : ∀ c d σ H, upW mg (symOf mg W) c d σ H → W c d σ H := fun c d σ H ⟨x, hs, w⟩ => w c hs
section
variable {X : Cx} {W : WX} {m : Nat → Bool} {x n : Str} {c : Value} {i k k' : Nat} {body suite : List Stmt} {b₀ : Stmt} {np pos pos' p p2 p3 : Pos} {tb : DTS}
theorem tryK {K : PySem.W.Frag} {B B' : Bs} {m : Nat → Bool} {σ0 : St} {lim : List Addr} {Φ : Its} {D : Ends} {E E' : XP}
    (back : ∀ σ' H' g' Ψ, RepG K B' [] σ' H' g' Ψ → RepG K B lim σ' H' g' (Ψ ++ Φ)) : DEnds.Le { low K B m σ0 lim Φ D E with ex := E' } (low K B' m σ0 [] [] D E') :=
  ⟨fun g q σ' H' r hk => q σ' H' (by have := back _ _ _ _ r; exact this) hk, fun τ g q v σ' H' r hk => q v σ' H' (back _ _ _ _ r).ret hk, fun _ _ _ z => z,
   fun g q σ' H' r hk => q σ' H' (by have := back _ _ _ _ r; exact this) hk, fun g q σ' H' r hk => q σ' H' (by have := back _ _ _ _ r; exact this) hk⟩
theorem ds_try {ts : DTS} (hs : X.stack = X.env :: X.outer) (hf : X.env.frame = some X.env.locals) (hc : Names X x c) (tk : Takes X (upW X.mg W))
    (hex : ∀ n cv, X.mg (ckN n) = some cv → PySem.W.exmOne X.K cv c = some (subN n k))
    (hb : ∀ (W' : WX) (pn : List (Addr × Obj)) (xe : Value → Shared → Prop), Takes (X.tr pn xe) (upW X.mg W') → PassesOwn (model X.prog X.w) X.A X.env xe → DSs (X.tr pn xe) W' m body tb)
    (hsu : ∀ (a : Addr) (oe : Obj) (pn : List (Addr × Obj)), (∃ vs, oe.data = .fields vs) → DSs (X.suite a ((a, oe) :: pn)) W0 m (b₀ :: suite) ts) :
    DS X W m (.Try body [.ExceptHandler (some (.Name x np)) none (b₀ :: suite) pos'] [] [] pos) (sTry k tb ts) := by
  refine .mk' (fun B σ0 => ps_try_only (tb := fun Wr => fun D σ H => ∃ (B' : Bs) (σ1 : St), liftS X.K B' (symOf X.mg Wr) m σ1 (upc tb) D σ H) (ts := fun a cls d => fun D σ H => ∃ (B' : Bs) (σ1 : St), liftS X.K B' W0 m σ1 (upc ts) D σ H)
    (Wout := upW X.mg W) hs hf hc tk (fun Wr pn xe tk' po => ?_) (fun a oe cls d pn hz hd => ?_)) (fun B σ0 D σ H Φ lim g E r hk hX q => ?_) fun D D' g h q => ?_
  · refine ⟨fun pins s σ H D I ⟨B', σ1, Φ, lim, g, E, r, hk, hX, D0, hle, h⟩ => ?_⟩
    have hd := hb (symOf X.mg Wr) pn xe (tk'.imp up_sym) po
    exact (hd.run B' σ1).run pins s σ H D I ⟨Φ, lim, g, E, r, hk, hX, hd.mono _ _ _ hle h⟩
  · refine ⟨fun pins s σ H D I ⟨B', σ1, Φ, lim, g, E, r, hk, hX, D0, hle, h⟩ => ?_⟩
    have hdd := hsu a oe pn hd
    exact (hdd.run B' σ1).run pins s σ H D I ⟨Φ, lim, g, E, r, hk, hX, hdd.mono _ _ _ hle h⟩
  · obtain ⟨B', r', back⟩ := frame_in r
    refine ⟨B', σ0, [], [], g, _, r', hk, ?_, upc_mono (tryK back) q⟩
    intro σ' hk' cx fs g' d H' r2 xd q2 cv hcv
    obtain ⟨n, rfl, q2⟩ := q2
    obtain ⟨n', e, hmg⟩ := hcv
    have e' : n = n' := by
      injection e with e1 e2
      exact Int.ofNat.inj e1
    subst e'
    refine ⟨_, hex n cv hmg, fun hb1 a na => ?_, fun hb0 => ?_⟩
    · rw [hb1] at q2
      refine ⟨B, σ0, Φ, lim, _, noX, back _ _ _ [] r2, hk', fun _ _ => liftX0, upc_mono ?_ q2⟩
      exact ⟨fun _ z => z, fun _ _ z => z, fun _ _ _ z => z, fun _ z => z, fun _ z => z⟩
    · rw [hb0] at q2
      exact ⟨cxN n, ⟨n, rfl, hmg⟩, hX σ' hk' _ _ _ _ _ (back _ _ _ [] r2).only xd q2⟩
  · unfold sTry at q ⊢
    refine upc_mono ?_ q
    refine ⟨h.nx, h.rt, fun x fs g' hq => ?_, h.bk, h.ct⟩
    obtain ⟨n, e, q⟩ := hq
    refine ⟨n, e, ifB_mono (fun q3 => ?_) (h.ex _ _ _) q⟩
    refine upc_mono ?_ q3
    exact ⟨h.nx, h.rt, fun _ _ _ z => z, h.bk, h.ct⟩
end
theorem subN_big {n m : Nat} (hn : 20 ≤ n) (hm : m < 20) : subN n m = subN 0 m := by
  unfold subN
  have h1 : (n == m) = false := by
    rw [beq_eq_false_iff_ne]
    omega
  rw [h1]
  cases m with
  | zero => rfl
  | succ m => rfl
theorem excC_of {K : PySem.W.Frag} {C : Addr} (ga : PySem.W.findIn K (.ref C) "__getattribute__" = some (some (.builtin "BaseException.__getattribute__"))) (gg : PySem.W.findIn K (.ref C) "__getattr__" = some none) (e : PySem.W.subIn K (.ref C) (.type "BaseException") = some true) (h : PySem.W.hasDictIn K C = true)
    (ca : PySem.W.findIn K (.ref C) "__class__" = some (some (.builtin "object.__class__"))) (mo : PySem.W.mroIn K C (.type "object") = some true) (sn : PySem.W.specialIn K (.builtin "object.__class__") "__get__" = some (some (.builtin "getset_descriptor.__get__"))) (tk : PySem.W.takesIn K (.builtin "object.__class__") = some true) : ExcC K C := ⟨ga, gg, e, h, ca, sn, tk, mo⟩
theorem excV_of {K : PySem.W.Frag} {C : Addr} (ex : ExcC K C) (h1 : PySem.W.subIn K (.ref C) (.type "int") = some false) (h2 : PySem.W.subIn K (.ref C) (.type "bool") = some false) (h3 : PySem.W.subIn K (.ref C) (.type "str") = some false) (h4 : PySem.W.subIn K (.ref C) (.type "list") = some false)
    (h5 : PySem.W.subIn K (.ref C) (.type "tuple") = some false) (h6 : PySem.W.subIn K (.ref C) (.type "dict") = some false) : ExcV K C := by
  have key : ∀ c : String, PySem.W.kitMeta c = true → PySem.W.subIn K (.ref C) (.type c) = some false → PySem.W.kitOne K (.ref C) (.type c) = some false := fun c hm hs => by
    have e0 : (Value.ref C == Value.type c) = false := by
      rw [beq_eq_false_iff_ne]
      intro z
      cases z
    unfold PySem.W.kitOne PySem.W.kitCls
    rw [if_neg (by rw [e0]; exact Bool.false_ne_true)]
    show (if PySem.W.kitMeta c = true then _ else _) = _
    rw [if_pos hm]
    exact hs
  refine ⟨ex, fun c hc => ?_⟩
  simp only [List.mem_cons, List.not_mem_nil, or_false] at hc
  rcases hc with rfl | rfl | rfl | rfl | rfl | rfl
  · exact key _ (by decide +kernel) h1
  · exact key _ (by decide +kernel) h2
  · exact key _ (by decide +kernel) h3
  · exact key _ (by decide +kernel) h4
  · exact key _ (by decide +kernel) h5
  · exact key _ (by decide +kernel) h6
theorem kit_cls {K : PySem.W.Frag} {D C : Addr} {b : Bool} (hd : PySem.W.hasDictIn K C = true) (ht : PySem.W.typeIn K (.ref C) = some (.type "type")) (hs : PySem.W.subIn K (.ref D) (.ref C) = some b) (self : PySem.W.subIn K (.ref C) (.ref C) = some true) : PySem.W.kitOne K (.ref D) (.ref C) = some b := by
  unfold PySem.W.kitOne
  by_cases e : D = C
  · subst e
    rw [self] at hs
    rw [if_pos (beq_self_eq_true _)]
    exact hs
  · have e0 : (Value.ref D == Value.ref C) = false := by
      rw [beq_eq_false_iff_ne]
      intro z
      cases z
      exact e rfl
    rw [if_neg (by rw [e0]; exact Bool.false_ne_true)]
    obtain ⟨cd, hc, _⟩ := PySem.W.any_some hd
    have e2 : ((PySem.W.clsIn K C).isSome && PySem.W.typeIn K (.ref C) == some (.type "type")) = true := by rw [hc, ht] <;> rfl
    show (if ((PySem.W.clsIn K C).isSome && PySem.W.typeIn K (.ref C) == some (.type "type")) = true then PySem.W.subIn K (.ref D) (.ref C) else none) = some b
    rw [if_pos e2]
    exact hs
end DL
set_option Elab.async false
set_option linter.all false
set_option maxRecDepth 100000
set_option maxHeartbeats 4000000
namespace DL
open PySem L2 PyProof.Rows
section
variable {X : Cx} {W : WX} {x : Str} {pos p1 p2 : Pos} {K : PySem.W.Frag}
def xDict0 : DTE := fun g Q _ => Q (.node true (.dK []) []) g
theorem d_dict0 : DE X W (.Dict [] [] pos) xDict0 := by
  refine ⟨fun B => PE.imp pe_dnewK fun σ H Q ⟨Φ, lim, g, E, r, hx, q⟩ => ?_, fun g Q Q' E E' hq hE q => hq _ _ q⟩
  exact fun d hd => q _ _ (make_of (.dK []) (vs := []) (τs := []) rfl r hd)
def keyD : Key → PyData
  | .inl i => .int i
  | .inr x => .str x
def flatD : V → Option PyData
  | .non => some .none
  | .bl b => some (.bool b)
  | .int i => some (.int i)
  | .str x => some (.str x)
  | _ => none
def flatDs : List (Key × V) → Option (List (PyData × PyData))
  | [] => some []
  | (k, v) :: r => match flatD v with
    | some d => (flatDs r).map ((keyD k, d) :: ·)
    | none => none
theorem flatD_reads {h : Heap} {v : V} {u : Value} {d : PyData} (e : flatD v = some d) (r : RelV v u) : Reads h u d [] := by
  cases v <;> simp only [flatD, Option.some.injEq, reduceCtorEq] at e
  · subst e
    cases (show u = Value.none from r)
    exact .none
  · subst e
    cases (show u = Value.bool _ from r)
    exact .bool _
  · subst e
    obtain ⟨t, rfl⟩ := (show ∃ t, u = Value.int _ t from r)
    exact .int _ _
  · subst e
    obtain ⟨t, rfl⟩ := (show ∃ t, u = Value.str _ t from r)
    exact .str _ _
theorem flatDs_reads {P : Program} {w : World} {h : Heap} : ∀ {kvs : List (Key × V)} {ds : List (PyData × PyData)} {vs : List (Key × Value)} {es : List DictEntry}, flatDs kvs = some ds → KV kvs vs → Pairs (mixKind P w) es vs →
    ReadsAll h (es.map (·.key)) (ds.map (·.1)) [] ∧ ReadsAll h (es.map (·.val)) (ds.map (·.2)) []
  | [], ds, vs, es, e, kv, p => by
    cases kv
    cases p
    simp only [flatDs, Option.some.injEq] at e
    subst e
    exact ⟨.nil, .nil⟩
  | (k, v) :: r, ds, vs, es, e, kv, p => by
    cases kv with
    | cons hk hr =>
      cases p with
      | cons pk pv pr =>
        simp only [flatDs] at e
        cases q : flatD v with
        | none => rw [q] at e; cases e
        | some d =>
          rw [q] at e
          cases q2 : flatDs r with
          | none => rw [q2] at e; cases e
          | some ds' =>
            rw [q2] at e
            cases e
            obtain ⟨i1, i2⟩ := flatDs_reads (h := h) q2 hr pr
            obtain ⟨h1, h2⟩ := hk
            refine ⟨.cons (as := []) (bs := []) ?_ i1, .cons (as := []) (bs := []) (flatD_reads q (by dsimp only; rw [pv]; exact h2)) i2⟩
            dsimp only
            rw [mixKind_is] at pk
            rcases keyIs_shape pk with ⟨i, t, e1, e2⟩ | ⟨y, t, e1, e2⟩
            · have : k = .inl i := by rw [← e1]; exact h1
              rw [e2, this]
              exact .int _ _
            · have : k = .inr y := by rw [← e1]; exact h1
              rw [e2, this]
              exact .str _ _
def rReprK : List V → Hp → VK → Prop := fun xs H Q => ∃ (a : Addr) (kvs : List (Key × V)) (ds : List (PyData × PyData)), xs = [.ref a] ∧ H a = some (.dK kvs) ∧ flatDs kvs = some ds ∧ (PyData.dict ds).showable = true ∧ (PyData.dict ds).depth ≤ 60 ∧ (PyData.dict ds).shown.length ≤ sizeLine ∧ Q (.str (PyData.dict ds).shown) H
theorem call_reprK (hgd : X.A.guards = some []) (hu : X.A.units + 64 < cLine) : CallR X (.builtin "repr") (fun xs H Q => rRepr X.K xs H Q ∨ rReprK xs H Q) := by
  intro pins s σ H xs us Q I r h
  rcases h with h | ⟨a, kvs, ds, rfl, ha, hf, hs, hdep, hsz, q⟩
  · exact call_reprD hgd hu pins s σ H xs us Q I r h
  · obtain ⟨u, rfl, ru⟩ := Vals.one r
    cases (show u = Value.ref a from ru)
    obtain ⟨hl, hsm, vs, kv, o, es, ep, ho, hx, hd, hko, hp, hnd⟩ := I.hok a _ ha
    obtain ⟨r1, r2⟩ := flatDs_reads (h := s.heap) hf kv hp
    have rd : Reads s.heap (.ref a) (.dict ds) (a :: [] ++ []) := .dict ho hx.1 hd r1 r2
    refine repr_of_reads' rd hs (fun _ hm => ?_) hgd (by omega) (fun _ _ z => z) (fun h' u tk k => ⟨.str _, H, I.kept k, ⟨u, rfl⟩, q⟩) hsz
    have : sysModules = a := by simpa using hm
    rw [← this, beq_self_eq_true] at hsm
    cases hsm
def flatT : List T → Option (List V)
  | [] => some []
  | .leaf v :: r => (flatT r).map (v :: ·)
  | _ :: _ => none
theorem flatT_eq : ∀ {ts : List T} {vs : List V}, flatT ts = some vs → ts = vs.map .leaf
  | [], vs, e => by
    simp only [flatT, Option.some.injEq] at e
    subst e
    rfl
  | t :: r, vs, e => by
    cases t with
    | leaf v =>
      simp only [flatT] at e
      cases q : flatT r with
      | none => rw [q] at e; cases e
      | some ws =>
        rw [q] at e
        cases e
        rw [flatT_eq q]
        rfl
    | node _ _ _ => simp [flatT] at e
    | pin _ _ => simp [flatT] at e
def ReprS (τ : T) (s : Str) : Prop := (∃ d, toP τ = some d ∧ d.showable = true ∧ d.hasDict = false ∧ d.depth ≤ 60 ∧ d.shown.length ≤ sizeLine ∧ s = d.shown) ∨
  ∃ o ks ts vs ds, τ = .node o (.dK ks) ts ∧ flatT ts = some vs ∧ flatDs (ks.zip vs) = some ds ∧ (PyData.dict ds).showable = true ∧ (PyData.dict ds).depth ≤ 60 ∧ (PyData.dict ds).shown.length ≤ sizeLine ∧ s = (PyData.dict ds).shown
theorem ReprS.of {τ : T} {d : PyData} (h : toP τ = some d) (g : GoodD d) : ReprS τ d.shown := .inl ⟨d, h, g.show, g.nodict, g.dp, g.len, rfl⟩
def rnRepr2 : RNT := fun τs Q => match τs with
  | [τ] => ∃ s, ReprS τ s ∧ Q (.leaf (.str s))
  | _ => False
theorem n_repr2 (hgd : X.A.guards = some []) (hu : X.A.units + 64 < cLine) : CallN X (.builtin "repr") (fun xs H Q => rRepr X.K xs H Q ∨ rReprK xs H Q) rnRepr2 := by
  refine ⟨call_reprK hgd hu, fun B lim σ H g Φ vs τs Q hl r q => ?_, fun τs Q Q' h q => ?_⟩
  · unfold rnRepr2 at q
    split at q
    · rename_i τ
      obtain ⟨s, hs, q⟩ := q
      rcases hs with ⟨d, h1, h2, h3, h4, h5, rfl⟩ | ⟨o, ks, ts, ws, ds, rfl, h1, h2, h3, h4, h5, rfl⟩
      · exact .inl ((n_repr hgd hu).2.1 B lim σ H g Φ vs [τ] Q hl r ⟨d, h1, h2, h3, h4, h5, q⟩)
      match vs, hl with
      | [v], _ =>
        have r2 : RepG X.K B lim σ H g ((v, .node o (.dK ks) ts) :: Φ) := r
        have e := flatT_eq h1
        subst e
        obtain ⟨a, us, rfl, hl2, ha, hu⟩ : ∃ a us, v = .ref a ∧ us.length = (ws.map T.leaf).length ∧ H a = some (.dK (ks.zip us)) ∧ us = ws := by
          obtain ⟨F, zs, fp, en, oz, f, hl⟩ := r2
          obtain ⟨fp', pf, o'⟩ := oz.perm (List.perm_middle (a := (v, T.node o (.dK ks) (ws.map .leaf))))
          obtain ⟨f1, f2, rfl, p1, o2⟩ := OwnZ.uncons (zs := zs ++ Φ) o'
          have flat : ∀ {F : Addr → Prop} {us : List V} {ws : List V} {fp : List Addr}, OwnL X.K F H us (ws.map .leaf) fp → us = ws := by
            intro F us ws
            induction ws generalizing us with
            | nil => intro fp h; cases h; rfl
            | cons w ws ih =>
              intro fp h
              cases h with
              | cons h1 h2 =>
                cases h1
                rw [ih h2]
          cases p1 with
          | fz hf hr hk => exact ⟨_, _, rfl, hk.length, hr, flat hk⟩
          | own hr hk => exact ⟨_, _, rfl, hk.length, hr, flat hk⟩
        subst hu
        exact .inr ⟨a, _, ds, rfl, ha, h2, h3, h4, h5, q _ _ r2.dropT.addLeaf⟩
    · exact q.elim
  · unfold rnRepr2 at q ⊢
    split at q
    · obtain ⟨s, hs, q⟩ := q
      exact ⟨s, hs, h _ q⟩
    · exact q.elim
end
theorem nr_none {g : Ev} {bs : List (Option Nat)} {us : List T} : restore g (none :: bs) us = restore g bs us := rfl
theorem nr_some {g : Ev} {j : Nat} {bs : List (Option Nat)} {u : T} {us : List T} : restore g (some j :: bs) (u :: us) = restore (g.set j (some u)) bs us := rfl
theorem nr_nil {g : Ev} {us : List T} : restore g [] us = g := rfl
theorem nf_leaf {v : V} : frz (.leaf v) = .leaf v := rfl
theorem nf_pin {s : Sh} {vs : List V} : frz (.pin s vs) = .pin s vs := rfl
theorem nf_node {o : Bool} {s : Sh} {ts : List T} : frz (.node o s ts) = .node false s (frzL ts) := rfl
theorem nf_nil : frzL [] = [] := rfl
theorem nf_cons {t : T} {ts : List T} : frzL (t :: ts) = frz t :: frzL ts := rfl
theorem ni_f {α : Type} {a b : α} : (if false = true then a else b) = b := rfl
theorem ni_t {α : Type} {a b : α} : (if true = true then a else b) = a := rfl
theorem nw_nil {g : Ev} : wipeE g [] = g := rfl
theorem nw_cons {g : Ev} {i : Nat} {is : List Nat} : wipeE g (i :: is) = (wipeE g is).set i none := rfl
theorem ns_0 {a b : Option T} {g : Ev} : List.set (a :: g) 0 b = b :: g := rfl
theorem ns_s {a b : Option T} {g : Ev} {n : Nat} : List.set (a :: g) (n + 1) b = a :: List.set g n b := rfl
theorem frz_nf (s : Sh) (ts : List T) : frz (.node false s (frzL ts)) = .node false s (frzL ts) := by
  rw [nf_node, frzL_frzL]
theorem ne_c {n : Nat} {t : T} {ts : List T} : startE (n + 1) (t :: ts) = some t :: startE n ts := by simp [startE]
theorem ne_n {n : Nat} : startE (n + 1) [] = none :: startE n [] := by simp [startE, List.replicate_succ]
theorem ne_0 : startE 0 [] = [] := rfl
theorem np_t {bs : List Bool} {t : T} {ts : List T} : frzP (true :: bs) (t :: ts) = t :: frzP bs ts := rfl
theorem np_f {bs : List Bool} {t : T} {ts : List T} : frzP (false :: bs) (t :: ts) = frz t :: frzP bs ts := rfl
theorem np_n {ts : List T} : frzP [] ts = ts := rfl
end DL
set_option Elab.async false
set_option linter.all false
set_option maxRecDepth 100000
set_option maxHeartbeats 4000000
namespace DL
open PySem L2
section
variable {X : Cx} {W : WX} {m : Nat → Bool} {e : Expr} {te t1 t2 : DTE} {pos : Pos}
theorem RepG.frzIf {K : PySem.W.Frag} {B : Bs} {lim : List Addr} {σ : St} {H : Hp} {g : Ev} {Φ : Its} {v : V} {t : T} (o : Bool) (h : RepG K B lim σ H g ((v, t) :: Φ)) : RepG K B lim σ H g ((v, if o = true then t else frz t) :: Φ) := by
  cases o with
  | true => exact h
  | false => exact h.freezeT
def sParO (oi oj : Bool) (i j : Nat) (t : DTA) : DTS := fun D g => t g (fun τs g1 => match τs with
  | [x, y] => D.nx ((g1.set i (some (if oi = true then x else frz x))).set j (some (if oj = true then y else frz y)))
  | _ => False) D.ex
theorem ds_parO (oi oj : Bool) {i j : Nat} {x y : Str} {a b : Expr} {t : DTA} {bs : List (Option Nat)} {px py pt : Pos} {kt k2 pt2} (hc : X.calm = true) (hN : X.N.Nodup) (hi : X.N[i]? = some x) (hj : X.N[j]? = some y) (hij : i ≠ j) (hmi : m i = false) (hmj : m j = false)
    (hx : X.env.scope.names.lookup x = some .local) (hy : X.env.scope.names.lookup y = some .local) (ha : DA X W [a, b] bs t)
    (hw : swappedStores [.Tuple [.Name x px, .Name y py] kt pt] (.Tuple [a, b] k2 pt2) X.env = pure (some [x, y]))
    (hs : swapsWithSole [.Tuple [.Name x px, .Name y py] kt pt] (.Tuple [a, b] k2 pt2) pos.line X.env = pure false := by rfl) :
    DS X W m (.Assign [.Tuple [.Name x px, .Name y py] kt pt] (.Tuple [a, b] k2 pt2) pos) (sParO oi oj i j t) := by
  refine .mk' (fun B σ0 => ps_par hc hN hi hj hij hx hy (ha.run B) hw hs) (fun B σ0 D σ H Φ lim g E r hk hX q => ?_) fun D D' g h q => ha.mono _ _ _ _ _ (fun τs g1 q1 => ?_) h.ex q
  · refine ⟨Φ, lim, g, E, r, hX σ hk, ha.mono _ _ _ _ _ (fun τs g1 q1 vs H1 hl _ r1 => ?_) (fun _ _ _ z => z) q⟩
    split at q1
    · rename_i x' y'
      obtain ⟨v, w, rfl⟩ : ∃ v w, vs = [v, w] := by
        match vs, hl with
        | [v, w], _ => exact ⟨v, w, rfl⟩
      refine ⟨v, w, rfl, q1 _ _ ?_ ((hk.set hmi).set hmj)⟩
      have r2 : RepG X.K B lim σ H1 g1 ((v, x') :: (w, y') :: Φ) := r1
      have r3 := ((r2.frzIf oi).perm (List.Perm.swap _ _ _)).frzIf oj
      exact (r3.perm (List.Perm.swap _ _ _)).put'.put'
    · exact q1.elim
  · split at q1
    · exact h.nx _ q1
    · exact q1.elim
def xIns (i : Nat) (t1 t2 : DTE) : DTE := fun g Q E => atSlot i g fun t0 => ownL t0 fun _ => t1 g (fun τ1 g1 => t2 g1 (fun τ2 g2 => isI τ1 fun k => atSlot i g2 fun t3 => ownL t3 fun ts => (ts.length < sizeLine ∧ 0 ≤ k ∧ k < 2 ^ 63) ∧ Q (.leaf .non) (g2.set i (some (.node true .lst (ts.take k.toNat ++ [τ2] ++ ts.drop k.toNat))))) E) E
theorem d_ins {o e1 e2 : Expr} {apos cpos : Pos} (i : Nat) (ho : PE X o (tVar i)) (h1 : DE X W e1 t1) (h2 : DE X W e2 t2) (hbase : attributeBase o "insert" X.env (eval o X.env) = eval o X.env := by rfl)
    (hfew : ((backTo cpos (starEach [e1, e2] X.env)).all (fun x => !x.1) && (backToKw cpos (keywordEach [] X.env)).all (fun x => x.1.isSome) && decide ([e1, e2].length + ([] : List Keyword).length + (if ([] : List Keyword).isEmpty then 0 else 1) < 30)) = true := by rfl)
    (hline : (apos.endLine == cpos.line) = true := by rfl) (hs : starEach [e1, e2] X.env = (false, eval e1 X.env) :: starEach [e2] X.env := by rfl) (hs2 : starEach [e2] X.env = (false, eval e2 X.env) :: starEach [] X.env := by rfl) (hplain : (backTo cpos (starEach [e2] X.env)).any (·.1) = false := by rfl) :
    DE X W (.Call (.Attribute o "insert" apos) [e1, e2] [] cpos) (xIns i t1 t2) := by
  refine ⟨fun B => PE.imp (pe_bm PySem.F.plainAttrs_list PySem.F.slot_list_insert PySem.F.type_list_insert mt_insert ho (pa_cons (h1.run B) (pa_cons (h2.run B) pa_nil hs2) hs) hbase hfew hline hs hplain) fun σ H Q ⟨Φ, lim, g, E, r, hx, q⟩ => ?_, fun g Q Q' E E' hq hE q => ?_⟩
  · obtain ⟨t0, h0, q⟩ := atSlot_of q
    obtain ⟨ts0, rfl, q⟩ := ownL_of q
    obtain ⟨ad, us, hv, hl, hH, _⟩ := r.renew (s' := .lst) h0
    refine ⟨.ref ad, hv, .inl ⟨rfl, us, SqL.of hH⟩, Φ, lim, g, E, r, hx, h1.mono _ _ _ _ _ (fun τ1 g1 q1 w1 H1 r1 => ?_) (fun _ _ _ z => z) q⟩
    refine ⟨(w1, τ1) :: Φ, lim, g1, E, r1, hx, h2.mono _ _ _ _ _ (fun τ2 g2 q2 w2 H2 r2 => ?_) (fun _ _ _ z => z) q1⟩
    obtain ⟨k, rfl, q2⟩ := isI_of q2
    obtain ⟨t3, h3, q2⟩ := atSlot_of q2
    obtain ⟨ts, rfl, ⟨hlt, k0, k1⟩, q2⟩ := ownL_of q2
    have r3 : RepG X.K B lim σ H2 g2 ((w1, .leaf (.int k)) :: (w2, τ2) :: Φ) := r2.perm (List.Perm.swap _ _ _)
    have ew := r3.leaf
    subst ew
    have r4 : RepG X.K B lim σ H2 g2 ((w2, τ2) :: Φ) := r3.dropT
    obtain ⟨ad2, us2, hv2, hl2, hH2, kk⟩ := r4.renew (s' := .lst) h3
    rw [hv] at hv2
    cases hv2
    refine ⟨ad, us2, k, w2, rfl, rfl, hH2, by omega, k0, k1, ?_⟩
    have hz : (us2.zip ts).length = us2.length := by rw [List.length_zip]; omega
    have r5 := kk ((us2.zip ts).take k.toNat ++ [(w2, τ2)] ++ (us2.zip ts).drop k.toNat) Φ (by
      have p1 : ((us2.zip ts).take k.toNat ++ [(w2, τ2)] ++ (us2.zip ts).drop k.toNat).Perm ((w2, τ2) :: us2.zip ts) := by
        rw [List.append_assoc, List.singleton_append]
        refine List.perm_middle.trans ?_
        rw [List.take_append_drop]
      have p2 := List.Perm.append_right Φ p1
      refine p2.trans ?_
      rw [List.cons_append]
      exact List.perm_middle.symm)
    have e1 : (((us2.zip ts).take k.toNat ++ [(w2, τ2)] ++ (us2.zip ts).drop k.toNat).map (·.1)) = us2.take k.toNat ++ [w2] ++ us2.drop k.toNat := by
      rw [List.map_append, List.map_append, List.map_take, List.map_drop, List.map_fst_zip (by omega)]
      rfl
    have e2 : (((us2.zip ts).take k.toNat ++ [(w2, τ2)] ++ (us2.zip ts).drop k.toNat).map (·.2)) = ts.take k.toNat ++ [τ2] ++ ts.drop k.toNat := by
      rw [List.map_append, List.map_append, List.map_take, List.map_drop, List.map_snd_zip (by omega)]
      rfl
    rw [e1, e2] at r5
    exact q2 _ _ r5.addLeaf
  · exact atSlot_mono (fun t0 q => ownL_mono (fun _ q => h1.mono _ _ _ _ _ (fun τ1 g1 q1 => h2.mono _ _ _ _ _ (fun τ2 g2 q2 => isI_mono (fun k q3 => atSlot_mono (fun t1 q4 => ownL_mono (fun ts q5 => ⟨q5.1, hq _ _ q5.2⟩) q4) q3) q2) hE q1) hE q) q) q
end
end DL
set_option Elab.async false
set_option linter.all false
set_option maxRecDepth 100000
set_option maxHeartbeats 4000000
namespace DL
open PySem L2 PySem.W
section
open PyProof.Rows SeqAt
def Sortable2 (ds : List PyData) : Prop := (∀ d, d ∈ ds → ∃ xs, d = .tuple xs) ∨ ∀ d, d ∈ ds → d ≠ .none ∧ ∀ xs, d ≠ .tuple xs
variable {prog : Program} {w : World} {A : Around} {E : Value → Shared → Prop} {s : Shared} {M : Model}
theorem kdl_general (x y : Value) : keyLt' general' x y = oneLt' false x y := rfl
theorem firsts_any : ∀ {vs : List Value} {ds : List PyData} {Q : List (Option Value) → Shared → Prop}, EachIs (fun v d => ∃ as, Reads s.heap v d as) vs ds → (∀ d, d ∈ ds → ∃ xs, d = .tuple xs) →
    (∀ os : List (Option Value), EachIs (fun (o : Option Value) d => o.isSome = true ↔ ∃ x r, d = .tuple (x :: r)) os ds → Q os s) → wpAny M A (vs.mapM firstOfTuple') Q E s
  | _, _, _, .nil, _, h => by
    rw [List.mapM_nil]
    exact wpAny_pure (h [] .nil)
  | _, _, Q, .cons (a := v) (b := d) (as := vs) ⟨as, r⟩ t, ht, h => by
    obtain ⟨xs, rfl⟩ := ht _ (List.mem_cons_self ..)
    rw [List.mapM_cons]
    refine wpAny_bind ?_
    rw [kas_first_eq]
    cases r with
    | @tuple l o its n _ _ ho hc hd hr =>
      refine wpAny_bind (Looks.here (show Looks M s.heap (typeOf (.ref l)) o.cls from (Looks.ld ho).andThen .now) ?_)
      rw [hc, if_neg (by first | decide | simp)]
      refine wpAny_bind (listItems_at ho hd (wpAny_pure ?_))
      refine wpAny_bind (firsts_any (Q := fun bs s' => wpAny M A (pure (its[0]? :: bs)) Q E s') t (fun d hd => ht d (List.mem_cons_of_mem _ hd)) fun os ho => wpAny_pure (h _ (.cons ⟨fun hs => ?_, fun hs => ?_⟩ ho)))
      · cases hr' : its.toList with
        | nil =>
          rw [← Array.getElem?_toList, hr'] at hs
          cases hs
        | cons f fr =>
          rw [hr'] at hr
          cases hr with
          | cons r1 r2 => exact ⟨_, _, rfl⟩
      · obtain ⟨x, r, e⟩ := hs
        cases e
        cases hr' : its.toList with
        | nil =>
          rw [hr'] at hr
          cases hr
        | cons f fr =>
          rw [← Array.getElem?_toList, hr']
          rfl
theorem oneLt_tup {f : Bool} {xs ys : List PyData} {a b : Value} {as bs : List Addr} {Q : Bool → Shared → Prop} (ra : Reads s.heap a (.tuple xs) as) (rb : Reads s.heap b (.tuple ys) bs) (h : alike (.tuple xs) (.tuple ys) = true)
    (hu : A.units + min (PyData.tuple xs).depth (PyData.tuple ys).depth < cLine) (hq : Q (dataLt (.tuple xs) (.tuple ys)) s) : wpAny (model prog w) A (oneLt' f a b) Q E s := by
  cases f with
  | false => exact oneLt_alike (fun z => nomatch z) ra rb h (fun z => nomatch z) hu hq
  | true =>
    have hal : alikeAll xs ys = true := by simpa [alike] using h
    cases ra with
    | @tuple l o vs n _ as₁ h1 h2 h3 h4 =>
      cases rb with
      | @tuple l' o' vs' n' _ bs₁ k1 k2 k3 k4 =>
        have n1 : vs.size = xs.length := by simpa using ReadsAll.length _ _ _ h4
        have n2 : vs'.size = ys.length := by simpa using ReadsAll.length _ _ _ k4
        rw [dataLt_tuple, ← firstLt_toks xs ys hal, ← n1, ← n2] at hq
        rw [oneLt'_eq]
        simp only [if_true]
        refine wpAny_bind (wpAny_cRoomFor (room_here hu) ?_)
        obtain ⟨⟨cls, dd, data, sl⟩, ho⟩ : ∃ o' : Obj, o' = o := ⟨o, rfl⟩
        subst ho
        obtain ⟨⟨cls2, dd2, data2, sl2⟩, ho2⟩ : ∃ o'' : Obj, o'' = o' := ⟨o', rfl⟩
        subst ho2
        simp only at h2 h3 k2 k3
        subst h2 h3 k2 k3
        refine wpAny_bind (wpAny_callSpecialIfBound?_slot (T := "tuple") ⟨_, h1, rfl⟩ F.slot_tuple_lt (call_meets F.slot_tuple_lt ⟨_, h1, rfl⟩ F.entry_tuple_lt (F.args_tuple_lt_2 _ _)
          (SeqAt.tuple_ltAt l l' vs vs' n n' dd dd2 sl sl2 (pairEq xs ys) (fun j => dataLt (xs.getD j .none) (ys.getD j .none))) ⟨h1, k1, fun j j1 j2 => ?_, fun j j1 j2 hj => ?_, ?_⟩))
        · have := eqAt_alikeAll xs ys A.in1 s vs.toList vs'.toList _ _ h4 k4 hal (room_in hu) j (by simpa using j1) (by simpa using j2)
          simpa using this
        · have := rcLt_alikeAll xs ys A.in1 s vs.toList vs'.toList _ _ h4 k4 hal (room_in hu) j (by simpa using j1) (by simpa using j2) hj
          simpa using this
        · exact wpAny_truthy_bool hq
theorem sortsAt2 {vs : List Value} {ds : List PyData} (e : EachIs (fun v d => ∃ as, Reads s.heap v d as) vs ds) (hal : AllAlike ds) (hk : Sortable2 ds) (hu : ∀ d, d ∈ ds → A.units + d.depth < cLine) : SortsAt prog w A s (dataKind s.heap ds) vs := by
  rcases hk with ht | hn
  · by_cases hne : ∀ d, d ∈ ds → ∃ x r, d = .tuple (x :: r)
    · exact SortsAt.data e hal (.inl hne) hu
    · have room : ∀ {d d' : PyData}, d ∈ ds → A.units + min d.depth d'.depth < cLine := fun {d d'} hd => Nat.lt_of_le_of_lt (Nat.add_le_add_left (Nat.min_le_left _ _) _) (hu d hd)
      have lt : ∀ f : Bool, ∀ (E : Value → Shared → Prop) (x y : Value) (a b : (dataKind s.heap ds).α) {Q : Bool → Shared → Prop},
          (dataKind s.heap ds).keyOf x = some a → (dataKind s.heap ds).keyOf y = some b → Q ((dataKind s.heap ds).blt a b) s → wpAny (model prog w) A (oneLt' f x y) Q E s := by
        intro f E x y a b Q ha hb hq
        obtain ⟨d, as, hd, ra, rfl⟩ := dataKind_inv ha
        obtain ⟨d', as', hd', rb, rfl⟩ := dataKind_inv hb
        have hdd := hal d hd d' hd'
        have hroom := room (d' := d') hd
        obtain ⟨x1, rfl⟩ := ht d hd
        obtain ⟨x2, rfl⟩ := ht d' hd'
        exact oneLt_tup ra rb hdd hroom hq
      have hkeys : ∀ v, v ∈ vs → ∃ a, (dataKind s.heap ds).keyOf v = some a := fun v hv => by
        obtain ⟨d, hd, as, r⟩ := e.left v hv
        exact ⟨_, dataKind_some hal hd r⟩
      have hT : ∀ (M : Model), ∀ v ∈ vs, Looks M s.heap (typeOf v) (.type "tuple") := fun M v hv => by
        obtain ⟨d, hd, as, r⟩ := e.left v hv
        obtain ⟨xs, rfl⟩ := ht d hd
        exact looks_reads r
      refine ⟨hkeys, ?_⟩
      match vs, ds, e with
      | [], [], _ => exact absurd (fun d hd => nomatch hd) hne
      | v0 :: vs, d0 :: ds, e =>
        have two : ∀ (M : Model) (A : Around) (κ : SortKind) (E : Value → Shared → Prop) {Q : SortKind → Shared → Prop}, ((∃ x r, d0 = .tuple (x :: r)) → κ = general') → ((¬ ∃ x r, d0 = .tuple (x :: r)) → κ = oneType') → Q κ s → wpAny M A (keyKind' (v0 :: vs).toArray) Q E s := by
          intro M A κ E Q k1 k2 hq
          rw [kat_kind_eq, List.mapM_toArray, map_eq_pure_bind]
          refine wpAny_bind (wpAny_bind (firsts_any e ht fun os ho => wpAny_pure ?_))
          have hall : ¬ ((os.toArray.all fun x => x.isSome) = true) := fun z => hne fun d hd => by
            obtain ⟨i, hi⟩ := List.getElem?_of_mem hd
            have hl := ho.length
            have hio : i < os.length := by
              rw [hl]
              exact (List.getElem?_eq_some_iff.mp hi).1
            have hz : (os[i], d) ∈ os.zip (d0 :: ds) := by
              refine List.mem_of_getElem? (i := i) ?_
              rw [List.getElem?_zip_eq_some]
              exact ⟨List.getElem?_eq_getElem hio, hi⟩
            refine (ho.zip _ hz).mp ?_
            simp only [List.all_toArray, List.all_eq_true] at z
            exact z _ (List.getElem_mem hio)
          rw [if_neg hall]
          cases ho with
          | @cons o d os' ds' h1 h2 =>
            by_cases hd0 : ∃ x r, d0 = .tuple (x :: r)
            · have hs : o.isSome = true := h1.mpr hd0
              have h0 : ((List.toArray (o :: os'))[0]?.bind id).isSome = true := by simpa using hs
              rw [if_pos h0]
              rw [k1 hd0] at hq
              exact wpAny_pure hq
            · have hs : ¬ o.isSome = true := fun z => hd0 (h1.mp z)
              have h0 : ¬ ((List.toArray (o :: os'))[0]?.bind id).isSome = true := by simpa using hs
              rw [if_neg h0]
              rw [oneTypeOnly'_eq, List.mapM_toArray, map_eq_pure_bind]
              refine wpAny_bind (wpAny_bind (wpAny_bind (kas_mapM (r := Value.type "tuple") _ (fun v hv Q' hq => (hT M v hv).here hq) (wpAny_pure ?_))))
              have hall2 : ((List.map (fun _ => Value.type "tuple") (v0 :: vs)).toArray.all fun x => x == Value.type "tuple") = true := by
                simp only [List.all_toArray, List.all_map, List.all_eq_true]
                intro _ _
                rfl
              have h02 : (List.map (fun _ => Value.type "tuple") (v0 :: vs)).toArray[0]? = some (Value.type "tuple") := by simp
              rw [h02]
              simp only [hall2, if_true]
              rw [k2 hd0] at hq
              exact wpAny_pure (wpAny_pure hq)
        by_cases hd0 : ∃ x r, d0 = .tuple (x :: r)
        · refine ⟨general', fun E x y a b Q ha hb hq => ?_, fun h2 E Q hq => two _ _ general' E (fun _ => rfl) (fun z => absurd hd0 z) hq⟩
          rw [kdl_general]
          exact lt false E x y a b ha hb hq
        · refine ⟨oneType', fun E x y a b Q ha hb hq => ?_, fun h2 E Q hq => two _ _ oneType' E (fun z => absurd z hd0) (fun _ => rfl) hq⟩
          rw [keyLt'_oneType]
          exact lt true E x y a b ha hb hq
  · exact SortsAt.data e hal (.inr hn) hu
theorem bound_map2 {β : Type} {enc : β → PyData} {bs : List β} {n : Nat} (hu : ∀ b, b ∈ bs → n + (enc b).depth < cLine) : ∀ d, d ∈ bs.map enc → n + d.depth < cLine := by
  intro d hd
  obtain ⟨b, hb, rfl⟩ := List.mem_map.mp hd
  exact hu b hb
theorem sorted_data2 {β : Type} {R : Value → β → Prop} {enc : β → PyData} {bs : List β} {vs : List Value} {l : Addr} {Q : Value → Shared → Prop} (hl : s.heap.IsList l vs.toArray) (e : EachIs R vs bs) (er : EachIs (fun v b => ∃ as, Reads s.heap v (enc b) as) vs bs) (hal : AllAlike (bs.map enc)) (hk : Sortable2 (bs.map enc)) (hL : bs.length ≤ sizeLine)
    (hu : ∀ b, b ∈ bs → A.units + 2 + (enc b).depth < cLine) (h : ∀ out, out.length = bs.length → EachIs R out (bs.mergeSort (dataLe false enc)) → Q (.ref (s.heap.objs.size + 1)) { s with heap := sortedAll s.heap vs (List.toArray out) }) :
    wpAny (model prog w) A (call (.builtin "sorted") [.ref l]) Q E s := by
  have er' : EachIs (fun v b => ∃ as, Reads (sortingHeap (copyHeap s.heap vs) (s.heap.objs.size + 1) vs) v (enc b) as) vs bs := er.mono fun _ _ ⟨as, r⟩ => ⟨as, PyProof.Rows.Reads.keeps (fun _ _ => sorting_copy_old) r⟩
  exact sorted_vals hl (sortsAt2 (s := { s with heap := sortingHeap (copyHeap s.heap vs) (s.heap.objs.size + 1) vs }) (each_map (R := fun v d => ∃ as, Reads (sortingHeap (copyHeap s.heap vs) (s.heap.objs.size + 1) vs) v d as) enc er') hal hk (bound_map2 hu)) (by rw [e.length]; exact hL)
    (h _ (by rw [sortVals_length false rfl]; exact e.length) (sortVals_data false e er' hal))
theorem list_sort_data2 {β : Type} {R : Value → β → Prop} {enc : β → PyData} {bs : List β} {vs : List Value} {a : Addr} {n : Nat} {Q : Value → Shared → Prop} (ho : s.heap.get? a = some (seqObj "list" vs.toArray n)) (e : EachIs R vs bs) (er : EachIs (fun v b => ∃ as, Reads s.heap v (enc b) as ∧ a ∉ as) vs bs) (hal : AllAlike (bs.map enc)) (hk : Sortable2 (bs.map enc)) (hL : bs.length ≤ sizeLine)
    (hu : ∀ b, b ∈ bs → A.units + 1 + (enc b).depth < cLine) (h : ∀ out, out.length = bs.length → EachIs R out (bs.mergeSort (dataLe false enc)) → Q .none { s with heap := sortedHeap s.heap a vs (List.toArray out) }) :
    wpAny (model prog w) A (call (.builtin "list.sort") [.ref a]) Q E s := by
  have er' : EachIs (fun v b => ∃ as, Reads (sortingHeap s.heap a vs) v (enc b) as) vs bs := each_keepBut (h' := sortingHeap s.heap a vs) (fun _ _ hb q => sortingHeap_old hb q) (fun o q => by rw [ho] at q; rw [← Option.some.inj q]) hal er
  refine wpAny_call_entry slot_list_sort ⟨_, ho, rfl⟩ entry_list_sort (list_sort_vals (κ := dataKind (sortingHeap s.heap a vs) (bs.map enc)) ho (sortsAt2 (s := { s with heap := sortingHeap s.heap a vs }) (each_map (R := fun v d => ∃ as, Reads (sortingHeap s.heap a vs) v d as) enc er') hal hk (bound_map2 hu)) (by rw [e.length]; exact hL) ⟨.none, rfl, ?_⟩) (args_list_sort _)
  exact h _ (by rw [sortVals_length false rfl]; exact e.length) (sortVals_data false e er' hal)
end
section
variable {X : Cx}
def rSortedDt (K : PySem.W.Frag) : List V → Hp → VK → Prop := fun xs H Q => ∃ (a : Addr) (us : List V) (ds : List PyData), xs = [.ref a] ∧ SqL K H a us ∧ DpAll K H us ds ∧ AllAlike ds ∧ Sortable2 ds ∧ (∀ d ∈ ds, d.depth ≤ 40) ∧
  ∀ p, H p = none → Q (.ref p) (upd H p (.lst (((us.zip ds).mergeSort (dataLe false fun z : V × PyData => z.2)).map fun z : V × PyData => z.1)))
theorem dpAll_len {K : PySem.W.Frag} {H : Hp} : ∀ {vs : List V} {ds : List PyData}, DpAll K H vs ds → vs.length = ds.length
  | _, _, .nil => rfl
  | _, _, .cons _ h => by simp [dpAll_len h]
theorem each_of {pins : List (Addr × Obj)} {σ : St} {H : Hp} {s : Shared} (I : Inv X pins σ H s) : ∀ {us : List V} {ds : List PyData} {its : List Value}, DpAll X.K H us ds → Vals us its →
    EachIs (fun v (z : V × PyData) => RelV z.1 v) its (us.zip ds) ∧ EachIs (fun v (z : V × PyData) => ∃ as, Reads s.heap v z.2 as) its (us.zip ds)
  | _, _, _, .nil, r => by
    cases r
    exact ⟨.nil, .nil⟩
  | _, _, _, .cons h1 h2, r => by
    cases r with
    | cons r1 r2 =>
      obtain ⟨a, b⟩ := each_of I h2 r2
      exact ⟨.cons r1 a, .cons (Dp.reads I _ _ _ h1 r1) b⟩
theorem vals_each : ∀ {out : List Value} {zs : List (V × PyData)}, EachIs (fun v (z : V × PyData) => RelV z.1 v) out zs → Vals (zs.map (·.1)) out
  | _, _, .nil => .nil
  | _, _, .cons h1 h2 => .cons h1 (vals_each h2)
theorem cr_sortedDt (hu : X.A.units + 64 < cLine) : CallR X (.builtin "sorted") (rSortedDt X.K) := by
  intro pins s σ H vs us Q I r h
  obtain ⟨a, ws, ds, rfl, hs, hd, hal, hsr, hdp, q⟩ := h
  obtain ⟨its, rv, hl, hz⟩ := I.list hs
  rw [Vals.ref1 r]
  obtain ⟨e1, e2⟩ := each_of I hd rv
  have el := dpAll_len hd
  have em : (ws.zip ds).map (·.2) = ds := List.map_snd_zip (by omega)
  have ez : (ws.zip ds).length = ws.length := by rw [List.length_zip]; omega
  refine sorted_data2 (enc := fun z : V × PyData => z.2) hl.isList e1 e2 (by rw [em]; exact hal) (by rw [em]; exact hsr) (by rw [ez]; exact hz) (fun b hb => ?_) fun out ho he => ?_
  · have hm : b.2 ∈ ds := by
      rw [← em]
      exact List.mem_map_of_mem hb
    have := hdp _ hm
    omega
  · obtain ⟨ep, he'⟩ := PyProof.Rows.sortedAll_at s.heap its out.toArray
    have hlen : (((ws.zip ds).mergeSort (dataLe false fun z => z.2)).map (·.1)).length ≤ sizeLine := by
      rw [List.length_map, List.length_mergeSort, ez]
      exact hz
    exact ⟨.ref _, upd H (s.heap.objs.size + 1) (.lst (((ws.zip ds).mergeSort (dataLe false fun z : V × PyData => z.2)).map fun z : V × PyData => z.1)), I.laid (t' := s.toks) (fun _ _ => PyProof.Rows.sortedAll_old) (Nat.le_succ _) ⟨hlen, out, ep, vals_each he, he'⟩, rfl, q _ (I.hok.fresh (Nat.le_succ _))⟩
end
section
variable {X : Cx} {K : PySem.W.Frag} {B : Bs} {lim : List Addr} {σ : St} {H : Hp} {g : Ev} {Φ : Its}
theorem toPL_cons {t : T} {ts : List T} {ds : List PyData} (h : toPL (t :: ts) = some ds) : ∃ d es, toP t = some d ∧ toPL ts = some es ∧ ds = d :: es := by
  simp only [toPL] at h
  cases h1 : toP t with
  | none => rw [h1] at h; cases h
  | some d =>
    cases h2 : toPL ts with
    | none => rw [h1, h2] at h; cases h
    | some es =>
      rw [h1, h2] at h
      cases h
      exact ⟨d, es, rfl, rfl, rfl⟩
theorem toPL_nil {ds : List PyData} (h : toPL [] = some ds) : ds = [] := by
  simp only [toPL, Option.some.injEq] at h
  exact h.symm
theorem RepG.dpAll : ∀ {vs : List V} {ts : List T} {ds : List PyData}, vs.length = ts.length → RepG K B lim σ H g (vs.zip ts ++ Φ) → toPL ts = some ds → DpAll K H vs ds
  | [], [], ds, _, _, e => by
    obtain rfl := toPL_nil e
    exact .nil
  | v :: vs, t :: ts, ds, hl, r, e => by
    have r' : RepG K B lim σ H g ((v, t) :: (vs.zip ts ++ Φ)) := r
    obtain ⟨d, es, h1, h2, rfl⟩ := toPL_cons e
    exact .cons (r'.dp h1) (RepG.dpAll (by simpa using hl) r'.dropT h2)
  | [], _ :: _, _, hl, _, _ => by simp at hl
  | _ :: _, [], _, hl, _, _ => by simp at hl
def SortOk {β : Type} (ts : List T) (bs : List β) (enc : β → T) (dat : β → PyData) (le : β → β → Bool) : Prop :=
  frzL ts = bs.map enc ∧ (∀ b ∈ bs, toP (enc b) = some (dat b)) ∧ AllAlike (bs.map dat) ∧ Sortable2 (bs.map dat) ∧ (∀ b ∈ bs, (dat b).depth ≤ 40) ∧ ∀ a ∈ bs, ∀ b ∈ bs, dataLe false dat a b = le a b
def rnSortedB : RNT := fun τs Q => match τs with
  | [.node _ .lst ts] => ∃ (β : Type) (bs : List β) (enc : β → T) (dat : β → PyData) (le : β → β → Bool), SortOk ts bs enc dat le ∧ Q (.node true .lst ((bs.mergeSort le).map enc))
  | _ => False
theorem toPL_enc {β : Type} {enc : β → T} {dat : β → PyData} : ∀ {bs : List β}, (∀ b ∈ bs, toP (enc b) = some (dat b)) → toPL (bs.map enc) = some (bs.map dat)
  | [], _ => by simp [toPL]
  | b :: bs, h => by
    simp only [List.map_cons, toPL]
    rw [h b List.mem_cons_self, toPL_enc fun c hc => h c (List.mem_cons_of_mem _ hc)]
    rfl
theorem zip_maps {α β γ : Type} (f : β → α) (h : β → γ) : ∀ (bs : List β), (bs.map f).zip (bs.map h) = bs.map fun b => (f b, h b)
  | [] => rfl
  | b :: bs => by simp [zip_maps f h bs]
theorem n_sortedB (hu : X.A.units + 64 < cLine) : CallN X (.builtin "sorted") (rSortedDt X.K) rnSortedB := by
  refine ⟨cr_sortedDt hu, fun B lim σ H g Φ vs τs Q hl r q => ?_, fun τs Q Q' h q => ?_⟩
  · unfold rnSortedB at q
    split at q
    · rename_i o ts
      obtain ⟨β, bs, enc, dat, le, ⟨e1, e2, e3, e4, e5, e6⟩, q⟩ := q
      match vs, hl with
      | [v], _ =>
        have r1 : RepG X.K B lim σ H g ((v, frz (.node o .lst ts)) :: Φ) := RepG.freezeT r
        have r2 : RepG X.K B lim σ H g ((v, .node false .lst (bs.map enc)) :: Φ) := by
          rw [frz_node, e1] at r1
          exact r1
        obtain ⟨a, us, rfl, hl2, hr, r3⟩ := r2.kids
        have ed := toPL_enc e2
        have hda := RepG.dpAll hl2 r3 ed
        have hlb : us.length = bs.length := by rw [hl2, List.length_map]
        refine ⟨a, us, bs.map dat, rfl, seqL hr, hda, e3, e4, fun d hd => ?_, fun p hp => q _ _ ?_⟩
        · obtain ⟨b, hb, rfl⟩ := List.mem_map.mp hd
          exact e5 b hb
        · have hz1 : (us.zip bs).map (·.1) = us := List.map_fst_zip (by omega)
          have hz2 : (us.zip bs).map (·.2) = bs := List.map_snd_zip (by omega)
          obtain ⟨zs, hzs⟩ : ∃ zs : List (V × β), zs = us.zip bs := ⟨_, rfl⟩
          rw [← hzs] at hz1 hz2
          have hm : ∀ z ∈ zs, z.2 ∈ bs := fun z h => by
            rw [← hz2]
            exact List.mem_map_of_mem h
          have ed2 : us.zip (bs.map dat) = zs.map fun z => (z.1, dat z.2) := by
            rw [← hz1, ← hz2, List.map_map, zip_maps]
            rfl
          have et2 : us.zip (bs.map enc) = zs.map fun z => (z.1, enc z.2) := by
            rw [← hz1, ← hz2, List.map_map, zip_maps]
            rfl
          have s1 : (zs.mergeSort fun x y => le x.2 y.2).map (fun z => (z.1, dat z.2)) = (us.zip (bs.map dat)).mergeSort (dataLe false fun z => z.2) := by
            rw [ed2]
            exact sort_maps _ fun x hx y hy => (e6 _ (hm x hx) _ (hm y hy)).symm
          have s2 : (zs.mergeSort fun x y => le x.2 y.2).map (·.2) = bs.mergeSort le := by
            rw [← hz2]
            exact sort_maps _ fun x hx y hy => rfl
          rw [← s1, ← s2, List.map_map, List.map_map]
          have e7 : ((fun z : V × PyData => z.1) ∘ fun z : V × β => (z.1, dat z.2)) = fun z : V × β => z.1 := rfl
          rw [e7]
          refine make_of .lst (by simp) ?_ hp
          have e8 : ((zs.mergeSort fun x y => le x.2 y.2).map (fun z : V × β => z.1)).zip ((zs.mergeSort fun x y => le x.2 y.2).map (enc ∘ fun z : V × β => z.2)) = (zs.mergeSort fun x y => le x.2 y.2).map fun z => (z.1, enc z.2) := by
            rw [zip_maps]
            rfl
          rw [e8]
          have r4 : RepG X.K B lim σ H g (us.zip (bs.map enc) ++ Φ) := (r3.perm List.perm_middle).dropT
          rw [et2] at r4
          exact r4.perm (List.Perm.append_right _ ((List.mergeSort_perm _ _).map _).symm)
    · exact q.elim
  · unfold rnSortedB at q ⊢
    split at q
    · obtain ⟨β, bs, enc, dat, le, e, q⟩ := q
      exact ⟨β, bs, enc, dat, le, e, h _ q⟩
    · exact q.elim
end
end DL
set_option Elab.async false
set_option linter.all false
set_option maxRecDepth 100000
set_option maxHeartbeats 4000000
namespace DL
open PySem L2
def flatI : List T → Option (List Int)
  | [] => some []
  | .leaf (.int i) :: r => (flatI r).map (i :: ·)
  | _ => none
theorem flatI_eq : ∀ {us : List T} {ns : List Int}, flatI us = some ns → us = intsT ns
  | [], _, e => by
    simp only [flatI, Option.some.injEq] at e
    subst e
    rfl
  | .leaf (.int i) :: r, ns, e => by
    simp only [flatI] at e
    cases h : flatI r with
    | none => rw [h] at e; cases e
    | some ms =>
      rw [h] at e
      cases e
      rw [flatI_eq h]
      rfl
  | .leaf .non :: _, _, e => by simp [flatI] at e
  | .leaf (.bl _) :: _, _, e => by simp [flatI] at e
  | .leaf (.str _) :: _, _, e => by simp [flatI] at e
  | .leaf (.ref _) :: _, _, e => by simp [flatI] at e
  | .leaf (.ty _) :: _, _, e => by simp [flatI] at e
  | .node _ _ _ :: _, _, e => by simp [flatI] at e
  | .pin _ _ :: _, _, e => by simp [flatI] at e
abbrev ik (ns : List Int) : List Key := ns.map Sum.inl
theorem ik_kV (ns : List Int) : (ik ns).map kV = ns.map V.int := by
  rw [List.map_map]
  rfl
section
variable {κ : Type} [DecidableEq κ]
def ixK : List κ → κ → Option Nat
  | [], _ => none
  | x :: ks, k => if x = k then some 0 else (ixK ks k).map (· + 1)
theorem ixK_lt : ∀ {ks : List κ} {k : κ} {j : Nat}, ixK ks k = some j → j < ks.length ∧ ks[j]? = some k
  | x :: ks, k, j, e => by
    unfold ixK at e
    split at e
    · cases e
      rename_i h
      exact ⟨Nat.succ_pos _, by simp [h]⟩
    · cases h : ixK ks k with
      | none => rw [h] at e; cases e
      | some i =>
        rw [h] at e
        cases e
        have := ixK_lt h
        exact ⟨Nat.succ_lt_succ this.1, by simpa using this.2⟩
theorem ixK_none : ∀ {ks : List κ} {k : κ}, ixK ks k = none ↔ k ∉ ks
  | [], k => by simp [ixK]
  | x :: ks, k => by
    unfold ixK
    by_cases h : x = k
    · rw [if_pos h]
      simp [h]
    · rw [if_neg h, Option.map_eq_none_iff, ixK_none, List.mem_cons]
      constructor
      · rintro a (b | b)
        · exact h b.symm
        · exact a b
      · exact fun a b => a (.inr b)
theorem val_ix : ∀ {ks : List κ} {vs : List V} {k : κ}, vs.length = ks.length → valV (ks.zip vs) k = (ixK ks k).bind (vs[·]?)
  | [], vs, k, _ => rfl
  | x :: ks, [], k, h => by simp at h
  | x :: ks, v :: vs, k, h => by
    rw [List.zip_cons_cons]
    unfold ixK
    by_cases e : x = k
    · rw [valV_pos (p := (x, v)) e, if_pos e]
      rfl
    · rw [valV_neg (p := (x, v)) e, if_neg e, val_ix (by simpa using h)]
      cases ixK ks k <;> rfl
theorem map_zip_set : ∀ {ks : List κ} {vs : List V} {k : κ} {v : V} {j : Nat}, vs.length = ks.length → ks.Nodup → ixK ks k = some j →
    (ks.zip vs).map (fun kv => if kv.1 = k then (kv.1, v) else kv) = ks.zip (vs.set j v)
  | x :: ks, [], _, _, _, h, _, _ => by simp at h
  | x :: ks, u :: vs, k, v, j, h, hn, e => by
    rw [List.nodup_cons] at hn
    unfold ixK at e
    by_cases c : x = k
    · rw [if_pos c] at e
      cases e
      rw [List.zip_cons_cons, List.map_cons, if_pos c, List.set_cons_zero, List.zip_cons_cons]
      congr 1
      have : ∀ p ∈ ks.zip vs, (if p.1 = k then (p.1, v) else p) = p := fun p hp => if_neg fun z => hn.1 (by
        rw [c, ← z]
        exact (List.of_mem_zip hp).1)
      rw [List.map_congr_left this, List.map_id']
    · rw [if_neg c] at e
      cases h2 : ixK ks k with
      | none => rw [h2] at e; cases e
      | some i =>
        rw [h2] at e
        cases e
        rw [List.zip_cons_cons, List.map_cons, if_neg c, List.set_cons_succ, List.zip_cons_cons, map_zip_set (by simpa using h) hn.2 h2]
theorem put_ix {ks : List κ} {vs : List V} {k : κ} {v : V} (h : vs.length = ks.length) (hn : ks.Nodup) :
    putK (ks.zip vs) k v = match ixK ks k with | some j => ks.zip (vs.set j v) | none => (ks ++ [k]).zip (vs ++ [v]) := by
  have hv := val_ix (k := k) h
  cases e : ixK ks k with
  | none =>
    rw [e] at hv
    rw [putK_new v hv]
    show _ = (ks ++ [k]).zip (vs ++ [v])
    rw [List.zip_append h.symm]
    rfl
  | some j =>
    rw [e] at hv
    have hj := (ixK_lt e).1
    have hs : valV (ks.zip vs) k = some (vs[j]'(by omega)) := by
      rw [hv]
      simp [show j < vs.length by omega]
    unfold putK
    rw [valV_any, hs, if_pos (show (some _).isSome = true from rfl)]
    exact map_zip_set h hn e
end
section
variable {K : PySem.W.Frag} {B : Bs} {lim : List Addr} {σ : St} {H : Hp} {g : Ev} {Φ : Its}
theorem ownL_flat {F : Addr → Prop} : ∀ {ws us : List V} {fp : List Addr}, OwnL K F H us (ws.map .leaf) fp → us = ws
  | [], _, _, h => by cases h; rfl
  | w :: ws, _, _, h => by
    cases h with
    | cons h1 h2 =>
      cases h1
      rw [ownL_flat h2]
theorem RepG.keyH {v : V} {o : Bool} {us : List T} {ns : List Int} (h : RepG K B lim σ H g ((v, .node o .tup us) :: Φ)) (e : flatI us = some ns) (hz : ns ≠ [0, 1]) : ∃ b, v = .ref b ∧ H b = some (.tup ((ik ns).map kV)) := by
  obtain rfl := flatI_eq e
  rw [intsT_eq] at h
  rw [ik_kV]
  obtain ⟨F, zs, fp, en, oz, f, hl⟩ := h
  obtain ⟨fp', pf, o'⟩ := oz.perm (List.perm_middle (a := (v, T.node o .tup ((ns.map V.int).map .leaf))))
  obtain ⟨f1, f2, rfl, p1, o2⟩ := OwnZ.uncons (zs := zs ++ Φ) o'
  cases p1 with
  | fz hf hr hk =>
    obtain rfl := ownL_flat hk
    exact ⟨_, rfl, hr⟩
  | own hr hk =>
    obtain rfl := ownL_flat hk
    exact ⟨_, rfl, hr⟩
  | tk hr hk =>
    obtain rfl := ownL_flat hk
    exact ⟨_, rfl, hr⟩
  | kz hc hok hk =>
    obtain rfl := ownL_flat hk
    rcases hok with z | ⟨x, r, z⟩
    · refine absurd ?_ hz
      have h2 : ns.map V.int = ([0, 1] : List Int).map V.int := z
      exact List.map_inj_right (fun a b h => V.int.inj h) |>.mp h2
    · cases ns with
      | nil => cases z
      | cons n ns => cases z
def rtDGet (τd τk : T) (Q : Option T → Prop) : Prop := match τd, τk with
  | .node _ (.dT ks) ts, .node _ .tup us => ∃ ns, flatI us = some ns ∧ ns ≠ [0, 1] ∧ ts.length = ks.length ∧ Q ((ixK ks (ik ns)).bind (ts[·]?))
  | .node _ (.dK ks) ts, .leaf (.int i) => ts.length = ks.length ∧ Q ((ixK ks (.inl i)).bind (ts[·]?))
  | .node _ (.dK ks) ts, .leaf (.str x) => ts.length = ks.length ∧ Q ((ixK ks (.inr x)).bind (ts[·]?))
  | _, _ => False
theorem rtDGet_mono {τd τk : T} {Q Q' : Option T → Prop} (h : ∀ r, Q r → Q' r) (q : rtDGet τd τk Q) : rtDGet τd τk Q' := by
  unfold rtDGet at q ⊢
  split at q
  · obtain ⟨ns, e, z, l, q⟩ := q
    exact ⟨ns, e, z, l, h _ q⟩
  · exact ⟨q.1, h _ q.2⟩
  · exact ⟨q.1, h _ q.2⟩
  · exact q.elim
theorem dget_of {a : Addr} {y : V} {o : Bool} {s : Sh} {ts : List T} {τk : T} {Q : Option T → Prop} (rk : RepG K B lim σ H g ((y, τk) :: Φ)) (q : rtDGet (.node o s ts) τk Q) :
    ∃ r : Option Nat, (∀ us : List V, us.length = ts.length → Rd H a (s.mk a us) → DGet H a y (r.bind (us[·]?))) ∧ (∀ j, r = some j → j < ts.length) ∧ Q (r.bind (ts[·]?)) := by
  unfold rtDGet at q
  split at q
  · rename_i ks ts' us' e1
    cases e1
    obtain ⟨ns, e, hz, l, q⟩ := q
    obtain ⟨b, rfl, hb⟩ := rk.keyH e hz
    refine ⟨_, fun us hl ha => ?_, fun j e => by rw [l]; exact (ixK_lt e).1, q⟩
    rw [← val_ix (by rw [hl, l])]
    exact .inr ⟨_, _, b, ha, rfl, hb, rfl⟩
  · rename_i ks ts' i e1
    cases e1
    obtain rfl := rk.leaf
    refine ⟨_, fun us hl ha => ?_, fun j e => by rw [q.1]; exact (ixK_lt e).1, q.2⟩
    rw [← val_ix (by rw [hl, q.1])]
    exact .inl ⟨_, .inl i, ha, rfl, rfl⟩
  · rename_i ks ts' z e1
    cases e1
    obtain rfl := rk.leaf
    refine ⟨_, fun us hl ha => ?_, fun j e => by rw [q.1]; exact (ixK_lt e).1, q.2⟩
    rw [← val_ix (by rw [hl, q.1])]
    exact .inl ⟨_, .inr z, ha, rfl, rfl⟩
  · exact q.elim
end
section
variable {X : Cx} {W : WX} {m : Nat → Bool} {o e f value : Expr} {td tk tx tv : DTE} {pos pos' apos cpos : Pos}
def xDGet (td tk : DTE) : DTE := fun g Q E => td g (fun τd g1 => tk g1 (fun τk g2 => rtDGet (frz τd) τk fun r => ∃ t, r = some t ∧ Q t g2) E) E
theorem dget_val {K : PySem.W.Frag} {B : Bs} {lim : List Addr} {σ : St} {H : Hp} {g : Ev} {Φ : Its} {x y : V} {τd τk : T} {Q : Option T → Prop} (r : RepG K B lim σ H g ((y, τk) :: (x, τd) :: Φ)) (q : rtDGet (frz τd) τk Q) :
    ∃ (a : Addr) (ro : Option V) (rt : Option T), x = .ref a ∧ DGet H a y ro ∧ Q rt ∧ (∀ t, rt = some t → ∃ v, ro = some v ∧ RepG K B lim σ H g ((v, t) :: Φ)) ∧ (rt = none → ro = none) := by
  have r1 : RepG K B lim σ H g ((x, frz τd) :: (y, τk) :: Φ) := (r.perm (List.Perm.swap _ _ _)).freezeT
  obtain ⟨o, s, ts, hd, hs⟩ : ∃ o s ts, frz τd = .node o s ts ∧ s ≠ .tup := by
    unfold rtDGet at q
    split at q
    · rename_i e
      exact ⟨_, _, _, e, fun z => by cases z⟩
    · rename_i e
      exact ⟨_, _, _, e, fun z => by cases z⟩
    · rename_i e
      exact ⟨_, _, _, e, fun z => by cases z⟩
    · exact q.elim
  have ho : o = false ∧ frzL ts = ts := by
    have := frz_frz τd
    rw [hd, frz_node] at this
    injection this with h1 h2 h3
    exact ⟨h1.symm, h3⟩
  rw [hd] at r1 q
  obtain ⟨rfl, hf⟩ := ho
  obtain ⟨a, us, rfl, hl, hr, r2⟩ := r1.kidsH hs
  have rk : RepG K B lim σ H g ((y, τk) :: Φ) := r1.dropT
  obtain ⟨j, hg, hj, q⟩ := dget_of (a := a) rk q
  refine ⟨a, _, _, rfl, hg us hl (.inl hr), q, fun t ht => ?_, fun hn => ?_⟩
  · cases j with
    | none => cases ht
    | some j =>
      have htj : ts[j]? = some t := ht
      obtain ⟨v, hv, hz⟩ := zip_get hl htj
      refine ⟨v, hv, ?_⟩
      exact RepG.subs (zs := [(v, t), (V.ref a, T.node false s ts), (y, τk)]) (ys := [(v, t)]) (List.Sublist.cons_cons _ (List.nil_sublist _)) (r2.one hz)
  · cases j with
    | none => rfl
    | some j =>
      have := hj j rfl
      have hn : ts[j]? = none := hn
      rw [List.getElem?_eq_none_iff] at hn
      omega
theorem d_dget (hu : X.A.units + 1 < cLine) (ho : DE X W o td) (hi : DE X W e tk) (hs : NoSl e := by intro _ _; rfl) : DE X W (.Subscript o e pos) (xDGet td tk) := by
  refine ⟨fun B => PE.imp (pe_dget hu (ho.run B) (hi.run B) hs) fun σ H Q ⟨Φ, lim, g, E, r, hx, q⟩ => ?_, fun g Q Q' E E' hq hE q => ?_⟩
  · refine lift2 (R' := fun τd τk g2 => rtDGet (frz τd) τk fun r => ∃ t, r = some t ∧ ∀ v H', RepG X.K B lim σ H' g2 ((v, t) :: Φ) → Q v H') r hx hi.mono ho.mono q fun v1 v2 τ1 τ2 g2 H2 r2 q2 => ?_
    obtain ⟨a, ro, rt, rfl, hg, ⟨t, ht, q3⟩, h1, h2⟩ := dget_val r2 q2
    obtain ⟨v, rfl, r3⟩ := h1 t ht
    exact ⟨a, v, rfl, hg, q3 _ _ r3⟩
  · exact ho.mono _ _ _ _ _ (fun τ1 g1 q1 => hi.mono _ _ _ _ _ (fun τ2 g2 q2 => rtDGet_mono (fun r ⟨t, e, z⟩ => ⟨t, e, hq _ _ z⟩) q2) hE q1) hE q
def isDctO : T → Prop
  | .node true (.dT _) _ => True
  | .node true (.dK _) _ => True
  | _ => False
theorem isDctO_of {τ : T} (h : isDctO τ) : ∃ s ts, τ = .node true s ts ∧ s ≠ .tup ∧ ∀ H a us, Rd H a (s.mk a us) → IsD H a := by
  unfold isDctO at h
  split at h
  · exact ⟨_, _, rfl, (fun z => by cases z), fun H a us h => .inr ⟨_, h⟩⟩
  · exact ⟨_, _, rfl, (fun z => by cases z), fun H a us h => .inl ⟨_, h⟩⟩
  · exact h.elim
theorem dget_slot {K : PySem.W.Frag} {B : Bs} {lim : List Addr} {σ : St} {H : Hp} {g : Ev} {Φ : Its} {y : V} {t0 τk : T} {i : Nat} {Q : Option T → Prop} (r : RepG K B lim σ H g ((y, τk) :: Φ)) (h0 : g[i]? = some (some t0)) (hd : isDctO t0) (q : rtDGet t0 τk Q) :
    ∃ (a : Addr) (ro : Option V) (rt : Option T), σ[i]? = some (some (.ref a)) ∧ DGet H a y ro ∧ Q rt ∧ (∀ t, rt = some t → frz t = t → ∃ v, ro = some v ∧ RepG K B lim σ H g ((v, t) :: (y, τk) :: Φ)) ∧ (rt = none → ro = none) := by
  obtain ⟨s, ts, rfl, hs, hI⟩ := isDctO_of hd
  obtain ⟨a, us, hv, hl, ha, _⟩ := r.renew (s' := s) h0 hs
  obtain ⟨j, hg, hj, q⟩ := dget_of (a := a) r q
  cases j with
  | none => exact ⟨a, none, none, hv, hg us hl (.inl ha), q, (fun t ht => nomatch ht), fun _ => rfl⟩
  | some j =>
    have hlt := hj j rfl
    obtain ⟨a2, us2, x, hv2, hl2, ha2, hx, r2⟩ := r.partO h0 (List.getElem?_eq_getElem hlt)
    rw [hv] at hv2
    cases hv2
    refine ⟨a, _, _, hv, hg us2 hl2 (.inl ha2), q, fun t ht hf => ?_, fun hn => ?_⟩
    · have htj : ts[j]? = some t := ht
      have e0 : ts[j] = t := by
        rw [List.getElem?_eq_getElem hlt] at htj
        exact Option.some.inj htj
      refine ⟨x, hx, ?_⟩
      rw [e0, hf] at r2
      have e1 : g.set i (some (.node true s (ts.set j t))) = g := by
        rw [set_at htj, set_at h0]
      rw [e1] at r2
      exact r2
    · have hn : ts[j]? = none := hn
      rw [List.getElem?_eq_none_iff] at hn
      omega
def xDGetO (i : Nat) (tk : DTE) : DTE := fun g Q E => atSlot i g fun _ => tk g (fun τk g1 => atSlot i g1 fun t0 => isDctO t0 ∧ rtDGet t0 τk fun r => ∃ t, r = some t ∧ frz t = t ∧ Q t g1) E
theorem d_dgetO (i : Nat) (hu : X.A.units + 1 < cLine) (ho : PE X o (tVar i)) (hi : DE X W e tk) (hs : NoSl e := by intro _ _; rfl) : DE X W (.Subscript o e pos) (xDGetO i tk) := by
  refine ⟨fun B => PE.imp (pe_dget hu ho (hi.run B) hs) fun σ H Q ⟨Φ, lim, g, E, r, hx, q⟩ => ?_, fun g Q Q' E E' hq hE q => ?_⟩
  · obtain ⟨t0, h0, q⟩ := atSlot_of q
    obtain ⟨v0, hv0⟩ := r.slot h0
    refine ⟨v0, hv0, Φ, lim, g, E, r, hx, hi.mono _ _ _ _ _ (fun τk g1 q1 y H1 r1 => ?_) (fun _ _ _ z => z) q⟩
    obtain ⟨t1, h1, hd, q1⟩ := atSlot_of q1
    obtain ⟨a, ro, rt, hv, hg, ⟨t, ht, hf, q2⟩, e1, e2⟩ := dget_slot r1 h1 hd q1
    rw [hv0] at hv
    cases hv
    obtain ⟨v, rfl, r3⟩ := e1 t ht hf
    exact ⟨a, v, rfl, hg, q2 _ _ (RepG.subs (zs := [(v, t), (y, τk)]) (ys := [(v, t)]) (List.Sublist.cons_cons _ (List.nil_sublist _)) r3)⟩
  · exact atSlot_mono (fun _ q => hi.mono _ _ _ _ _ (fun τk g1 q1 => atSlot_mono (fun t0 q2 => ⟨q2.1, rtDGet_mono (fun r ⟨t, e, f, z⟩ => ⟨t, e, f, hq _ _ z⟩) q2.2⟩) q1) hE q) q
def putT {κ : Type} [DecidableEq κ] (mk : List κ → Sh) (ks : List κ) (ts : List T) (k : κ) (τ : T) : T := match ixK ks k with
  | some j => .node true (mk ks) (ts.set j τ)
  | none => .node true (mk (ks ++ [k])) (ts ++ [τ])
def rtDPut (τd τk τ : T) (Q : T → Prop) : Prop := match τd, τk with
  | .node true (.dT ks) ts, .node _ .tup us => ∃ ns, flatI us = some ns ∧ ns ≠ [0, 1] ∧ ks.Nodup ∧ ts.length = ks.length ∧ ks.length < sizeLine ∧ Q (putT .dT ks ts (ik ns) τ)
  | .node true (.dK ks) ts, .leaf (.int i) => ks.Nodup ∧ ts.length = ks.length ∧ ks.length < sizeLine ∧ Q (putT .dK ks ts (.inl i) τ)
  | .node true (.dK ks) ts, .leaf (.str x) => ks.Nodup ∧ ts.length = ks.length ∧ ks.length < sizeLine ∧ Q (putT .dK ks ts (.inr x) τ)
  | _, _ => False
theorem rtDPut_mono {τd τk τ : T} {Q Q' : T → Prop} (h : ∀ r, Q r → Q' r) (q : rtDPut τd τk τ Q) : rtDPut τd τk τ Q' := by
  unfold rtDPut at q ⊢
  split at q
  · obtain ⟨ns, e, z, n, l, s, q⟩ := q
    exact ⟨ns, e, z, n, l, s, h _ q⟩
  · exact ⟨q.1, q.2.1, q.2.2.1, h _ q.2.2.2⟩
  · exact ⟨q.1, q.2.1, q.2.2.1, h _ q.2.2.2⟩
  · exact q.elim
theorem put_slot {κ : Type} [DecidableEq κ] {K : PySem.W.Frag} {B : Bs} {lim : List Addr} {σ : St} {H : Hp} {g : Ev} {Φ : Its} {mk : List κ → Sh} {hk : List (κ × V) → HO} {ks : List κ} {ts : List T} {i : Nat} {k : κ} {w : V} {τ : T} (hm : ∀ ks a vs, (mk ks).mk a vs = hk (ks.zip vs)) (hnt : ∀ ks, mk ks ≠ .tup)
    (h : RepG K B lim σ H g ((w, τ) :: Φ)) (h0 : g[i]? = some (some (.node true (mk ks) ts))) (hn : ks.Nodup) (hl : ts.length = ks.length) :
    ∃ (a : Addr) (us : List V), σ[i]? = some (some (.ref a)) ∧ us.length = ks.length ∧ H a = some (hk (ks.zip us)) ∧ RepG K B lim σ (upd H a (hk (putK (ks.zip us) k w))) (g.set i (some (putT mk ks ts k τ))) Φ := by
  cases e : ixK ks k with
  | none =>
    obtain ⟨ad, us, hv, hl2, hH, kk⟩ := h.renew (s' := mk (ks ++ [k])) h0 (hnt ks)
    have hlu : us.length = ks.length := by rw [hl2, hl]
    refine ⟨ad, us, hv, hlu, by rw [hH, hm], ?_⟩
    rw [put_ix hlu hn]
    unfold putT
    rw [e]
    have r5 := kk (us.zip ts ++ [(w, τ)]) Φ (by rw [List.append_assoc]; exact List.Perm.refl _)
    have e1 : ((us.zip ts ++ [(w, τ)]).map (·.1)) = us ++ [w] := by
      rw [List.map_append, List.map_fst_zip (by omega)]
      rfl
    have e2 : ((us.zip ts ++ [(w, τ)]).map (·.2)) = ts ++ [τ] := by
      rw [List.map_append, List.map_snd_zip (by omega)]
      rfl
    rw [e1, e2, hm] at r5
    exact r5
  | some j =>
    have hj := (ixK_lt e).1
    obtain ⟨ad, us, hv, hl2, hH, r⟩ := h.setO h0 (j := j) (by omega) (hnt ks)
    have hlu : us.length = ks.length := by rw [hl2, hl]
    refine ⟨ad, us, hv, hlu, by rw [hH, hm], ?_⟩
    rw [put_ix hlu hn]
    unfold putT
    rw [e]
    rw [hm] at r
    exact r
def sDPutO (i : Nat) (tk tv : DTE) : DTS := fun D g => tv g (fun τv g1 => atSlot i g1 fun _ => tk g1 (fun τk g2 => atSlot i g2 fun t0 => rtDPut t0 τk τv fun t1 => D.nx (g2.set i (some t1))) D.ex) D.ex
theorem ds_dput (i : Nat) (hu : X.A.units + 1 < cLine) (ho : PE X o (tVar i)) (hi : DE X W e tk) (hv : DE X W value tv) (hs : swapsWith value (some (.Subscript o e pos')) pos.line X.env = pure false := by rfl) :
    DS X W m (.Assign [.Subscript o e pos'] value pos) (sDPutO i tk tv) := by
  refine .mk' (fun B σ0 => ps_dput hu ho (hi.run B) (hv.run B) hs) (fun B σ0 D σ H Φ lim g E r hk hX q => ?_) fun D D' g h q => ?_
  · refine ⟨Φ, lim, g, E, r, hX σ hk, hv.mono _ _ _ _ _ (fun τv g1 q1 w H1 r1 => ?_) (fun _ _ _ z => z) q⟩
    obtain ⟨t0, h0, q1⟩ := atSlot_of q1
    obtain ⟨v0, hv0⟩ := r1.slot h0
    refine ⟨v0, hv0, _, lim, g1, E, r1, hX σ hk, hi.mono _ _ _ _ _ (fun τk g2 q2 y H2 r2 => ?_) (fun _ _ _ z => z) q1⟩
    obtain ⟨t1, h1, q2⟩ := atSlot_of q2
    have rv : RepG X.K B lim σ H2 g2 ((w, τv) :: Φ) := r2.dropT
    unfold rtDPut at q2
    split at q2
    · obtain ⟨ns, e, z, n, l, sz, q2⟩ := q2
      obtain ⟨b, rfl, hb⟩ := r2.keyH e z
      obtain ⟨a, us, ha, hlu, hH, r3⟩ := put_slot (hk := HO.dT) (fun _ _ _ => rfl) (fun _ z => by cases z) rv h1 (k := ik ns) n l
      rw [hv0] at ha
      cases ha
      exact ⟨a, _, rfl, .inr ⟨_, ik ns, b, hH, rfl, hb, by rw [List.length_zip]; omega, rfl⟩, q2 _ _ r3 hk⟩
    · rename_i ks ts j _
      obtain rfl := r2.leaf
      obtain ⟨a, us, ha, hlu, hH, r3⟩ := put_slot (hk := HO.dK) (fun _ _ _ => rfl) (fun _ z => by cases z) rv h1 (k := .inl j) q2.1 q2.2.1
      rw [hv0] at ha
      cases ha
      exact ⟨a, _, rfl, .inl ⟨_, .inl j, hH, rfl, by rw [List.length_zip]; omega, rfl⟩, q2.2.2.2 _ _ r3 hk⟩
    · rename_i ks ts z _
      obtain rfl := r2.leaf
      obtain ⟨a, us, ha, hlu, hH, r3⟩ := put_slot (hk := HO.dK) (fun _ _ _ => rfl) (fun _ z => by cases z) rv h1 (k := .inr z) q2.1 q2.2.1
      rw [hv0] at ha
      cases ha
      exact ⟨a, _, rfl, .inl ⟨_, .inr z, hH, rfl, by rw [List.length_zip]; omega, rfl⟩, q2.2.2.2 _ _ r3 hk⟩
    · exact q2.elim
  · exact hv.mono _ _ _ _ _ (fun τv g1 q1 => atSlot_mono (fun _ q2 => hi.mono _ _ _ _ _ (fun τk g2 q3 => atSlot_mono (fun t0 q4 => rtDPut_mono (fun t1 q5 => h.nx _ q5) q4) q3) h.ex q2) q1) h.ex q
end
end DL
set_option Elab.async false
set_option linter.all false
set_option maxRecDepth 100000
set_option maxHeartbeats 4000000
namespace DL
open PySem L2
section
variable {X : Cx} {pins : List (Addr × Obj)} {σ : L2.St} {H : Hp} {s : Shared}
abbrev tupD (k : List Int) : PyData := .tuple (k.map .int)
theorem alike_tupD (a b : List Int) : W.alike (tupD a) (tupD b) = true := by
  simp only [tupD, W.alike]
  exact W.alike_ints _ _
end
end DL
set_option Elab.async false
set_option linter.all false
set_option maxRecDepth 100000
set_option maxHeartbeats 4000000
namespace DL
open PySem L2
abbrev leL (a b : List Int) : Bool := decide (a ≤ b)
theorem toks_inj : ∀ {a b : List Int}, W.keyToksAll (a.map .int) = W.keyToksAll (b.map .int) → a = b
  | [], [], _ => rfl
  | [], y :: b, h => by simp [W.keyToksAll] at h
  | x :: a, [], h => by simp [W.keyToksAll] at h
  | x :: a, y :: b, h => by
    simp only [List.map_cons, W.keyToksAll, W.keyToks, List.cons_append, List.nil_append, List.cons.injEq, Sum.inl.injEq, true_and] at h
    rw [h.1, toks_inj h.2]
theorem eqv_tupD {a b : List Int} : PyData.eqv (tupD a) (tupD b) = decide (a = b) := by
  by_cases h : a = b
  · subst h
    rw [decide_eq_true rfl]
    exact W.eqv_refl_alike _ (alike_tupD a a)
  · rw [decide_eq_false h]
    cases e : PyData.eqv (tupD a) (tupD b) with
    | false => rfl
    | true =>
      refine absurd (toks_inj ?_) h
      have := (W.toks_eqv _ _ (alike_tupD a b)).1 e
      simpa [tupD, W.keyToks] using this
theorem lt_tupD (a b : List Int) : W.dataLt (tupD a) (tupD b) = decide (a < b) := by
  rw [tupD, tupD, W.dataLt_tuple]
  exact W.dataLt_ints a b
theorem le_tupD : W.dataLe false tupD = leL := by
  rw [W.dataLe_eq]
  funext a b
  show (!W.dataLt (tupD b) (tupD a)) = decide (a ≤ b)
  rw [lt_tupD]
  by_cases h : b < a
  · rw [decide_eq_true h, decide_eq_false (List.not_le.mpr h)]
    rfl
  · rw [decide_eq_false h, decide_eq_true (List.not_lt.mp h)]
    rfl
end DL
set_option Elab.async false
set_option linter.all false
set_option maxRecDepth 100000
set_option maxHeartbeats 4000000
namespace DL
open PySem L2
theorem du1 {a b : Nat} (h : a + 64 < b) : a + 1 < b := by omega
end DL
set_option Elab.async false
set_option linter.all false
set_option maxRecDepth 100000
set_option maxHeartbeats 4000000
namespace DL
end DL
set_option Elab.async false
set_option linter.all false
set_option maxRecDepth 100000
set_option maxHeartbeats 4000000
namespace DL
open PySem L2
def Fits : List (Option (Option T)) → Ev → Prop
  | [], g => g = []
  | some x :: ps, g => ∃ r, g = x :: r ∧ Fits ps r
  | none :: ps, g => ∃ y r, g = y :: r ∧ Fits ps r
theorem Fits.e : Fits [] [] := rfl
theorem Fits.s {x y : Option T} {ps : List (Option (Option T))} {r : Ev} (e : y = x) (h : Fits ps r) : Fits (some x :: ps) (y :: r) := ⟨r, by rw [e], h⟩
theorem Fits.n {y : Option T} {ps : List (Option (Option T))} {r : Ev} (h : Fits ps r) : Fits (none :: ps) (y :: r) := ⟨y, r, rfl, h⟩
theorem Loop.fit {gt : DTG} {body : DTS} {D : DEnds} {ts : List T} {g : Ev} {α β : Type} (xs : List β) (enc : β → T) (e : ts = xs.map enc) (st : α → List (Option (Option T))) (I : Nat → α → Prop) (a0 : α) (h0 : I 0 a0) (e0 : Fits (st a0) g)
    (hs : ∀ (i : Nat) (x : β) (a : α) (g : Ev), xs[i]? = some x → I i a → Fits (st a) g → ∀ R : Ev → Prop, (∀ a' g', I (i + 1) a' → Fits (st a') g' → R g') → gt (enc x) g fun g1 => body (lpE R D) g1)
    (he : ∀ a g, I xs.length a → Fits (st a) g → D.nx g) : Loop gt body D ts g := by
  subst e
  refine Loop.ind (fun i g => ∃ a, I i a ∧ Fits (st a) g) ⟨a0, h0, e0⟩ (fun i t g ht ⟨a, hI, hF⟩ R hR => ?_) fun g ⟨a, hI, hF⟩ => he a g (by rw [List.length_map] at hI; exact hI) hF
  rw [List.getElem?_map] at ht
  cases hx : xs[i]? with
  | none => rw [hx] at ht; cases ht
  | some x =>
    rw [hx] at ht
    cases ht
    exact hs i x a g hx hI hF R fun a' g' h1 h2 => hR g' ⟨a', h1, h2⟩
theorem Loop.rg {gt : DTG} {body : DTS} {D : DEnds} {g : Ev} {α : Type} {lo : Int} {n : Nat} (st : α → List (Option (Option T))) (I : Nat → α → Prop) (a0 : α) (h0 : I 0 a0) (e0 : Fits (st a0) g)
    (hs : ∀ (i : Nat) (a : α) (g : Ev), i < n → I i a → Fits (st a) g → ∀ R : Ev → Prop, (∀ a' g', I (i + 1) a' → Fits (st a') g' → R g') → gt (.leaf (.int (lo + (i : Nat)))) g fun g1 => body (lpE R D) g1)
    (he : ∀ a g, I n a → Fits (st a) g → D.nx g) : Loop gt body D (rangeT lo n) g := by
  refine Loop.fit (List.range n) (fun k => .leaf (.int (lo + (k : Nat)))) rfl st I a0 h0 e0 (fun i x a g hx hI hF R hR => ?_) fun a g hI hF => he a g (by rw [List.length_range] at hI; exact hI) hF
  have hlt : i < n := by
    have := (List.getElem?_eq_some_iff.mp hx).1
    rwa [List.length_range] at this
  rw [List.getElem?_range hlt] at hx
  cases hx
  exact hs i a g hlt hI hF R hR
theorem Lc.fit {gt : DTG} {tt : DTT} {te : DTE} {vs : List Nat} {ts : List T} {g : Ev} {R : List T → Ev → Prop} {α β : Type} (xs : List β) (enc : β → T) (e : ts = xs.map enc) (st : α → List (Option (Option T))) (I : Nat → α → List T → Prop) (a0 : α) (h0 : I 0 a0 []) (e0 : Fits (st a0) g)
    (hs : ∀ (i : Nat) (x : β) (a : α) (g : Ev) (acc : List T), xs[i]? = some x → I i a acc → Fits (st a) g → ∀ R' : Ev → List T → Prop, (∀ a' g' acc', I (i + 1) a' acc' → Fits (st a') g' → R' g' acc') →
      gt (enc x) g fun g1 => tt g1 (fun b g2 => ifB b (te g2 (fun τ g3 => acc.length < sizeLine ∧ R' (wipeE g3 vs) (acc ++ [τ])) noX) (R' (wipeE g2 vs) acc)) noX)
    (he : ∀ a g acc, I xs.length a acc → Fits (st a) g → R acc g) : Lc gt tt te vs ts g [] R := by
  subst e
  refine Lc.ind (fun i g acc => ∃ a, I i a acc ∧ Fits (st a) g) ⟨a0, h0, e0⟩ (fun i t g acc ht ⟨a, hI, hF⟩ R' hR => ?_) fun g acc ⟨a, hI, hF⟩ => he a g acc (by rw [List.length_map] at hI; exact hI) hF
  rw [List.getElem?_map] at ht
  cases hx : xs[i]? with
  | none => rw [hx] at ht; cases ht
  | some x =>
    rw [hx] at ht
    cases ht
    exact hs i x a g acc hx hI hF R' fun a' g' acc' h1 h2 => hR g' acc' ⟨a', h1, h2⟩
theorem Lc.fx {gt : DTG} {tt : DTT} {te : DTE} {vs : List Nat} {ts : List T} {g : Ev} {R : List T → Ev → Prop} {β : Type} (xs : List β) (enc : β → T) (e : ts = xs.map enc) (F : β → Option T) (hl : xs.length ≤ sizeLine)
    (hs : ∀ x ∈ xs, ∀ (acc : List T) (R' : Ev → List T → Prop), acc.length < sizeLine → (∀ τ, F x = some τ → R' g (acc ++ [τ])) → (F x = none → R' g acc) →
      gt (enc x) g fun g1 => tt g1 (fun b g2 => ifB b (te g2 (fun τ g3 => acc.length < sizeLine ∧ R' (wipeE g3 vs) (acc ++ [τ])) noX) (R' (wipeE g2 vs) acc)) noX)
    (he : R (xs.filterMap F) g) : Lc gt tt te vs ts g [] R := by
  subst e
  refine Lc.ind (fun i g' acc => g' = g ∧ acc = (xs.take i).filterMap F ∧ i ≤ xs.length) ⟨rfl, by simp, Nat.zero_le _⟩ (fun i t g' acc ht h R' hR => ?_) fun g' acc h => ?_
  · obtain ⟨rfl, rfl, hi⟩ := h
    rw [List.getElem?_map] at ht
    cases hx : xs[i]? with
    | none => rw [hx] at ht; cases ht
    | some x =>
      rw [hx] at ht
      cases ht
      have hlt : i < xs.length := (List.getElem?_eq_some_iff.mp hx).1
      have e1 : xs.take (i + 1) = xs.take i ++ [x] := by
        rw [List.take_add_one, hx]
        rfl
      refine hs x (List.mem_of_getElem? hx) _ R' ?_ (fun τ hτ => hR _ _ ⟨rfl, ?_, hlt⟩) (fun hn => hR _ _ ⟨rfl, ?_, hlt⟩)
      · have h1 := List.length_filterMap_le F (xs.take i)
        rw [List.length_take] at h1
        omega
      · rw [e1, List.filterMap_append]
        simp [hτ]
      · rw [e1, List.filterMap_append]
        simp [hn]
  · obtain ⟨rfl, rfl, _⟩ := h
    rw [List.length_map, List.take_length]
    exact he
theorem toP_lints (o : Bool) (ns : List Int) : toP (.node o .lst (intsT ns)) = some (.list (ns.map .int)) := by
  simp only [toP, toPL_ints]
  rfl
theorem small62 {i : Int} (h : i.natAbs < 2 ^ 62) : i.natAbs < 2 ^ 1800 := small_of_abs (Nat.lt_of_lt_of_le h (by decide))
end DL
set_option Elab.async false
set_option linter.all false
set_option maxRecDepth 100000
set_option maxHeartbeats 4000000
namespace DL
open PySem L2
def zipT (ts us : List T) : List T := (ts.zip us).map fun p => .node true .tup [p.1, p.2]
theorem zipT_get {ts us : List T} {i : Nat} {t : T} (h : (zipT ts us)[i]? = some t) : ∃ a b, ts[i]? = some a ∧ us[i]? = some b ∧ t = .node true .tup [a, b] := by
  unfold zipT at h
  rw [List.getElem?_map] at h
  cases e : (ts.zip us)[i]? with
  | none => rw [e] at h; cases h
  | some p =>
    rw [e] at h
    cases h
    obtain ⟨h1, h2⟩ := List.getElem?_zip_eq_some.mp e
    exact ⟨_, _, h1, h2, rfl⟩
theorem zipT_len (ts us : List T) : (zipT ts us).length = min ts.length us.length := by simp [zipT]
section
variable {K : PySem.W.Frag} {B : Bs} {lim : List Addr} {σ : St} {H : Hp} {g : Ev} {Φ : Its}
theorem walks_zipL {a b : Addr} {vs ws : List V} {ts us : List T} (hl : vs.length = ts.length) (hl2 : ws.length = us.length) (hf : ∀ (i : Nat) (t : T), ts[i]? = some t → frz t = t) (hf2 : ∀ (i : Nat) (t : T), us[i]? = some t → frz t = t) :
    Walks K B lim (Itz K a b) ((.ref b, .pin .lst ws) :: (ws.zip us ++ ((.ref a, .pin .lst vs) :: vs.zip ts))) (zipT ts us) := by
  intro σ H g Φ i r
  have sq2 : SqL K H b ws := by
    obtain ⟨b', e, hr⟩ := RepG.pinAt (Φ := (ws.zip us ++ ((.ref a, .pin .lst vs) :: vs.zip ts)) ++ Φ) r
    cases e
    exact seqL hr
  have sq : SqL K H a vs := by
    have r1 : RepG K B lim σ H g ((.ref a, .pin .lst vs) :: ((.ref b, .pin .lst ws) :: (ws.zip us ++ vs.zip ts ++ Φ))) := by
      refine r.perm ?_
      rw [List.cons_append, List.append_assoc, List.cons_append, List.append_assoc]
      refine (List.Perm.cons _ List.perm_middle).trans (List.Perm.swap _ _ _)
    obtain ⟨b', e, hr⟩ := RepG.pinAt r1
    cases e
    exact seqL hr
  refine ⟨fun t ht => ?_, fun hi => ⟨vs, ws, sq, sq2, by rw [zipT_len] at hi; omega⟩⟩
  obtain ⟨u1, u2, hu1, hu2, rfl⟩ := zipT_get ht
  obtain ⟨v1, hv1, hz1⟩ := zip_get hl hu1
  obtain ⟨v2, hv2, hz2⟩ := zip_get hl2 hu2
  refine ⟨⟨vs, ws, v1, v2, sq, sq2, hv1, hv2⟩, fun x H' y => ?_⟩
  obtain ⟨T0, x', y', rfl, hn, rfl, y1, y2⟩ := y
  have hx := y1 vs sq
  rw [hv1] at hx
  cases hx
  have hy := y2 ws sq2
  rw [hv2] at hy
  cases hy
  have hlt : i < (ws.zip us).length := (List.getElem?_eq_some_iff.mp hz2).1
  have r1 := RepG.dupAt (zs := (.ref b, .pin .lst ws) :: (ws.zip us ++ ((.ref a, .pin .lst vs) :: vs.zip ts))) (i := i + 1) r (by rw [List.getElem?_cons_succ, List.getElem?_append_left hlt]; exact hz2) (hf2 i u2 hu2)
  have r2 := RepG.dupAt (zs := (v2, u2) :: (.ref b, .pin .lst ws) :: (ws.zip us ++ ((.ref a, .pin .lst vs) :: vs.zip ts))) (i := (ws.zip us).length + 1 + i + 2) r1 (by
    rw [List.getElem?_cons_succ, List.getElem?_cons_succ, List.getElem?_append_right (by omega)]
    rw [show (ws.zip us).length + 1 + i - (ws.zip us).length = i + 1 by omega, List.getElem?_cons_succ]
    exact hz1) (hf i u1 hu1)
  exact make_pair r2 hn
end
section
variable {X : Cx} {W : WX} {m : Nat → Bool} {e e2 : Expr} {es : List Expr} {t : DTA} {bs : List (Option Nat)} {pos p tpos : Pos}
def iZp (t : DTA) : DTI := fun g Q E => t g (fun τs g1 => ∃ o1 ts o2 us, τs = [.node o1 .lst ts, .node o2 .lst us] ∧ Q (zipT (frzL ts) (frzL us)) g1) E
theorem di_zip {elts : List Expr} {kk : Nat} (hg : Gl X "zip") (hm : X.mg "zip" = none) (ha : DA X W [e, e2] bs t) (hs : starEach [e, e2] X.env = (false, eval e X.env) :: starEach [e2] X.env := by rfl) (hpl : (backTo pos (starEach [e2] X.env)).any (·.1) = false := by rfl) :
    DI X W (.Tuple elts kk tpos) (.Call (.Name "zip" p) [e, e2] [] pos) (iZp t) := by
  refine ⟨fun B => PI.imp (RZ.pi_zipA hg hm (ha.run B) hs hpl) fun σ H R ⟨Φ, lim, g, E, r, hx, q⟩ => ?_, fun g Q Q' E E' hq hE q => ha.mono _ _ _ _ _ (fun τs g1 ⟨o1, ts, o2, us, e, q1⟩ => ⟨o1, ts, o2, us, e, hq _ _ q1⟩) hE q⟩
  refine ⟨Φ, lim, g, E, r, hx, ha.mono _ _ _ _ _ (fun τs g1 q1 vs H1 hl _ r1 => ?_) (fun _ _ _ z => z) q⟩
  obtain ⟨o1, ts, o2, us, rfl, q1⟩ := q1
  match vs, hl with
  | [v, w], _ =>
    have r1 : RepG X.K B lim σ H1 g1 ((v, .node o1 .lst ts) :: (w, .node o2 .lst us) :: Φ) := r1
    obtain ⟨a, xs, rfl, hl1, r2⟩ := RepG.pinned r1
    have r3 : RepG X.K B lim σ H1 g1 ((w, .node o2 .lst us) :: ((.ref a, .pin .lst xs) :: (xs.zip (frzL ts) ++ Φ))) := by
      refine r2.perm ?_
      exact (List.Perm.cons _ List.perm_middle).trans (List.Perm.swap _ _ _)
    obtain ⟨b, ys, rfl, hl2, r4⟩ := RepG.pinned r3
    have r5 : RepG X.K B lim σ H1 g1 (((.ref b, .pin .lst ys) :: (ys.zip (frzL us) ++ ((.ref a, .pin .lst xs) :: xs.zip (frzL ts)))) ++ Φ) := by
      refine r4.perm ?_
      simp only [List.cons_append, List.append_assoc, List.Perm.refl]
    have sq2 : SqL X.K H1 b ys := by
      obtain ⟨b', e, hr⟩ := RepG.pinAt (Φ := (ys.zip (frzL us) ++ ((.ref a, .pin .lst xs) :: xs.zip (frzL ts))) ++ Φ) r5
      cases e
      exact seqL hr
    have sq : SqL X.K H1 a xs := by
      obtain ⟨b', e, hr⟩ := RepG.pinAt (Φ := xs.zip (frzL ts) ++ ((.ref b, .node o2 .lst us) :: Φ)) (show RepG X.K B lim σ H1 g1 ((.ref a, .pin .lst xs) :: (xs.zip (frzL ts) ++ ((.ref b, .node o2 .lst us) :: Φ))) from r2)
      cases e
      exact seqL hr
    exact ⟨a, b, xs, ys, rfl, .inl ⟨sq, sq2, q1 _ _ H1 r5 (walks_zipL (by rw [hl1, frzL_length]) (by rw [hl2, frzL_length]) (fun i t ht => frzL_get ht) fun i t ht => frzL_get ht)⟩⟩
end
section
variable {X : Cx} {W : WX} {m : Nat → Bool} {pos : Pos}
def sPar3 (oi oj ol : Bool) (i j l : Nat) (t : DTA) : DTS := fun D g => t g (fun τs g1 => ∃ x y z, τs = [x, y, z] ∧ D.nx (((g1.set i (some (if oi = true then x else frz x))).set j (some (if oj = true then y else frz y))).set l (some (if ol = true then z else frz z)))) D.ex
theorem ds_par3 (oi oj ol : Bool) {i j l : Nat} {x y z : Str} {a b c : Expr} {t : DTA} {bs : List (Option Nat)} {px py pz pt : Pos} {kt k2 pt2} (hc : X.calm = true) (hN : X.N.Nodup) (hi : X.N[i]? = some x) (hj : X.N[j]? = some y) (hl : X.N[l]? = some z) (hij : i ≠ j) (hil : i ≠ l) (hjl : j ≠ l) (hmi : m i = false) (hmj : m j = false) (hml : m l = false)
    (hx : X.env.scope.names.lookup x = some .local) (hy : X.env.scope.names.lookup y = some .local) (hz : X.env.scope.names.lookup z = some .local) (ha : DA X W [a, b, c] bs t)
    (hw : swappedStores [.Tuple [.Name x px, .Name y py, .Name z pz] kt pt] (.Tuple [a, b, c] k2 pt2) X.env = pure (some [x, y, z]))
    (hs : swapsWithSole [.Tuple [.Name x px, .Name y py, .Name z pz] kt pt] (.Tuple [a, b, c] k2 pt2) pos.line X.env = pure false := by rfl) :
    DS X W m (.Assign [.Tuple [.Name x px, .Name y py, .Name z pz] kt pt] (.Tuple [a, b, c] k2 pt2) pos) (sPar3 oi oj ol i j l t) := by
  refine .mk' (fun B σ0 => ps_par3 hc hN hi hj hl hij hil hjl hx hy hz (ha.run B) hw hs) (fun B σ0 D σ H Φ lim g E r hk hX q => ?_) fun D D' g h q => ha.mono _ _ _ _ _ (fun τs g1 ⟨x', y', z', e, q1⟩ => ⟨x', y', z', e, h.nx _ q1⟩) h.ex q
  refine ⟨Φ, lim, g, E, r, hX σ hk, ha.mono _ _ _ _ _ (fun τs g1 q1 vs H1 hl _ r1 => ?_) (fun _ _ _ z => z) q⟩
  obtain ⟨x', y', z', rfl, q1⟩ := q1
  obtain ⟨u, v, w, rfl⟩ : ∃ u v w, vs = [u, v, w] := by
    match vs, hl with
    | [u, v, w], _ => exact ⟨u, v, w, rfl⟩
  refine ⟨u, v, w, rfl, q1 _ _ ?_ (((hk.set hmi).set hmj).set hml)⟩
  have r2 : RepG X.K B lim σ H1 g1 ((u, x') :: (v, y') :: (w, z') :: Φ) := r1
  have r3 := ((r2.frzIf oi).put' (i := i)).frzIf oj
  have r4 := (r3.put' (i := j)).frzIf ol
  exact r4.put' (i := l)
end
end DL
set_option Elab.async false
set_option linter.all false
set_option maxRecDepth 100000
set_option maxHeartbeats 4000000
namespace DL
open PySem L2
end DL
set_option Elab.async false
set_option linter.all false
set_option maxRecDepth 100000
set_option maxHeartbeats 4000000
namespace DL
open PySem L2
section
variable {K : PySem.W.Frag} {B : Bs} {lim : List Addr} {σ : St} {H : Hp} {g : Ev} {Φ : Its}
theorem RepG.unlim {a : Addr} (h : RepG K B (a :: lim) σ H g Φ) : RepG K B lim σ H g Φ := by
  obtain ⟨F, zs, fp, en, o, f, hl⟩ := h
  exact ⟨F, zs, fp, en, o, f.sub (List.sublist_cons_self _ _), fun b hb => hl b (List.mem_cons_of_mem _ hb)⟩
end
section
variable {X : Cx} {m : Nat → Bool} {es : List Expr} {pos : Pos}
def gSqO (n : Nat) (u : DTGs) : DTG := fun τ g Q => match τ with
  | .node true .tup ts => ts.length = n ∧ u ts g Q
  | _ => False
theorem dg_seqO {k n : Nat} {u : DTGs} (hc : X.calm = true) (h : DGs X m es u) (hn : (assignEach es X.env).length = n := by rfl) (hst : (assignEach es X.env).findIdx? (·.1) = none := by rfl) : DG X m (.Tuple es k pos) (gSqO n u) := by
  refine ⟨fun B σ0 => ⟨fun pins s σ H v w Q I rv ⟨Φ, lim, g, τ, r, hk, q⟩ => ?_⟩, fun τ g Q Q' hq q => ?_⟩
  · unfold gSqO at q
    split at q
    · rename_i ts
      obtain ⟨a, vs, rfl, hl, ha, r'⟩ := r.open_
      exact (pg_tup hc (h.run B σ0) hn hst).run pins s σ H _ w Q I rv ⟨a, vs, rfl, seqT (.inl (.inl ha)), by rw [hl]; exact q.1, _, lim, g, ts, hl, r'.unlim, hk, q.2⟩
    · exact q.elim
  · unfold gSqO at q
    split at q
    · exact ⟨q.1, h.mono _ _ _ _ hq q.2⟩
    · exact q.elim
end
end DL
set_option Elab.async false
set_option linter.all false
set_option maxRecDepth 100000
set_option maxHeartbeats 4000000
namespace DL
open PySem L2
def rtSlA : T → Option Int → Option Int → (T → Prop) → Prop := fun τ lo hi Q => match τ with
  | .node _ .lst ts => Q (.node true .lst (cutA (frzL ts) lo hi))
  | .node _ .tup ts => Q (.node false .tup (cutA (frzL ts) lo hi))
  | .pin .lst vs => Q (.node true .lst ((cutA vs lo hi).map .leaf))
  | .leaf (.str z) => z.length ≤ sizeLine ∧ Q (.leaf (.str (cutS z lo hi)))
  | _ => False
theorem rtSlA_mono {τ : T} {lo hi : Option Int} {Q Q' : T → Prop} (h : ∀ τ, Q τ → Q' τ) (q : rtSlA τ lo hi Q) : rtSlA τ lo hi Q' := by
  unfold rtSlA at q ⊢
  split at q
  · exact h _ q
  · exact h _ q
  · exact h _ q
  · exact ⟨q.1, h _ q.2⟩
  · exact q.elim
def xSlA (te : DTE) (tl th : DTO) : DTE := fun g Q E => te g (fun τ g1 => tl g1 (fun l g2 => th g2 (fun u g3 => rtSlA τ l u fun τ' => Q τ' g3) E) E) E
section
variable {X : Cx} {W : WX} {e : Expr} {lo hi : Option Expr} {te : DTE} {tl th : DTO} {pos p2 : Pos}
theorem cutA_frz (ts : List T) (lo hi : Option Int) : frzL (cutA (frzL ts) lo hi) = cutA (frzL ts) lo hi := by
  unfold cutA
  rw [frzL_map, List.map_take, List.map_drop, ← frzL_map, frzL_frzL]
theorem d_sliceA (he : DE X W e te) (hl : DO X W lo tl) (hu : DO X W hi th) : DE X W (.Subscript e (.Slice lo hi none p2) pos) (xSlA te tl th) := by
  refine ⟨fun B => PE.imp (pe_slice ((SlR.or (sl_list (X := X)) (sl_tupA (X := X))).or sl_str) (he.run B) (hl.run B) (hu.run B)) fun σ H Q ⟨Φ, lim, g, E, r, hx, q⟩ => ?_, fun g Q Q' E E' hq hE q => he.mono _ _ _ _ _ (fun τ g1 q1 => hl.mono _ _ _ _ _ (fun l g2 q2 => hu.mono _ _ _ _ _ (fun u g3 q3 => rtSlA_mono (fun τ z => hq _ _ z) q3) hE q2) hE q1) hE q⟩
  refine ⟨Φ, lim, g, E, r, hx, he.mono _ _ _ _ _ (fun τ g1 q1 v H1 r1 => ?_) (fun _ _ _ z => z) q⟩
  refine ⟨(v, τ) :: Φ, lim, g1, E, r1, hx, hl.mono _ _ _ _ _ (fun l g2 q2 H2 r2 => ?_) (fun _ _ _ z => z) q1⟩
  refine ⟨(v, τ) :: Φ, lim, g2, E, r2, hx, hu.mono _ _ _ _ _ (fun u g3 q3 H3 r3 => ?_) (fun _ _ _ z => z) q2⟩
  unfold rtSlA at q3
  split at q3
  · rename_i o ts
    obtain ⟨ad, us, rfl, hlen, hr, r4⟩ := r3.parts
    refine .inl (.inl ⟨ad, us, rfl, seqL hr, fun q hq => q3 _ _ ?_⟩)
    exact make_cut .lst (ts := frzL ts) (by rw [hlen, frzL_length]) ((r4.perm (List.perm_append_comm (l₁ := us.zip (frzL ts)) (l₂ := (V.ref ad, T.node false .lst (frzL ts)) :: Φ))).dropT.perm List.perm_append_comm) hq
  · rename_i o ts
    obtain ⟨ad, us, rfl, hlen, hr, r4⟩ := r3.parts
    have hlu : us.length = (frzL ts).length := by rw [hlen, frzL_length]
    refine .inl (.inr ⟨ad, us, rfl, seqT hr, fun hw => q3 _ _ ?_, fun hw q hq => q3 _ _ ?_⟩)
    · have e1 : cutA (frzL ts) l u = frzL ts := by
        unfold cutA
        rw [← hlu, hw.1, hw.2, List.drop_zero, Nat.sub_zero, hlu, List.take_length]
      rw [e1]
      exact (r4.perm (List.perm_middle)).one (i := 0) (zs := (V.ref ad, T.node false .tup (frzL ts)) :: us.zip (frzL ts)) rfl
    · have r5 := make_cut .tup (ts := frzL ts) (lo := l) (hi := u) (by rw [hlen, frzL_length]) ((r4.perm (List.perm_append_comm (l₁ := us.zip (frzL ts)) (l₂ := (V.ref ad, T.node false .tup (frzL ts)) :: Φ))).dropT.perm List.perm_append_comm) hq
      have r6 := r5.freezeT
      rw [frz_node, cutA_frz] at r6
      exact r6
  · rename_i vs
    obtain ⟨ad, rfl, hr⟩ := r3.pinAt
    refine .inl (.inl ⟨ad, vs, rfl, seqL hr, fun q hq => q3 _ _ ?_⟩)
    exact make_of .lst (by simp) (leavesR r3.dropT (cutV vs l u)) hq
  · rename_i z
    obtain rfl := r3.leaf
    exact .inr ⟨z, rfl, q3.1, q3.2 _ _ r3.dropT.addLeaf⟩
  · exact q3.elim
end
end DL
set_option Elab.async false
set_option linter.all false
set_option maxRecDepth 100000
set_option maxHeartbeats 4000000
namespace DL
open PySem L2
section
variable {K : PySem.W.Frag} {B : Bs} {lim : List Addr} {σ : St} {H : Hp} {g : Ev} {Φ : Its}
theorem RepG.rebase (r : RepG K B lim σ H g Φ) : ∃ B', RepG K B' [] σ H g Φ ∧ ∀ σ1 H1 g1 Ψ, RepG K B' [] σ1 H1 g1 Ψ → RepG K B lim σ1 H1 g1 Ψ ∧ ∀ a ∈ lim, H1 a = H a := by
  obtain ⟨F, zs, fp, en, o, f, hl⟩ := r
  have trk : ∀ a ∈ fp, H a ≠ none := fun a ha => o.tracked a ha
  have ndl := (List.nodup_append.mp f.nd)
  refine ⟨⟨H, F, fp⟩, ⟨F, zs, fp, en, o, ⟨ndl.2.1, fun a z => f.off a (List.mem_append_right _ z), f.trk, fun _ z => z, fun _ _ e _ => e, fun _ z => .inl z, fun _ z => .inl z, fun _ _ e => e⟩, fun _ z => nomatch z⟩, fun σ1 H1 g1 Ψ r1 => ?_⟩
  obtain ⟨F1, zs1, fp1, en1, o1, f1, _⟩ := r1
  rw [List.nil_append] at f1
  have notfp : ∀ a ∈ lim, a ∉ fp := fun a ha hb => ndl.2.2 a ha a hb rfl
  have same : ∀ a ∈ lim, H1 a = H a := fun a ha => by
    cases q : H a with
    | none => exact absurd q (hl a ha)
    | some u => exact f1.keep a u q (notfp a ha)
  have b0 : ∀ a, H a = none → a ∈ B.fp0 ∨ B.H0 a = none := fun a ha => by
    by_cases hb : a ∈ B.fp0
    · exact .inl hb
    · refine .inr ?_
      cases q : B.H0 a with
      | none => rfl
      | some u => rw [f.keep a u q hb] at ha; cases ha
  refine ⟨⟨F1, zs1, fp1, en1, o1, ⟨?_, fun a z => ?_, f1.trk, fun a z => f1.inc a (f.inc a z), fun a u e n => ?_, fun a z => ?_, fun a z => ?_, fun a vs e => f1.keepT a vs (f.keepT a vs e)⟩, fun a ha => by rw [same a ha]; exact hl a ha⟩, same⟩
  · refine List.nodup_append.mpr ⟨ndl.1, f1.nd, fun a ha b hb e => ?_⟩
    subst e
    rcases f1.newO a hb with z | z
    · exact notfp a ha z
    · exact hl a ha z
  · rcases List.mem_append.mp z with z | z
    · intro q
      rcases f1.newF a q with y | y | y
      · exact f.off a (List.mem_append_left _ z) y
      · exact notfp a z y
      · exact hl a z y
    · exact f1.off a z
  · have e1 := f.keep a u e n
    refine f1.keep a u e1 fun z => ?_
    rcases f.newO a (List.mem_append_right _ z) with y | y
    · exact n y
    · rw [e] at y; cases y
  · rcases f1.newF a z with y | y | y
    · exact f.newF a y
    · rcases f.newO a (List.mem_append_right _ y) with q | q
      · exact .inr (.inl q)
      · exact .inr (.inr q)
    · exact .inr (b0 a y)
  · rcases List.mem_append.mp z with z | z
    · exact f.newO a (List.mem_append_left _ z)
    · rcases f1.newO a z with y | y
      · exact f.newO a (List.mem_append_right _ y)
      · exact b0 a y
end
abbrev endO (v i : Nat) (ts : List T) (R : List T → Ev → Prop) (D : DEnds) : DEnds :=
  { nx := fun g' => atSlot v g' fun t' => R (ts.set i t') (g'.set v none), ct := fun g' => atSlot v g' fun t' => R (ts.set i t') (g'.set v none), bk := fun _ => False, rt := D.rt, ex := D.ex }
def loopO (d v : Nat) (tb : DTS) (D : DEnds) : Nat → List T → Ev → Prop
  | 0, ts, g => D.nx (g.set d (some (.node true .lst ts)))
  | k + 1, ts, g => ∃ t, ts[ts.length - (k + 1)]? = some t ∧ tb (endO v (ts.length - (k + 1)) ts (loopO d v tb D k) D) (g.set v (some t))
inductive LoopO (d v : Nat) (tb : DTS) (D : DEnds) (ts : List T) (g : Ev) : Prop where
  | mk (h : loopO d v tb D ts.length ts g) : LoopO d v tb D ts g
theorem LoopO.out {d v : Nat} {tb : DTS} {D : DEnds} {ts : List T} {g : Ev} : LoopO d v tb D ts g → loopO d v tb D ts.length ts g
  | ⟨h⟩ => h
end DL
set_option Elab.async false
set_option linter.all false
set_option maxRecDepth 100000
set_option maxHeartbeats 4000000
namespace DL
open PySem L2 PySem.Spec PyProof.Rows
theorem u65 {k : Nat} {A : Around} (r : Room k A) : A.units + 65 < cLine := by
  have := r.un
  omega
section
variable {X : Cx} {W : WX} {a b : Expr} {ta tb : DTE} {pos : Pos}
def rInTD (K : PySem.W.Frag) (neg : Bool) : R2 := fun x y H Q => ∃ d ds, Dp K H x d ∧ Dp K H y (.tuple ds) ∧ SeqAt.shaped d = true ∧ SeqAt.shaped (.tuple ds) = true ∧ Q (.bl (if neg then !(ds.any fun z => PyData.eqv z d) else ds.any fun z => PyData.eqv z d)) H
theorem op_inTD (hu : X.A.units + 65 < cLine) : OpR X (compareOp .In) (rInTD X.K false) := by
  intro pins s σ H x y v u Q I rx ry h
  obtain ⟨d, ds, hd, he, sd, se, q⟩ := h
  obtain ⟨as, r1⟩ := Dp.reads I d x v hd rx
  obtain ⟨bs, r2⟩ := Dp.reads I (.tuple ds) y u he ry
  exact SeqAt.in_tuple_reads r2 r1 (SeqAt.canLay_of_shaped se) (SeqAt.canLay_of_shaped sd) (room_in_shaped sd hu) ⟨.bl _, H, I, rfl, q⟩
def rtInT (neg : Bool) : R2T := fun τ1 τ2 Q => ∃ d ds, toP τ1 = some d ∧ toP τ2 = some (.tuple ds) ∧ SeqAt.shaped d = true ∧ SeqAt.shaped (.tuple ds) = true ∧ Q (.leaf (.bl (if neg then !(ds.any fun z => PyData.eqv z d) else ds.any fun z => PyData.eqv z d)))
theorem op2_inT {K : PySem.W.Frag} {neg : Bool} : Op2 K (rInTD K neg) (rtInT neg) := by
  refine ⟨fun B lim σ H g Φ v1 v2 τ1 τ2 Q r q => ?_, fun τ1 τ2 Q Q' hq ⟨d, ds, h1, h2, h3, h4, q⟩ => ⟨d, ds, h1, h2, h3, h4, hq _ q⟩⟩
  obtain ⟨d, ds, h1, h2, h3, h4, q⟩ := q
  exact ⟨d, ds, r.dropT.dp h1, r.dp h2, h3, h4, q _ _ r.dropT.dropT.addLeaf⟩
end
end DL
set_option Elab.async false
set_option linter.all false
set_option maxRecDepth 100000
set_option maxHeartbeats 4000000
namespace DL
open PySem L2
end DL
set_option Elab.async false
set_option linter.all false
set_option maxRecDepth 100000
set_option maxHeartbeats 4000000
namespace DL
open PySem PySem.Spec PyProof.Rows L2 W
theorem alike_keys {ds : List (List Int)} : AllAlike (ds.map tupD) := fun d hd e he => by
  obtain ⟨a, _, rfl⟩ := List.mem_map.mp hd
  obtain ⟨b, _, rfl⟩ := List.mem_map.mp he
  exact alike_tupD a b
end DL
set_option Elab.async false
set_option linter.all false
set_option maxRecDepth 100000
set_option maxHeartbeats 4000000
namespace DL
open PySem L2
end DL
set_option Elab.async false
set_option linter.all false
set_option maxRecDepth 100000
set_option maxHeartbeats 4000000
namespace DL
open PySem PySem.Spec PyProof.Rows L2 W
end DL
set_option Elab.async false
set_option linter.all false
set_option maxRecDepth 100000
set_option maxHeartbeats 4000000
namespace DL
open PySem PySem.Spec PyProof.Rows L2 W
section
variable {X : Cx} {W : WX} {a b : Expr} {ta tb : DTE} {pos : Pos}
theorem dt_inT (hu : X.A.units + 65 < cLine) (hm : behindInMarks .In b = false) (ha : DE X W a ta) (hb : DE X W b tb) : DT X W (.Compare a [.In] [b] pos) (xB (xOp (rtInT false) ta tb)) := dt_cmp (op_inTD hu) op2_inT ha hb hm
end
end DL
set_option Elab.async false
set_option linter.all false
set_option maxRecDepth 100000
set_option maxHeartbeats 4000000
namespace DL
open PySem PySem.Spec PyProof.Rows L2 W
end DL
set_option Elab.async false
set_option linter.all false
set_option maxRecDepth 100000
set_option maxHeartbeats 4000000
namespace DL
open PySem PySem.Spec PyProof.Rows L2 W
end DL
set_option Elab.async false
set_option linter.all false
set_option maxRecDepth 100000
set_option maxHeartbeats 4000000
namespace DL
open PySem PySem.Spec PyProof.Rows L2 W
section
variable {X : Cx}
theorem each_ints : ∀ {vs : List Value} {ns : List Int}, IntsAre vs ns → EachIs (fun v (n : Int) => ∃ t, v = Value.int n t) vs ns
  | _, _, .nil => .nil
  | _, _, .cons n t h => .cons ⟨t, rfl⟩ (each_ints h)
theorem ints_each2 : ∀ {vs : List Value} {ns : List Int}, EachIs (fun v (n : Int) => ∃ t, v = Value.int n t) vs ns → IntsAre vs ns
  | _, _, .nil => .nil
  | _, _, .cons ⟨t, e⟩ h => by
    subst e
    exact .cons _ t (ints_each2 h)
end
section
variable {X : Cx} {W : WX} {e : Expr} {td : DTE} {pos p : Pos}
theorem RepG.addLs {K : PySem.W.Frag} {B : Bs} {lim : List Addr} {σ : L2.St} {H : Hp} {g : Ev} {Φ : Its} (h : RepG K B lim σ H g Φ) : ∀ {vs : List V}, RepG K B lim σ H g (vs.zip (vs.map .leaf) ++ Φ)
  | [] => h
  | v :: vs => RepG.addLeaf (v := v) (RepG.addLs h (vs := vs))
end
end DL
set_option Elab.async false
set_option linter.all false
set_option maxRecDepth 100000
set_option maxHeartbeats 4000000
namespace DL
open PySem PySem.Spec PyProof.Rows L2 W
def Grow (H H' : Hp) : Prop := ∀ b o, H b = some o → H' b = some o
theorem Grow.rd {H H' : Hp} (h : Grow H H') {a : Addr} {o : HO} (r : Rd H a o) : Rd H' a o := r.elim (fun e => .inl (h _ _ e)) fun ⟨k, e⟩ => .inr ⟨k, h _ _ e⟩
section
variable {K : PySem.W.Frag} {H H' : Hp}
theorem Grow.sqL (h : Grow H H') {a : Addr} {vs : List V} (r : SqL K H a vs) : SqL K H' a vs := r.elim (fun e => .inl (h.rd e)) .inr
theorem Grow.sqT (h : Grow H H') {a : Addr} {vs : List V} (r : SqT K H a vs) : SqT K H' a vs := r.elim (fun e => .inl (h.rd e)) .inr
mutual
theorem Grow.dp (h : Grow H H') : ∀ (d : PyData) {v : V}, Dp K H v d → Dp K H' v d
  | .none, _, q => by cases q; exact .non
  | .bool _, _, q => by cases q; exact .bl _
  | .int _, _, q => by cases q; exact .int _
  | .str _, _, q => by cases q; exact .str _
  | .list ds, _, q => by
    cases q with
    | lst hs ha => exact .lst (h.sqL hs) (Grow.dps h ds ha)
  | .tuple ds, _, q => by
    cases q with
    | tup hs ha => exact .tup (h.sqT hs) (Grow.dps h ds ha)
  | .dict _, _, q => by cases q
theorem Grow.dps (h : Grow H H') : ∀ (ds : List PyData) {vs : List V}, DpAll K H vs ds → DpAll K H' vs ds
  | [], _, q => by cases q; exact .nil
  | d :: ds, _, q => by
    cases q with
    | cons a b => exact .cons (Grow.dp h d a) (Grow.dps h ds b)
end
end
end DL
set_option Elab.async false
set_option linter.all false
set_option maxRecDepth 100000
set_option maxHeartbeats 4000000
namespace DL
open PySem PySem.Spec PyProof.Rows L2 W
end DL
namespace DL
open PySem PySem.Spec PyProof.Rows L2 W
def xFz (te : DTE) : DTE := fun g Q E => te g (fun τ g1 => Q (frz τ) g1) E
theorem d_fz {X : Cx} {W : WX} {e : Expr} {te : DTE} (he : DE X W e te) : DE X W e (xFz te) :=
  ⟨fun B => PE.imp (he.run B) fun σ H Q ⟨Φ, lim, g, E, r, hx, q⟩ => ⟨Φ, lim, g, E, r, hx, he.mono _ _ _ _ _ (fun τ g1 q1 v H1 r1 => q1 v H1 r1.freezeT) (fun _ _ _ z => z) q⟩, fun g Q Q' E E' hq hE q => he.mono _ _ _ _ _ (fun τ g1 q1 => hq _ _ q1) hE q⟩
end DL
set_option Elab.async false
set_option linter.all false
set_option maxRecDepth 100000
set_option maxHeartbeats 4000000
namespace DL
open PySem PySem.Spec PyProof.Rows L2
class Kls where
  a : Nat → Addr
theorem lookup_zip {ns : List Str} {f : Str} : ∀ {vs : List V} {j : Nat} {v : V}, ns.idxOf? f = some j → vs[j]? = some v → (ns.zip vs).lookup f = some v := by
  induction ns with
  | nil => intro vs j v h _; simp at h
  | cons n ns ih =>
    intro vs j v h hv
    cases vs with
    | nil => cases hv
    | cons w vs =>
      by_cases hn : n = f
      · subst hn
        rw [List.idxOf?_cons] at h
        simp at h
        subst h
        cases hv
        simp [List.lookup]
      · rw [List.idxOf?_cons] at h
        simp [hn] at h
        obtain ⟨i, hi, rfl⟩ := h
        have := ih (vs := vs) (j := i) (v := v) hi (by simpa using hv)
        rw [List.zip_cons_cons, List.lookup_cons]
        have hne : (f == n) = false := by simp; exact fun z => hn z.symm
        rw [hne]
        exact this
theorem putF_new {ns : List Str} {f : Str} {v : V} : ∀ {vs : List V}, ns.length = vs.length → ns.contains f = false → putF f v (ns.zip vs) = (ns ++ [f]).zip (vs ++ [v]) := by
  induction ns with
  | nil => intro vs hl _; cases vs with | nil => rfl | cons => cases hl
  | cons n ns ih =>
    intro vs hl h
    cases vs with
    | nil => cases hl
    | cons w vs =>
      rw [List.contains_cons, Bool.or_eq_false_iff] at h
      have hn : ¬ n = f := fun z => by rw [z] at h; simp at h
      show (if n = f then _ else _) = _
      rw [if_neg hn]
      show (n, w) :: putF f v (ns.zip vs) = _
      rw [ih (by simpa using hl) h.2]
      rfl
section
variable {X : Cx} {W : WX} {m : Nat → Bool} {e o : Expr} {te : DTE} {t : DTA} {bs : List (Option Nat)} {pos apos p : Pos} {f : Str}
def fldT (C0 : Addr) (ns0 : List Str) (j : Nat) (τ : T) (Q : T → Prop) : Prop := match τ with
  | .node false (.ins C _ ns) ts => C = C0 ∧ ns = ns0 ∧ ∃ t, ts[j]? = some t ∧ Q t
  | _ => False
theorem fldT_mono {C0 : Addr} {ns0 : List Str} {j : Nat} {τ : T} {Q Q' : T → Prop} (h : ∀ t, Q t → Q' t) (q : fldT C0 ns0 j τ Q) : fldT C0 ns0 j τ Q' := by
  unfold fldT at q ⊢
  split at q
  · obtain ⟨a, b, t, ht, q⟩ := q
    exact ⟨a, b, t, ht, h _ q⟩
  · exact q.elim
theorem fldT_of {C0 : Addr} {ns0 : List Str} {j : Nat} {τ : T} {Q : T → Prop} (q : fldT C0 ns0 j τ Q) : ∃ dx ts t, τ = .node false (.ins C0 dx ns0) ts ∧ ts[j]? = some t ∧ Q t := by
  unfold fldT at q
  split at q
  · obtain ⟨rfl, rfl, t, ht, q⟩ := q
    exact ⟨_, _, t, rfl, ht, q⟩
  · exact q.elim
def xFld (C0 : Addr) (ns0 : List Str) (j : Nat) (te : DTE) : DTE := fun g Q E => te g (fun τ g1 => fldT C0 ns0 j τ fun t => Q t g1) E
theorem d_fld {C0 : Addr} {ns0 : List Str} {j : Nat} (he : DE X W e te) (c : Cls X.K C0) (n : NoAttr X.K C0 f) (hj : ns0.idxOf? f = some j) (hb : attributeBase e f X.env (eval e X.env) = eval e X.env := by rfl) : DE X W (.Attribute e f pos) (xFld C0 ns0 j te) := by
  refine ⟨fun B => PE.imp (pe_fld (he.run B) hb) fun σ H Q ⟨Φ, lim, g, E, r, hx, q⟩ => ?_, fun g Q Q' E E' hq hE q => he.mono _ _ _ _ _ (fun τ g1 q1 => fldT_mono (fun t z => hq _ _ z) q1) hE q⟩
  refine ⟨Φ, lim, g, E, r, hx, he.mono _ _ _ _ _ (fun τ g1 q1 v H1 r1 => ?_) (fun _ _ _ z => z) q⟩
  obtain ⟨dx, ts, t, rfl, ht, q1⟩ := fldT_of q1
  obtain ⟨a, vs, rfl, hl, hH, r2⟩ := RepG.kidsH (s := .ins C0 dx ns0) (by intro z; cases z) r1
  obtain ⟨x, hx2, hz⟩ := zip_get (l := vs) (r := ts) hl ht
  exact ⟨a, C0, dx, _, x, rfl, hH, c, n, lookup_zip hj hx2, q1 _ _ ((r2.one hz).perm (List.Perm.swap _ _ _)).dropT⟩
def ownI (C0 : Addr) (ns0 : List Str) (τ : T) (P : Addr → List T → Prop) : Prop := match τ with
  | .node true (.ins C dx ns) ts => C = C0 ∧ ns = ns0 ∧ P dx ts
  | _ => False
theorem ownI_mono {C0 : Addr} {ns0 : List Str} {τ : T} {P P' : Addr → List T → Prop} (h : ∀ dx ts, P dx ts → P' dx ts) (q : ownI C0 ns0 τ P) : ownI C0 ns0 τ P' := by
  unfold ownI at q ⊢
  split at q
  · exact ⟨q.1, q.2.1, h _ _ q.2.2⟩
  · exact q.elim
theorem ownI_of {C0 : Addr} {ns0 : List Str} {τ : T} {P : Addr → List T → Prop} (q : ownI C0 ns0 τ P) : ∃ dx ts, τ = .node true (.ins C0 dx ns0) ts ∧ P dx ts := by
  unfold ownI at q
  split at q
  · obtain ⟨rfl, rfl, q⟩ := q
    exact ⟨_, _, rfl, q⟩
  · exact q.elim
def sFldN (k : Nat) (C0 : Addr) (ns0 : List Str) (f : Str) (te : DTE) : DTS := fun D g => te g (fun τ g1 => atSlot k g1 fun t0 => ownI C0 ns0 t0 fun dx ts => ns0.length = ts.length ∧ D.nx (g1.set k (some (.node true (.ins C0 dx (ns0 ++ [f])) (ts ++ [τ]))))) D.ex
theorem ds_fldN {C0 : Addr} {ns0 : List Str} (k : Nat) (ho : PE X o (tVar k)) (he : DE X W e te) (c : Cls X.K C0) (n : NoAttr X.K C0 f) (hn : ns0.contains f = false) (hlt : ns0.length < 1000) {p1 : Pos}
    (hs : swapsWith e (some (.Attribute o f p1)) pos.line X.env = pure false := by rfl) : DS X W m (.Assign [.Attribute o f p1] e pos) (sFldN k C0 ns0 f te) := by
  refine .mk' (fun B σ0 => ps_fld ho (he.run B) hs) (fun B σ0 D σ H Φ lim g E r hk hX q => ?_) fun D D' g h q => he.mono _ _ _ _ _ (fun τ g1 q1 => atSlot_mono (fun t0 q => ownI_mono (fun dx ts ⟨hl, q⟩ => ⟨hl, h.nx _ q⟩) q) q1) h.ex q
  refine ⟨Φ, lim, g, E, r, hX σ hk, he.mono _ _ _ _ _ (fun τ g1 q1 v H1 r1 => ?_) (fun _ _ _ z => z) q⟩
  obtain ⟨t0, h0, q1⟩ := atSlot_of q1
  obtain ⟨dx, ts, rfl, hl0, q1⟩ := ownI_of q1
  obtain ⟨a, us, hv, hl, hH, rn⟩ := r1.renew (s' := .ins C0 dx (ns0 ++ [f])) h0 (by intro z; cases z)
  refine ⟨_, hv, a, C0, dx, _, rfl, hH, c, n, by simp; omega, ?_⟩
  have r2 := rn (us.zip ts ++ [(v, τ)]) Φ (by rw [List.append_assoc]; exact List.Perm.refl _)
  rw [List.map_append, List.map_append, List.map_fst_zip (by omega), List.map_snd_zip (by omega)] at r2
  have e1 : putF f v (ns0.zip us) = (ns0 ++ [f]).zip (us ++ [v]) := putF_new (by omega) hn
  rw [e1]
  exact q1 σ _ r2 hk
end
section
variable {X : Cx} {W : WX} {e o : Expr} {es : List Expr} {te : DTE} {t : DTA} {bs : List (Option Nat)} {pos p : Pos} {x : Str} {k : Nat} {C0 : Addr} {sp : DSp} {fl : List Bool}
def headT (us : List T) (P : T → List T → Prop) : Prop := match us with
  | s :: r => P s r
  | [] => False
theorem make_sp {B : Bs} {σ : L2.St} {H : Hp} {Φ : Its} {lim : List Addr} {g1 : Ev} {E : XP} {vs : List V} {τs : List T} {v : V} {τ0 : T} {Q : VK} {Q' : T → Ev → Prop} (hm : MonoD sp) (hx : liftX X.K B W σ E) (hl : vs.length = τs.length) (hb : BackOk σ vs bs)
    (r : RepG X.K B lim σ H g1 ((v, τ0) :: (vs.zip τs ++ Φ))) (hq : ∀ self g' w H', Q' self g' → RepG X.K B lim σ H' g' ((v, self) :: (w, .leaf .non) :: Φ) → Q w H')
    (q : sp (τ0 :: τs) (fun τ us => τ = .leaf .non ∧ headT us fun self us' => Q' self (restore g1 bs us')) (fun c fs us => E c fs (restore g1 bs us.tail))) :
    spD X.K X.mg (true :: bs.map Option.isSome) sp (v :: vs) H Q (WE (upW X.mg W) σ) := by
  obtain ⟨F, zs, fp, en, oz, f, hlim⟩ := r
  have p1 : (zs ++ ((v, τ0) :: (vs.zip τs ++ Φ))).Perm (((v :: vs).zip (τ0 :: τs)) ++ (zs ++ Φ)) := by
    have e1 : (zs ++ (((v, τ0) :: vs.zip τs) ++ Φ)).Perm (((v, τ0) :: vs.zip τs) ++ (zs ++ Φ)) := by
      rw [← List.append_assoc, ← List.append_assoc]
      exact List.Perm.append_right _ List.perm_append_comm
    exact e1
  obtain ⟨fp', pf, o'⟩ := oz.perm p1
  obtain ⟨fpA, fpR, rfl, oA, oR⟩ := o'.split
  have f' := f.perm (List.Perm.append_left lim pf)
  have nd := (List.nodup_append.mp f'.nd).2.1
  refine ⟨τ0 :: τs, F, fpA, OwnL.unzip (by simp [hl]) oA, (List.nodup_append.mp nd).1, fun a ha => f'.off a (List.mem_append_right _ (List.mem_append_left _ ha)), f'.trk, by rw [List.length_cons, List.length_cons, List.length_map]; exact congrArg (· + 1) (backOk_len hb), ?_⟩
  refine hm _ _ _ _ _ (fun τ us q1 w H' aft => ?_) (fun c fs us q1 d H' cv hs aft xd => ?_) q
  · obtain ⟨F', f2, hlen, o2, fn⟩ := aft
    obtain ⟨rfl, q1⟩ := q1
    cases us with
    | nil => exact q1.elim
    | cons self us' =>
      have r2 := call_frame en oR f' hlim o2 fn
      have hlen2 : (pick (bs.map Option.isSome) vs).length = us'.length := by simpa [pick] using hlen
      have r3 : RepG X.K B lim σ H' g1 ((pick (bs.map Option.isSome) vs).zip us' ++ ((v, self) :: (w, .leaf .non) :: Φ)) := by
        refine r2.perm ?_
        show (((v, self) :: (pick (bs.map Option.isSome) vs).zip us') ++ [(w, T.leaf .non)] ++ Φ).Perm _
        rw [List.append_assoc, List.cons_append]
        exact List.perm_middle.symm
      exact hq _ _ _ _ q1 (RepG.restore hb hlen2 r3)
  · obtain ⟨F', f2, hlen, o2, fn⟩ := aft
    cases us with
    | nil => simp [pick] at hlen
    | cons self us' =>
      have r2 := call_frame en oR f' hlim o2 fn
      have hlen2 : (pick (bs.map Option.isSome) vs).length = us'.length := by simpa [pick] using hlen
      have r3 : RepG X.K B lim σ H' g1 ((pick (bs.map Option.isSome) vs).zip us' ++ ((v, self) :: Φ)) := by
        refine r2.perm ?_
        show (((v, self) :: (pick (bs.map Option.isSome) vs).zip us') ++ [] ++ Φ).Perm _
        rw [List.append_nil, List.cons_append]
        exact List.perm_middle.symm
      exact ⟨c, hs, hx c fs _ d H' (RepG.restore hb hlen2 r3).only xd q1⟩
end
end DL
set_option Elab.async false
set_option linter.all false
set_option maxRecDepth 100000
set_option maxHeartbeats 4000000
namespace DL
open PySem PySem.Spec PyProof.Rows L2
section
variable {X : Cx} {k : Nat} {C f : Addr} {mc : Value} {fd : FuncData} {ps : List Str} {sp : Sp} {E : L2.St → XK} {x m : Str} {p pos apos : Pos} {e : Expr} {es : List Expr} {t : TA} {pl : Sem Bool}
structure CDef (K : PySem.W.Frag) (C : Addr) (mc : Value) (m : Str) (f : Addr) : Prop where
  rd : PySem.W.readsIn K C mc = true
  ga : PySem.W.specialIn K (.ref C) "__getattribute__" = some (some (.builtin "type.__getattribute__"))
  at_ : PySem.W.findCls K (.ref C) mc m = some (.val (.ref f))
  kp : PySem.W.keepIn K (.ref f) = true
theorem pe_clsG (c : CDef X.K C mc m f) (F : FnG X.prog X.w X.K X.mg X.base k f fd ps sp) (hr : Room k X.A) (hgd : X.A.guards = some []) (hg : Gl X x) (hmg : X.mg x = some (.ref C)) (hb : Binds X.K fd ps []) (hx : ∀ σ, PassesAt (L2.CX X.prog X.w) X σ (E σ)) (ha : PA X (e :: es) t)
    (hdb : (x == ("__debug__" : Str)) = false := by decide) (hst : starEach (e :: es) X.env = (false, eval e X.env) :: starEach es X.env := by rfl) (hpl : (backTo pos (starEach es X.env)).any (·.1) = false := by rfl)
    (ht : eval (.Call (.Attribute (.Name x p) m apos) (e :: es) [] pos) X.env = (do
      let ov ← eval (.Name x p) X.env
      standAt apos.atName
      let (f, first) ← holding [ov] (getMethod ov m pl)
      callWith pos f first (backTo pos (starEach (e :: es) X.env)) (backToKw pos (keywordEach [] X.env))) := by rfl) :
    PE X (.Call (.Attribute (.Name x p) m apos) (e :: es) [] pos) (tCallS sp E t) := by
  refine ⟨fun pins s σ H Q I h => ?_⟩
  have hn : PE X (.Name x p) (tC (.ref C)) := pe_glob hg hmg rfl hdb
  refine PySem.W.methodCall_KW (pl := pl) (thn (hn.run pins s σ H (fun v H1 => v = .ref C ∧ H1 = H) I ⟨rfl, rfl⟩) fun u s1 ⟨y, H1, I1, ry, ey, eH⟩ => ?_) ht
  subst ey eH
  obtain rfl : u = Value.ref C := ry
  refine PySem.W.method_cls I1.kIn c.ga (ClX.getcval_ok I1 ⟨c.rd, c.ga⟩ (v := .ref f) ⟨c.at_, rfl⟩ fun s2 I2 => ?_)
  refine PySem.W.callWith_K (first := []) (h₀ := X.base) I2.ok.mod.kin c.kp (thn (ha.run pos pins s2 σ H1 _ I2 h) fun us s3 ⟨vs, H2, I3, r, q2⟩ => ⟨I3.kIn, ?_⟩) hst hpl
  exact run_fnG F hr hgd hb (hx σ) I3 r q2
end
section
variable {X : Cx} {W : WX} {k : Nat} {C f : Addr} {mc : Value} {fd : FuncData} {ps : List Str} {sp : DSp} {x m : Str} {p pos apos : Pos} {e : Expr} {es : List Expr} {t : DTA} {bs : List (Option Nat)} {fl : List Bool}
theorem d_callC (c : CDef X.K C mc m f) (F : FnG X.prog X.w X.K X.mg X.base k f fd ps (spD X.K X.mg fl sp)) (hm : MonoD sp) (hr : Room k X.A) (hgd : X.A.guards = some []) (hg : Gl X x) (hmg : X.mg x = some (.ref C)) (hb : Binds X.K fd ps []) (tk : Takes X (upW X.mg W)) (ha : DA X W (e :: es) bs t) (hfl : bs.map Option.isSome = fl := by rfl)
    {pl : Sem Bool} (hdb : (x == ("__debug__" : Str)) = false := by decide) (hst : starEach (e :: es) X.env = (false, eval e X.env) :: starEach es X.env := by rfl) (hpl : (backTo pos (starEach es X.env)).any (·.1) = false := by rfl)
    (ht : eval (.Call (.Attribute (.Name x p) m apos) (e :: es) [] pos) X.env = (do
      let ov ← eval (.Name x p) X.env
      standAt apos.atName
      let (f, first) ← holding [ov] (getMethod ov m pl)
      callWith pos f first (backTo pos (starEach (e :: es) X.env)) (backToKw pos (keywordEach [] X.env))) := by rfl) : DE X W (.Call (.Attribute (.Name x p) m apos) (e :: es) [] pos) (xCall sp bs t) := by
  subst hfl
  refine ⟨fun B => PE.imp (pe_clsG c F hr hgd hg hmg hb (fun σ => passAt tk σ) (ha.run B) hdb hst hpl ht) fun σ H Q ⟨Φ, lim, g, E, r, hx, q⟩ => ?_, xCall_mono hm ha.mono⟩
  exact ⟨Φ, lim, g, E, r, hx, ha.mono _ _ _ _ _ (fun τs g1 q1 vs H1 hl hb r1 => call_sp hm hx hl hb r1 (hm _ _ _ _ _ (fun τ us z => z) (fun _ _ _ z => z) q1)) (fun _ _ _ z => z) q⟩
end
end DL
set_option Elab.async false
set_option linter.all false
set_option maxRecDepth 100000
set_option maxHeartbeats 4000000
namespace DL
open PySem PySem.Spec PyProof.Rows L2
section
variable {X : Cx} {k : Nat} {C f : Addr} {fd : FuncData} {ps : List Str} {sp : Sp} {E : L2.St → XK} {x m : Str} {p pos apos : Pos} {e : Expr} {es : List Expr} {t : TA} {ds : List Value} {dvs : List V}
theorem run_fnGD {pins : List (Addr × Obj)} {σ : L2.St} {H : Hp} {s : Shared} {Q : VK} {us : List Value} {vs : List V} (F : FnG X.prog X.w X.K X.mg X.base k f fd ps sp) (hr : Room k X.A) (hgd : X.A.guards = some []) (hb : Binds X.K fd ps ds) (hd : Vals dvs ds)
    (hx : PassesAt (L2.CX X.prog X.w) X σ (E σ)) (I : Inv X pins σ H s) (r : Vals vs us) (h : sp (vs ++ dvs) H Q (E σ)) : wpAny (model X.prog X.w) X.A (call (.ref f) us) (EP X pins σ Q) X.xe s := by
  have b := hb s us I.kIn (by rw [← (r.append hd).length]; exact F.len _ _ _ _ h)
  refine wpAny_call (codeAny_mono (F.run X.A X.stack s H ⟨us, []⟩ (us ++ ds) (vs ++ dvs) Q (E σ) hr hgd I.env0 b (r.append hd) h) fun rr s' z => ?_)
  match rr, z with
  | .error e, z => exact hx pins H s e s' I z
  | .ok (.ret u), z => exact I.after z
end
section
variable {X : Cx} {W : WX} {k : Nat} {f : Addr} {fd : FuncData} {ps : List Str} {sp : DSp} {x m : Str} {p pos apos : Pos} {e : Expr} {es : List Expr} {t : DTA} {bs : List (Option Nat)} {fl : List Bool} {ds : List Value} {dvs : List V}
theorem backOk_app {σ : L2.St} {dvs : List V} : ∀ {vs : List V} {bs : List (Option Nat)}, BackOk σ vs bs → BackOk σ (vs ++ dvs) (bs ++ dvs.map fun _ => none)
  | [], [], _ => by
    induction dvs with
    | nil => trivial
    | cons d dvs ih => exact ih
  | v :: vs, none :: bs, h => backOk_app (vs := vs) (bs := bs) h
  | v :: vs, some j :: bs, h => ⟨h.1, backOk_app (vs := vs) (bs := bs) h.2⟩
  | [], _ :: _, h => h.elim
  | _ :: _, [], h => h.elim
end
section
variable {X : Cx} {k : Nat} {C f : Addr} {fd : FuncData} {ps : List Str} {sp : Sp} {E : L2.St → XK} {x : Str} {p pos : Pos} {e : Expr} {es : List Expr} {t : TA} {ds : List Value} {dvs : List V}
def tMakeGD (C : Addr) (sp : Sp) (dvs : List V) (E : L2.St → XK) (t : TA) : TE := fun σ H Q => t σ H fun vs H1 => ∀ x dx, H1 x = none → H1 dx = none → dx ≠ x → sp (.ref x :: (vs ++ dvs)) (upd (upd H1 dx (.own x)) x (.ins C dx [])) (fun v H2 => v = .non ∧ Q (.ref x) H2) (E σ)
theorem run_makeGD {pins : List (Addr × Obj)} {σ : L2.St} {H : Hp} {s : Shared} {Q : VK} {us : List Value} {vs : List V} (M : Mk X.K C f) (F : FnG X.prog X.w X.K X.mg X.base k f fd ps sp) (hr : Room (k + 1) X.A) (hgd : X.A.guards = some []) (hb : Binds X.K fd ps ds) (hd : Vals dvs ds)
    (hx : PassesAt (L2.CX X.prog X.w) X σ (E σ)) (I : Inv X pins σ H s) (r : Vals vs us)
    (h : ∀ x dx, H x = none → H dx = none → dx ≠ x → sp (.ref x :: (vs ++ dvs)) (upd (upd H dx (.own x)) x (.ins C dx [])) (fun v H2 => v = .non ∧ Q (.ref x) H2) (E σ)) :
    wpAny (model X.prog X.w) X.A (call (.ref C) us) (EP X pins σ Q) X.xe s := by
  have hq := h (s.heap.objs.size + 1) s.heap.objs.size (I.hok.fresh (Nat.le_succ _)) (I.hok.fresh (Nat.le_refl _)) (Nat.ne_of_lt (Nat.lt_succ_self _))
  have I2 := Inv.made (C := C) I
  have r2 : Vals (V.ref (s.heap.objs.size + 1) :: (vs ++ dvs)) (Value.ref (s.heap.objs.size + 1) :: (us ++ ds)) := .cons rfl (r.append hd)
  have hl : (Value.ref (s.heap.objs.size + 1) :: us ++ ds).length = ps.length := by
    have e := r2.length
    rw [F.len _ _ _ _ hq] at e
    exact e.symm
  refine wpAny_call (make_map (f := f) I.kIn M.makes M.init (beq_iff_eq.mp M.fn) (codeAny_mono (F.run _ X.stack _ _ ⟨Value.ref (s.heap.objs.size + 1) :: us, []⟩ (Value.ref (s.heap.objs.size + 1) :: (us ++ ds)) (V.ref (s.heap.objs.size + 1) :: (vs ++ dvs)) _ (E σ) (hr.make C us []) hgd
    (I2.env0.make C us []) (hb _ (Value.ref (s.heap.objs.size + 1) :: us) I2.kIn hl) r2 hq) fun r s' hq' => ?_))
  cases r with
  | error e => exact hx pins _ _ e s' I2 hq'
  | ok fl =>
    cases fl with
    | ret u =>
      obtain ⟨v, H', I3, rv, ev, q3⟩ := I2.after hq'
      subst ev
      exact ⟨rv, ⟨V.ref (s.heap.objs.size + 1), H', I3, rfl, q3⟩⟩
    | next => exact False.elim hq'
    | brk => exact False.elim hq'
    | cont => exact False.elim hq'
theorem pe_makeGD (M : Mk X.K C f) (F : FnG X.prog X.w X.K X.mg X.base k f fd ps sp) (hr : Room (k + 1) X.A) (hgd : X.A.guards = some []) (hg : Gl X x) (hm : X.mg x = some (.ref C)) (hb : Binds X.K fd ps ds) (hd : Vals dvs ds) (hx : ∀ σ, PassesAt (L2.CX X.prog X.w) X σ (E σ))
    (ha : PA X (e :: es) t) (hdb : (x == ("__debug__" : Str)) = false := by decide) (he : starEach (e :: es) X.env = (false, eval e X.env) :: starEach es X.env := by rfl) (hpl : (backTo pos (starEach es X.env)).any (·.1) = false := by rfl) :
    PE X (.Call (.Name x p) (e :: es) [] pos) (tMakeGD C sp dvs E t) := by
  refine ⟨fun pins s σ H Q I h => ?_⟩
  refine wpAny_Call_Name_kw (ld_glob I hg hm ?_ hdb)
  refine PySem.W.callWith_K (h₀ := X.base) I.ok.mod.kin M.kp (thn (ha.run pos pins s σ H _ I h) fun us s1 ⟨vs, H1, I1, r, q⟩ => ⟨I1.kIn, ?_⟩) he hpl
  exact run_makeGD M F hr hgd hb hd (hx σ) I1 r q
end
section
variable {X : Cx} {W : WX} {e o : Expr} {es : List Expr} {te : DTE} {t : DTA} {bs : List (Option Nat)} {pos p : Pos} {x : Str} {k : Nat} {C0 : Addr} {sp : DSp} {fl : List Bool} {dvs : List V}
structure MakeGD (X : Cx) (W : WX) (k : Nat) (x : Str) (C : Addr) (fl : List Bool) (dvs : List V) (sp : DSp) : Prop where
  ex : ∃ (f : Addr) (fd : FuncData) (ps : List Str), FnG X.prog X.w X.K X.mg X.base k f fd ps (spD X.K X.mg fl sp) ∧ Mk X.K C f ∧ ∃ ds, Vals dvs ds ∧ Binds X.K fd ps ds
  mono : MonoD sp
  room : Room (k + 1) X.A
  gd : X.A.guards = some []
  gl : Gl X x
  mg : X.mg x = some (.ref C)
  tk : Takes X (upW X.mg W)
def xMakeD (C0 : Addr) (sp : DSp) (bs : List (Option Nat)) (dvs : List V) (t : DTA) : DTE := fun g Q E => t g (fun τs g1 => ∀ dx, sp (.node true (.ins C0 dx []) [] :: (τs ++ dvs.map .leaf)) (fun τ us => τ = .leaf .non ∧ headT us fun self us' => Q self (restore g1 bs us')) (fun c fs us => E c fs (restore g1 bs us.tail))) E
theorem d_makeD (M : MakeGD X W k x C0 fl dvs sp) (ha : DA X W (e :: es) bs t) (hfl : true :: (bs ++ dvs.map fun _ => none).map Option.isSome = fl := by rfl) (hdb : (x == ("__debug__" : Str)) = false := by decide)
    (he : starEach (e :: es) X.env = (false, eval e X.env) :: starEach es X.env := by rfl) (hpl : (backTo pos (starEach es X.env)).any (·.1) = false := by rfl) : DE X W (.Call (.Name x p) (e :: es) [] pos) (xMakeD C0 sp (bs ++ dvs.map fun _ => none) dvs t) := by
  subst hfl
  obtain ⟨f, fd, ps, F, hm, ds, hd, hb⟩ := M.ex
  refine ⟨fun B => PE.imp (pe_makeGD hm F M.room M.gd M.gl M.mg hb hd (fun σ => passAt M.tk σ) (ha.run B) hdb he hpl) fun σ H Q ⟨Φ, lim, g, E, r, hx, q⟩ => ?_, fun g Q Q' E E' hq he q => ha.mono _ _ _ _ _ (fun τs g1 q1 dx => M.mono _ _ _ _ _ (fun τ us z => ⟨z.1, by
    cases us with
    | nil => exact z.2
    | cons s us => exact hq _ _ z.2⟩) (fun c fs us z => he _ _ _ z) (q1 dx)) he q⟩
  refine ⟨Φ, lim, g, E, r, hx, ha.mono _ _ _ _ _ (fun τs g1 q1 vs H1 hl hb r1 a dx ha hd hne => ?_) (fun _ _ _ z => z) q⟩
  have e1 : ∀ b o, H1 b = some o → upd H1 dx (.own a) b = some o := fun b o e => by
    rw [upd_ne (fun z => by subst z; rw [hd] at e; cases e)]
    exact e
  have r2 : RepG X.K B lim σ H1 g1 ((vs ++ dvs).zip (τs ++ dvs.map .leaf) ++ Φ) := by
    refine (RepG.addLs r1 (vs := dvs)).perm ?_
    rw [List.zip_append hl, ← List.append_assoc]
    exact List.Perm.append_right _ List.perm_append_comm
  have r3 := RepG.make (s := .ins C0 dx []) (zs := []) (p := a) (r2.grow e1) (by rw [upd_ne (fun z => hne z.symm)]; exact ha)
  exact make_sp (bs := bs ++ dvs.map fun _ => none) (Q' := fun τ g' => ∀ (v : V) (H' : Hp), RepG X.K B lim σ H' g' ((v, τ) :: Φ) → Q v H') (τ0 := .node true (.ins C0 dx []) []) M.mono hx (by simp [hl]) (backOk_app hb) r3 (fun self g' w H' q2 r4 => ⟨RepG.leaf (r4.perm (List.Perm.swap _ _ _)), q2 _ _ ((r4.perm (List.Perm.swap _ _ _)).dropT)⟩) (q1 dx)
end
end DL
set_option Elab.async false
set_option linter.all false
set_option maxRecDepth 100000
set_option maxHeartbeats 4000000
namespace DL
open PySem PySem.Spec PyProof.Rows L2
structure FunX (K : PySem.W.Frag) (x qual : Str) (st : Stmt) (f : Addr) (fd : FuncData) : Prop where
  ex : ∃ (oc : Value) (od : Option Addr) (dV kV doc pm : Value) (an : Option Addr) (cdv ct : Value) (osl : Array (Option Value)),
    fd = PySem.W.fnOf x qual (defArgs st) (defBody st) (defScope st) dV kV doc pm an cdv ct ∧ K.lookup f = some ⟨oc, od, .func fd, osl⟩ ∧ PySem.W.codeIn K cdv qual = true
  kp : PySem.W.keepIn K (.ref f) = true
theorem FunX.of {K : PySem.W.Frag} {x qual : Str} {st : Stmt} {dvs : List V} {kws : List (Str × V)} {f : Addr} {fd : FuncData} (F : FunD K x qual (defArgs st) (defBody st) (defScope st) dvs kws f fd) : FunX K x qual st f fd := by
  obtain ⟨oc, od, dV, kV, doc, pm, an, cdv, ct, osl, e, lk, hcd, _⟩ := F.ex
  exact ⟨⟨oc, od, dV, kV, doc, pm, an, cdv, ct, osl, e, lk, hcd⟩, F.kp⟩
theorem fnG_ofX {P : Program} {w : World} {K : PySem.W.Frag} {mg : Str → Option Value} {base : Heap} {x qual : Str} {st : Stmt} {f : Addr} {fd : FuncData} {N ps : List Str} {k : Nat} {sp : Sp} (F : FunX K x qual st f fd) (S : FnScope N ps (defScope st)) (len : ∀ vs H Q E, sp vs H Q E → vs.length = ps.length)
    (hbody : ∀ (cdv : Value) (A : Around) (outer : List Env) (s : Shared) (H : Hp) (vs : List V) (Q : VK) (E : XK), Room k (A.deeper (PyProof.Rows.envOfC qual (defScope st) s.heap.objs.size f cdv)) → A.guards = some [] → sp vs H Q E →
      ∃ t, PSs (cxOf (L2.CX P w) P w K mg base N qual (defScope st) f cdv A outer s H E) (defBody st) t ∧ t { nx := fun _ H' => Q .non H', rt := Q } (L2.start N vs) H) : FnG P w K mg base (k + 1) f fd ps sp := by
  obtain ⟨oc, od, dV, kV, doc, pm, an, cdv, ct, osl, rfl, lk, hcd⟩ := F.ex
  refine ⟨len, fun A outer s H args us vs Q E hr hg e0 hb r hsp => ?_⟩
  have hlen := len _ _ _ _ hsp
  have kb : ∀ b o, base.get? b = some o → s.heap.get? b = some o := fun b o e => (e0.bs b o e).1
  have KX : K.In s.heap := e0.mod.kin.keeps kb
  have nl : s.heap.NoLimit := e0.mod.nolimit.keeps kb
  refine codeAny_call_function hr.depth (KX _ _ lk) rfl S.co S.gen rfl (PySem.W.codeRec_of KX hcd) (hb _ _ _ _ ?_)
  refine wpAny_newFunctionEnv_cells S.kind (fun y hy => ?_) fun env he s1 xx => ?_
  · obtain ⟨y1, y2⟩ := y
    rcases S.par y1 (List.of_mem_zip hy).1 with z | z
    · exact .inl z
    · exact .inr ⟨z, PySem.W.cellsFrom_some _ _ _ (.inl z)⟩
  subst he
  refine ⟨nl.keeps xx.toInCall.keep, codeAny_func ?_⟩
  obtain ⟨t, ht, hq⟩ := hbody cdv A outer s H vs Q E (hr.deeper _) hg hsp
  have I := inv_start (CX := L2.CX P w) (E := E) S hr.hd e0 hlen r xx
  refine wpAny_mono (ht.run [] s1 _ H _ I hq) (fun fl s' z => ?_) fun _ _ z => z
  match fl, z with
  | .ret u, ⟨v, σ', H', J, rv, q⟩ => exact ⟨v, H', J.os, J.bare, J.base, J.hok, rv, q⟩
  | .next, ⟨σ', H', J, q⟩ => exact ⟨.non, H', J.os, J.bare, J.base, J.hok, rfl, q⟩
  | .brk, ⟨_, _, _, q⟩ => exact q.elim
  | .cont, ⟨_, _, _, q⟩ => exact q.elim
section
variable {P : Program} {w : World} {K : PySem.W.Frag} {mg : Str → Option Value} {base : Heap}
theorem fnD_ofX {x qual : Str} {st : Stmt} {f : Addr} {fd : FuncData} {N ps : List Str} {k : Nat} {sp : DSp} {fl : List Bool} (F : FunX K x qual st f fd) (S : FnScope N ps (defScope st)) (hfl : fl.length = ps.length)
    (hbody : ∀ (cdv : Value) (A : Around) (outer : List Env) (s : Shared) (H : Hp) (E : XK), Room k (A.deeper (PyProof.Rows.envOfC qual (defScope st) s.heap.objs.size f cdv)) → A.guards = some [] →
      ∃ t, DSs (cxOf (L2.CX P w) P w K mg base N qual (defScope st) f cdv A outer s H E) (fun x d _ H => ∀ cv, sym mg x cv → E cv d H) (mutOf fl) (defBody st) t ∧
        ∀ ts Q' E', ts.length = ps.length → sp ts Q' E' → t (bodyEnds fl Q' E') (startE N.length ts)) :
    FnG P w K mg base (k + 1) f fd ps (spD K mg fl sp) := by
  refine fnG_ofX F S (fun vs H Q E h => ?_) (fun cdv A outer s H vs Q E hr hgd h => ?_)
  · obtain ⟨ts, F, fp, o, _, _, _, hl, _⟩ := h
    omega
  · obtain ⟨ts, F0, fp, o, nd, off, trk, hl, hq⟩ := h
    obtain ⟨t, ht, hb⟩ := hbody cdv A outer s H E hr hgd
    have hlt : ts.length = ps.length := by rw [← o.length]; omega
    refine ⟨_, ht.run ⟨H, F0, fp⟩ (L2.start N vs), [], [], startE N.length ts, exD fl (fun c fs us => ∀ d H' cv, sym mg c cv → Aft K F0 fp H (pick fl vs) H' us [] → XD d fs H' → E cv d H'), ?_, kept_refl, ?_, ht.mono _ _ _ ?_ (hb ts _ _ hlt hq)⟩
    · refine ⟨F0, vs.zip ts, fp, ?_, ?_, ?_, fun _ z => nomatch z⟩
      · have := env_start o (N.length - vs.length)
        unfold L2.start startE
        rw [← o.length]
        exact this
      · rw [List.append_nil]
        exact o.zip
      · exact ⟨nd, off, trk, fun _ z => z, fun a o e _ => e, fun a z => .inl z, fun a z => .inl z, fun _ _ e => e⟩
    · -- exceptions
      intro σ hk c fs g d H' r xd q cv hs
      unfold exD at q
      split at q
      · rename_i us hus
        have hw : svs (slots 0 fl) σ = some (pick fl vs) := by
          have e1 := slots_get (rest := List.replicate (N.length - vs.length) none) (fl := fl) (n := 0) (pre := []) (vs' := vs) rfl hl
          rw [List.nil_append] at e1
          rw [← e1]
          refine svs_congr fun i hi => ?_
          have := (slots_mem hi).2
          exact hk.2 i (by unfold mutOf; simpa using this)
        obtain ⟨g', hlen, r'⟩ := r.outs hus hw
        obtain ⟨F', zs, f', en, oz, f, _⟩ := r'
        obtain ⟨f1, f2, rfl, _, o2⟩ := oz.split
        exact q d H' cv hs ⟨F', f2, hlen.symm, o2, f.sub (by rw [List.nil_append]; exact List.sublist_append_right _ _)⟩ xd
      · exact q.elim
    · have ret : ∀ τ g, retD fl (fun t us => ∀ v H', Aft K F0 fp H (pick fl vs) H' us [(v, t)] → Q v H') τ g → ∀ v σ' H', RepG K ⟨H, F0, fp⟩ [] σ' H' g [(v, τ)] → Kept (mutOf fl) (L2.start N vs) σ' → Q v H' := by
        intro τ g q v σ H' r hk
        unfold retD at q
        split at q
        · rename_i us hus
          have hw : svs (slots 0 fl) σ = some (pick fl vs) := by
            have e1 := slots_get (rest := List.replicate (N.length - vs.length) none) (fl := fl) (n := 0) (pre := []) (vs' := vs) rfl hl
            rw [List.nil_append] at e1
            rw [← e1]
            refine svs_congr fun i hi => ?_
            have := (slots_mem hi).2
            exact hk.2 i (by unfold mutOf; simpa using this)
          obtain ⟨g', hlen, r'⟩ := r.outs hus hw
          obtain ⟨F', zs, f', en, oz, f, _⟩ := r'
          obtain ⟨f1, f2, rfl, _, o2⟩ := oz.split
          exact q v H' ⟨F', f2, hlen.symm, o2, f.sub (by rw [List.nil_append]; exact List.sublist_append_right _ _)⟩
        · exact q.elim
      exact ⟨fun g q σ' H' r hk => ret _ g q .non σ' H' r.addLeaf hk, fun τ g q v σ' H' r hk => ret τ g q v σ' H' r hk, fun _ _ _ z => z, fun _ z => z.elim, fun _ z => z.elim⟩
theorem fnD_of2X {x qual : Str} {st : Stmt} {f : Addr} {fd : FuncData} {N ps : List Str} {k : Nat} {sp : DSp} {fl : List Bool} (F : FunX K x qual st f fd) (S : FnScope N ps (defScope st)) (hfl : fl.length = ps.length)
    (hbody : ∀ (cdv : Value) (A : Around) (outer : List Env) (s : Shared) (H : Hp) (E : XK), Room k (A.deeper (PyProof.Rows.envOfC qual (defScope st) s.heap.objs.size f cdv)) → (A.deeper (PyProof.Rows.envOfC qual (defScope st) s.heap.objs.size f cdv)).guards = some [] →
      ∃ t, DSs (cxOf (L2.CX P w) P w K mg base N qual (defScope st) f cdv A outer s H E) (fun x d _ H => ∀ cv, sym mg x cv → E cv d H) (mutOf fl) (defBody st) t ∧
        ∀ ts Q' E', ts.length = ps.length → sp ts Q' E' → t (bodyEnds fl Q' E') (startE N.length (frzP fl ts))) :
    FnG P w K mg base (k + 1) f fd ps (spD K mg fl sp) := by
  refine fnD_ofX F S hfl fun cdv A outer s H E hr hgd => ?_
  obtain ⟨t, ht, hb⟩ := hbody cdv A outer s H E hr hgd
  refine ⟨fun D g => ∃ ts, g = startE N.length ts ∧ t D (startE N.length (frzP fl ts)), ⟨fun B σ0 => ⟨fun pins s σ H D I ⟨Φ, lim, g, E, r, hk, hx, ts, e, q⟩ => ?_⟩, fun D D' g h ⟨ts, e, q⟩ => ⟨ts, e, ht.mono _ _ _ h q⟩⟩, fun ts Q' E' hl h => ⟨ts, rfl, hb ts Q' E' hl h⟩⟩
  refine (ht.run B σ0).run pins s σ H D I ⟨Φ, lim, _, E, ?_, hk, hx, q⟩
  subst e
  have := RepG.frzP (fl := fl) (pre := []) r
  unfold startE
  rw [frzP_length]
  exact this
end
end DL
set_option Elab.async false
set_option linter.all false
set_option maxRecDepth 100000
set_option maxHeartbeats 4000000
namespace DL
open PySem PySem.Spec PyProof.Rows L2
section
variable {X : Cx} {W : WX} {o e : Expr} {to te : DTE}
def idxT (τ τ2 : T) (Q : T → Prop) : Prop := match τ, τ2 with
  | .node _ .lst ts, .leaf (.int k) => ∃ (ns : List Int) (j : Nat), ts = intsT ns ∧ ns[j]? = some k ∧ (∀ m, m < j → ns[m]? ≠ some k) ∧ Q (.leaf (.int (j : Nat)))
  | _, _ => False
theorem idxT_mono {τ τ2 : T} {Q Q' : T → Prop} (h : ∀ t, Q t → Q' t) (q : idxT τ τ2 Q) : idxT τ τ2 Q' := by
  unfold idxT at q ⊢
  split at q
  · obtain ⟨ns, j, a, b, c, q⟩ := q
    exact ⟨ns, j, a, b, c, h _ q⟩
  · exact q.elim
theorem idxT_of {τ τ2 : T} {Q : T → Prop} (q : idxT τ τ2 Q) : ∃ (o : Bool) (ns : List Int) (k : Int) (j : Nat), τ = .node o .lst (intsT ns) ∧ τ2 = .leaf (.int k) ∧ ns[j]? = some k ∧ (∀ m, m < j → ns[m]? ≠ some k) ∧ Q (.leaf (.int (j : Nat))) := by
  unfold idxT at q
  split at q
  · obtain ⟨ns, j, rfl, b, c, q⟩ := q
    exact ⟨_, ns, _, j, rfl, rfl, b, c, q⟩
  · exact q.elim
theorem RepG.intsAt {K : PySem.W.Frag} {B : Bs} {lim : List Addr} {σ : L2.St} {H : Hp} {g : Ev} {Φ : Its} {v : V} {o : Bool} {ns : List Int} (r : RepG K B lim σ H g ((v, .node o .lst (intsT ns)) :: Φ)) : ∃ a, v = .ref a ∧ SqL K H a (ns.map V.int) := by
  obtain ⟨a, vs, rfl, hl, hr, r2⟩ := RepG.parts r
  have e1 : frzL (intsT ns) = (ns.map V.int).map T.leaf := by rw [intsT_frz, intsT_eq]
  rw [e1] at r2
  rw [intsT_eq] at hl
  have e2 := RepG.leaves hl r2
  subst e2
  exact ⟨a, rfl, seqL hr⟩
def xIndex (to te : DTE) : DTE := fun g Q E => to g (fun τ g1 => (∃ (o : Bool) (ns : List Int), τ = .node o .lst (intsT ns)) ∧ te g1 (fun τ2 g2 => idxT τ τ2 fun t => Q t g2) E) E
theorem d_index {apos cpos : Pos} (ho : DE X W o to) (he : DE X W e te) (hbase : attributeBase o "index" X.env (eval o X.env) = eval o X.env := by rfl)
    (hfew : ((backTo cpos (starEach [e] X.env)).all (fun x => !x.1) && (backToKw cpos (keywordEach [] X.env)).all (fun x => x.1.isSome) && decide ([e].length + ([] : List Keyword).length + (if ([] : List Keyword).isEmpty then 0 else 1) < 30)) = true := by rfl)
    (hline : (apos.endLine == cpos.line) = true := by rfl) (hs : starEach [e] X.env = (false, eval e X.env) :: starEach [] X.env := by rfl) (hplain : (backTo cpos (starEach [] X.env)).any (·.1) = false := by rfl) : DE X W (.Call (.Attribute o "index" apos) [e] [] cpos) (xIndex to te) := by
  refine ⟨fun B => PE.imp (pe_bm PySem.F.plainAttrs_list PySem.F.slot_list_index PySem.F.type_list_index mt_index (ho.run B) (pa_cons (he.run B) pa_nil hs) hbase hfew hline hs hplain) fun σ H Q ⟨Φ, lim, g, E, r, hx, q⟩ => ?_, fun g Q Q' E E' hq hE q => ho.mono _ _ _ _ _ (fun τ g1 q1 => ⟨q1.1, he.mono _ _ _ _ _ (fun τ2 g2 q2 => idxT_mono (fun t z => hq _ _ z) q2) hE q1.2⟩) hE q⟩
  refine ⟨Φ, lim, g, E, r, hx, ho.mono _ _ _ _ _ (fun τ g1 q1 v H1 r1 => ?_) (fun _ _ _ z => z) q⟩
  obtain ⟨⟨o0, ns0, rfl⟩, q1⟩ := q1
  obtain ⟨a, rfl, sq⟩ := RepG.intsAt r1
  refine ⟨.inl ⟨rfl, _, sq⟩, _, lim, g1, E, r1, hx, he.mono _ _ _ _ _ (fun τ2 g2 q2 w H2 r2 => ?_) (fun _ _ _ z => z) q1⟩
  obtain ⟨o1, ns, k, j, e1, rfl, hj, hn, q2⟩ := idxT_of q2
  rw [e1] at r2
  obtain rfl := r2.leaf
  obtain ⟨a2, e2, sq2⟩ := RepG.intsAt r2.dropT
  cases e2
  refine ⟨a, ns.map V.int, .int k, j, .int k, rfl, rfl, sq2, rfl, ?_, by rw [List.getElem?_map, hj]; rfl, ?_, fun m z' hm hz => ?_, ?_⟩
  · rw [List.all_map]
    exact List.all_eq_true.mpr fun _ _ => rfl
  · exact beq_self_eq_true k
  · rw [List.getElem?_map] at hz
    cases h : ns[m]? with
    | none => rw [h] at hz; cases hz
    | some i =>
      rw [h] at hz
      cases hz
      exact beq_eq_false_iff_ne.mpr fun z => hn m hm (by rw [h, z])
  · exact q2 _ _ (r2.dropT.dropT).addLeaf
end
end DL
set_option Elab.async false
set_option linter.all false
set_option maxRecDepth 100000
set_option maxHeartbeats 4000000
namespace DL
open PySem PySem.Spec PyProof.Rows L2 W
end DL
set_option Elab.async false
set_option linter.all false
set_option maxRecDepth 100000
set_option maxHeartbeats 4000000
namespace DL
open PySem PySem.Spec PyProof.Rows L2 W
end DL
set_option Elab.async false
set_option linter.all false
set_option maxRecDepth 100000
set_option maxHeartbeats 4000000
namespace DL
open PySem L2
def putK2 (acc : List Key × List T) (k : Key) (τ : T) : List Key × List T := match ixK acc.1 k with
  | some j => (acc.1, acc.2.set j τ)
  | none => (acc.1 ++ [k], acc.2 ++ [τ])
def dcL (gt : DTG) (tt : DTT) (tk tv : DTE) (vs : List Nat) : List T → Ev → List Key × List T → (List Key × List T → Ev → Prop) → Prop
  | [], g, acc, R => R acc g
  | t :: ts, g, acc, R => gt t g fun g1 => tt g1 (fun b g2 => ifB b (tk g2 (fun τk g3 => tv g3 (fun τv g4 => ∃ k, τk = .leaf (kV k) ∧ acc.1.Nodup ∧ acc.2.length = acc.1.length ∧ acc.1.length < sizeLine ∧ dcL gt tt tk tv vs ts (wipeE g4 vs) (putK2 acc k τv) R) noX) noX) (dcL gt tt tk tv vs ts (wipeE g2 vs) acc R)) noX
inductive Dc (gt : DTG) (tt : DTT) (tk tv : DTE) (vs : List Nat) (ts : List T) (g : Ev) (acc : List Key × List T) (R : List Key × List T → Ev → Prop) : Prop where
  | mk (h : dcL gt tt tk tv vs ts g acc R) : Dc gt tt tk tv vs ts g acc R
theorem Dc.out {gt : DTG} {tt : DTT} {tk tv : DTE} {vs : List Nat} {ts : List T} {g : Ev} {acc : List Key × List T} {R : List Key × List T → Ev → Prop} : Dc gt tt tk tv vs ts g acc R → dcL gt tt tk tv vs ts g acc R
  | ⟨h⟩ => h
theorem Dc.ind {gt : DTG} {tt : DTT} {tk tv : DTE} {vs : List Nat} {ts : List T} {g : Ev} {acc : List Key × List T} {R : List Key × List T → Ev → Prop} (I : Nat → Ev → List Key × List T → Prop) (h0 : I 0 g acc)
    (hs : ∀ (i : Nat) (t : T) (g : Ev) (acc : List Key × List T), ts[i]? = some t → I i g acc → ∀ R' : Ev → List Key × List T → Prop, (∀ g' acc', I (i + 1) g' acc' → R' g' acc') →
      gt t g fun g1 => tt g1 (fun b g2 => ifB b (tk g2 (fun τk g3 => tv g3 (fun τv g4 => ∃ k, τk = .leaf (kV k) ∧ acc.1.Nodup ∧ acc.2.length = acc.1.length ∧ acc.1.length < sizeLine ∧ R' (wipeE g4 vs) (putK2 acc k τv)) noX) noX) (R' (wipeE g2 vs) acc)) noX)
    (he : ∀ g acc, I ts.length g acc → R acc g) : Dc gt tt tk tv vs ts g acc R := by
  refine ⟨?_⟩
  have key : ∀ (rest : List T) (i : Nat) (g : Ev) (acc : List Key × List T), ts.drop i = rest → i ≤ ts.length → I i g acc → dcL gt tt tk tv vs rest g acc R := by
    intro rest
    induction rest with
    | nil =>
      intro i g acc e hi h
      have : i = ts.length := by
        have := congrArg List.length e
        rw [List.length_drop, List.length_nil] at this
        omega
      subst this
      exact he g acc h
    | cons t rest ih =>
      intro i g acc e hi h
      have ht : ts[i]? = some t := by
        have := congrArg (·[0]?) e
        simpa using this
      have hlt : i < ts.length := by
        have := congrArg List.length e
        rw [List.length_drop, List.length_cons] at this
        omega
      refine hs i t g acc ht h (fun g' acc' => dcL gt tt tk tv vs rest g' acc' R) fun g' acc' h' => ih (i + 1) g' acc' ?_ hlt h'
      have := congrArg (List.drop 1) e
      rw [List.drop_drop] at this
      simpa [Nat.add_comm] using this
  exact key ts 0 g acc rfl (Nat.zero_le _) h0
def addK (ks : List Key) (k : Key) : List Key := match ixK ks k with
  | some _ => ks
  | none => ks ++ [k]
def keysOf (l : List Key) : List Key := l.foldl addK []
theorem keysOf_snoc (l : List Key) (k : Key) : keysOf (l ++ [k]) = addK (keysOf l) k := by
  unfold keysOf
  rw [List.foldl_append]
  rfl
theorem nd_keysOf (l : List Key) : (keysOf l).Nodup := by
  have key : ∀ (l acc : List Key), acc.Nodup → (l.foldl addK acc).Nodup := by
    intro l
    induction l with
    | nil => exact fun _ h => h
    | cons k l ih =>
      intro acc h
      refine ih _ ?_
      unfold addK
      cases e : ixK acc k with
      | some j => exact h
      | none =>
        have hk := ixK_none.mp e
        exact List.nodup_append.mpr ⟨h, by simp, fun x hx y hy e => by
          rw [List.mem_singleton.mp hy] at e
          subst e
          exact hk hx⟩
  exact key l [] .nil
theorem len_keysOf (l : List Key) : (keysOf l).length ≤ l.length := by
  have key : ∀ (l acc : List Key), (l.foldl addK acc).length ≤ acc.length + l.length := by
    intro l
    induction l with
    | nil => exact fun _ => Nat.le_refl _
    | cons k l ih =>
      intro acc
      have h1 := ih (addK acc k)
      have h2 : (addK acc k).length ≤ acc.length + 1 := by
        unfold addK
        cases ixK acc k <;> simp
      rw [List.foldl_cons, List.length_cons]
      omega
  have := key l []
  simpa [keysOf] using this
theorem putK2_rep {ks : List Key} {k : Key} {τ : T} : putK2 (ks, List.replicate ks.length τ) k τ = (addK ks k, List.replicate (addK ks k).length τ) := by
  unfold putK2 addK
  simp only
  cases e : ixK ks k with
  | none => simp [List.replicate_succ']
  | some j =>
    obtain ⟨h1, h2⟩ := ixK_lt e
    simp only
    rw [set_at (by rw [List.getElem?_replicate, if_pos h1])]
theorem Dc.fx {gt : DTG} {tt : DTT} {tk tv : DTE} {vs : List Nat} {ts : List T} {g : Ev} {R : List Key × List T → Ev → Prop} {β : Type} (xs : List β) (enc : β → T) (e : ts = xs.map enc) (F : β → Option Key) (τ : T) (hl : xs.length ≤ sizeLine)
    (hs : ∀ x ∈ xs, ∀ (acc : List Key × List T) (R' : Ev → List Key × List T → Prop), acc.1.Nodup → acc.2.length = acc.1.length → acc.1.length < sizeLine → (∀ k, F x = some k → R' g (putK2 acc k τ)) → (F x = none → R' g acc) →
      gt (enc x) g fun g1 => tt g1 (fun b g2 => ifB b (tk g2 (fun τk g3 => tv g3 (fun τv g4 => ∃ k, τk = .leaf (kV k) ∧ acc.1.Nodup ∧ acc.2.length = acc.1.length ∧ acc.1.length < sizeLine ∧ R' (wipeE g4 vs) (putK2 acc k τv)) noX) noX) (R' (wipeE g2 vs) acc)) noX)
    (he : R (keysOf (xs.filterMap F), List.replicate (keysOf (xs.filterMap F)).length τ) g) : Dc gt tt tk tv vs ts g ([], []) R := by
  subst e
  refine Dc.ind (fun i g' acc => g' = g ∧ acc = (keysOf ((xs.take i).filterMap F), List.replicate (keysOf ((xs.take i).filterMap F)).length τ) ∧ i ≤ xs.length) ⟨rfl, by simp [keysOf], Nat.zero_le _⟩ (fun i t g' acc ht h R' hR => ?_) fun g' acc h => ?_
  · obtain ⟨rfl, rfl, hi⟩ := h
    rw [List.getElem?_map] at ht
    cases hx : xs[i]? with
    | none => rw [hx] at ht; cases ht
    | some x =>
      rw [hx] at ht
      cases ht
      have hlt : i < xs.length := (List.getElem?_eq_some_iff.mp hx).1
      have e1 : xs.take (i + 1) = xs.take i ++ [x] := by
        rw [List.take_add_one, hx]
        rfl
      refine hs x (List.mem_of_getElem? hx) _ R' (nd_keysOf _) (by simp) ?_ (fun k hk => hR _ _ ⟨rfl, ?_, hlt⟩) (fun hn => hR _ _ ⟨rfl, ?_, hlt⟩)
      · have h1 := List.length_filterMap_le F (xs.take i)
        have h2 := len_keysOf ((xs.take i).filterMap F)
        rw [List.length_take] at h1
        show (keysOf _).length < _
        omega
      · rw [e1, List.filterMap_append, putK2_rep]
        simp only [List.filterMap_cons, hk, List.filterMap_nil]
        rw [keysOf_snoc]
      · rw [e1, List.filterMap_append]
        simp [hn]
  · obtain ⟨rfl, rfl, _⟩ := h
    rw [List.length_map, List.take_length]
    exact he
end DL
set_option Elab.async false
set_option linter.all false
set_option maxRecDepth 100000
set_option maxHeartbeats 4000000
namespace DL
open PySem PySem.Spec PyProof.Rows L2 HT
end DL
set_option Elab.async false
set_option linter.all false
set_option maxRecDepth 100000
set_option maxHeartbeats 4000000
namespace DL
open PySem L2 PyProof.Rows
mutual
def wideD : PyData → Prop
  | .none => True
  | .bool _ => True
  | .int i => i.natAbs.log2 < 12000
  | .str x => PyData.canLay0 (.str x) = true ∧ (∀ c ∈ x.cps.toList, c < 16 ^ 8)
  | .list xs => wideL xs
  | .tuple xs => wideL xs
  | .dict _ => False
def wideL : List PyData → Prop
  | [] => True
  | x :: xs => wideD x ∧ wideL xs
end
mutual
theorem wide_len : ∀ d : PyData, wideD d → d.shown.length + 2 ≤ 13000 * szD d
  | .none, _ => by
    have e : (PyData.shown .none).length = 4 := by simp only [PyData.shown]; rfl
    simp only [szD]
    omega
  | .bool b, _ => by
    have e : (PyData.shown (.bool b)).length ≤ 5 := by
      simp only [PyData.shown]
      cases b <;> decide
    simp only [szD]
    omega
  | .int i, h => by
    simp only [wideD] at h
    have e : (PyData.shown (.int i)).length ≤ 12001 := by
      simp only [PyData.shown]
      have := int_text_length_le (a := i) (k := 12000) (by decide) h
      exact Nat.le_trans (Nat.le_of_eq (PySem.ofString_length _)) this
    simp only [szD]
    omega
  | .str x, h => by
    simp only [wideD] at h
    have e := StrLaws.reprText_len x h.2
    simp only [PyData.shown, szD]
    omega
  | .list xs, h => by
    simp only [wideD] at h
    have h1 := wide_lenL xs h
    have h2 := listText_len_le (PyData.shownAll xs)
    have h3 := szL_len xs
    simp only [PyData.shown, szD]
    omega
  | .tuple xs, h => by
    simp only [wideD] at h
    have h1 := wide_lenL xs h
    have h2 := tupleText_len_le (PyData.shownAll xs)
    have h3 := szL_len xs
    simp only [PyData.shown, szD]
    omega
  | .dict _, h => by simp only [wideD] at h
theorem wide_lenL : ∀ xs : List PyData, wideL xs → ((PyData.shownAll xs).map (·.length)).sum + 2 * xs.length ≤ 13000 * szL xs
  | [], _ => by simp [PyData.shownAll, szL]
  | x :: xs, h => by
    simp only [wideL] at h
    have h1 := wide_len x h.1
    have h2 := wide_lenL xs h.2
    simp only [PyData.shownAll, List.map_cons, List.sum_cons, List.length_cons, szL]
    omega
end
mutual
theorem wide_canLay : ∀ d : PyData, wideD d → d.canLay0 = true
  | .none, _ => by simp [PyData.canLay0]
  | .bool _, _ => by simp [PyData.canLay0]
  | .int _, _ => by simp [PyData.canLay0]
  | .str x, h => by
    simp only [wideD] at h
    exact h.1
  | .list xs, h => by
    simp only [wideD] at h
    simp only [PyData.canLay0]
    exact wide_canLayL xs h
  | .tuple xs, h => by
    simp only [wideD] at h
    simp only [PyData.canLay0]
    exact wide_canLayL xs h
  | .dict _, h => by simp only [wideD] at h
theorem wide_canLayL : ∀ xs : List PyData, wideL xs → PyData.canLayAll0 xs = true
  | [], _ => by simp [PyData.canLayAll0]
  | x :: xs, h => by
    simp only [wideL] at h
    simp only [PyData.canLayAll0, Bool.and_eq_true]
    exact ⟨wide_canLay x h.1, wide_canLayL xs h.2⟩
end
structure WideG (ds : List PyData) : Prop where
  sm : wideL ds
  dp : (PyData.list ds).depth ≤ 60
  sz : szD (.list ds) ≤ 1000
theorem WideG.canLay {ds : List PyData} (h : WideG ds) : (PyData.list ds).canLay0 = true := by
  simp only [PyData.canLay0]
  exact wide_canLayL ds h.sm
theorem WideG.shaped {ds : List PyData} (h : WideG ds) : SeqAt.shaped (.list ds) = true := by
  unfold SeqAt.shaped
  rw [Bool.and_eq_true, decide_eq_true_eq]
  exact ⟨h.canLay, Nat.le_trans h.dp (by decide)⟩
theorem WideG.len {ds : List PyData} (h : WideG ds) : (PyData.list ds).shown.length ≤ sizeLine := by
  have h1 := wide_len (.list ds) (by simp only [wideD]; exact h.sm)
  have h2 := h.sz
  show _ ≤ 2 ^ 24
  omega
theorem WideG.refl {ds : List PyData} (h : WideG ds) : PyData.eqv (.list ds) (.list ds) = true := SeqAt.eqv_refl _ h.canLay
end DL
set_option Elab.async false
set_option linter.all false
set_option maxRecDepth 100000
set_option maxHeartbeats 4000000
namespace DL
open PySem PySem.Calls PySem.NumText L2 PyProof.Rows
end DL
set_option Elab.async false
set_option linter.all false
set_option maxRecDepth 100000
set_option maxHeartbeats 4000000
namespace DL
open PySem L2 PyProof.Rows
section
variable {K : PySem.W.Frag} {F : Addr → Prop} {H : Hp}
theorem nodeAt {o : Bool} {s : Sh} {ts : List T} {x : V} {fp : List Addr} (h : OwnP K F H x (.node o s ts) fp) (hs : s ≠ .tup) : ∃ a us fp', x = .ref a ∧ H a = some (s.mk a us) ∧ OwnL K F H us ts fp' := by
  cases h with
  | fz _ hr hk => exact ⟨_, _, _, rfl, hr, hk⟩
  | own hr hk => exact ⟨_, _, _, rfl, hr, hk⟩
  | kz _ _ _ => exact absurd rfl hs
  | tk _ _ => exact absurd rfl hs
end
theorem two_own {K : PySem.W.Frag} {B : Bs} {lim : List Addr} {σ : L2.St} {H : Hp} {g : Ev} {Φ : Its} {x y : V} {t u : T} (h : RepG K B lim σ H g ((x, t) :: (y, u) :: Φ)) : ∃ F f1 f2, OwnP K F H x t f1 ∧ OwnP K F H y u f2 := by
  obtain ⟨F, zs, fp, en, oz, f, hl⟩ := h
  obtain ⟨fp', pf, o'⟩ := oz.perm (List.perm_middle (a := (x, t)))
  obtain ⟨f1, f2, rfl, p1, o2⟩ := OwnZ.uncons (zs := zs ++ ((y, u) :: Φ)) o'
  obtain ⟨fp2', pf2, o3⟩ := o2.perm (List.perm_middle (a := (y, u)))
  obtain ⟨g1, g2, rfl, p2, o4⟩ := OwnZ.uncons (zs := zs ++ Φ) o3
  exact ⟨F, f1, g1, p1, p2⟩
end DL
set_option Elab.async false
set_option linter.all false
set_option maxRecDepth 100000
set_option maxHeartbeats 4000000
namespace DL
open PySem L2 PyProof.Rows
end DL
set_option Elab.async false
set_option linter.all false
set_option maxRecDepth 100000
set_option maxHeartbeats 4000000
namespace DL
open PySem L2
theorem DE.any {X : Cx} {W : WX} {e : Expr} {te : DTE} (h : DE X W e te) : PE X e (fun σ H Q => ∃ B, liftE X.K B W te σ H Q) := ⟨fun pins s σ H Q I ⟨B, q⟩ => (h.run B).run pins s σ H Q I q⟩
end DL
set_option Elab.async false
set_option linter.all false
set_option maxRecDepth 100000
set_option maxHeartbeats 4000000
namespace DL
open PySem L2
end DL
set_option Elab.async false
set_option linter.all false
set_option maxRecDepth 100000
set_option maxHeartbeats 4000000
namespace DL
open PySem L2
theorem smallL_enc {β : Type} {dat : β → PyData} : ∀ {bs : List β}, (∀ b ∈ bs, smallD (dat b)) → smallL (bs.map dat)
  | [], _ => by simp [smallL]
  | b :: bs, h => by
    simp only [List.map_cons, smallL]
    exact ⟨h b List.mem_cons_self, smallL_enc fun c hc => h c (List.mem_cons_of_mem _ hc)⟩
theorem szL_enc {β : Type} {dat : β → PyData} {N : Nat} : ∀ {bs : List β}, (∀ b ∈ bs, szD (dat b) ≤ N) → szL (bs.map dat) ≤ bs.length * (N + 1)
  | [], _ => by simp [szL]
  | b :: bs, h => by
    have h1 := h b List.mem_cons_self
    have h2 := szL_enc (dat := dat) (N := N) fun c hc => h c (List.mem_cons_of_mem b hc)
    simp only [List.map_cons, szL, List.length_cons, Nat.add_mul]
    omega
theorem depthAll_enc {β : Type} {dat : β → PyData} {N : Nat} : ∀ {bs : List β}, (∀ b ∈ bs, (dat b).depth ≤ N) → PyData.depthAll (bs.map dat) ≤ N
  | [], _ => by simp [PyData.depthAll]
  | b :: bs, h => by
    have h1 := h b List.mem_cons_self
    have h2 := depthAll_enc (dat := dat) (N := N) fun c hc => h c (List.mem_cons_of_mem b hc)
    simp only [List.map_cons, PyData.depthAll]
    omega
theorem frzL_ln (ts : List T) : (frzL ts).length = ts.length := by rw [frzL_map, List.length_map]
end DL
set_option Elab.async false
set_option linter.all false
set_option maxRecDepth 100000
set_option maxHeartbeats 4000000
namespace DL
open PySem L2
inductive PI where
  | c (i : Int) | v (s : Nat)
end DL
set_option Elab.async false
set_option linter.all false
set_option maxRecDepth 100000
set_option maxHeartbeats 4000000
namespace DL
open PySem L2
end DL
set_option Elab.async false
set_option linter.all false
set_option maxRecDepth 100000
set_option maxHeartbeats 4000000
namespace DL
open PySem L2
end DL
set_option Elab.async false
set_option linter.all false
set_option maxRecDepth 100000
set_option maxHeartbeats 4000000
namespace DL
open PySem L2
section
variable {X : Cx} {W : WX} {m : Nat → Bool} {e : Expr} {st : Stmt} {pos : Pos} {x : Str}
structure IsC (K : PySem.W.Frag) (C D : Addr) (b : Bool) : Prop where
  cl : Cls K C
  ha : PySem.W.findIn K (.ref C) "__class__" = some (some (.builtin "object.__class__"))
  hn : PySem.W.specialIn K (.builtin "object.__class__") "__get__" = some (some (.builtin "getset_descriptor.__get__"))
  htk : PySem.W.takesIn K (.builtin "object.__class__") = some true
  hm : PySem.W.mroIn K C (.type "object") = some true
  me : PySem.W.kitOne K (.ref C) (.ref D) = some b
theorem d_cls {C : Addr} (hg : Gl X x) (h : X.mg x = some (.ref C)) (hd : (x == ("__debug__" : Str)) = false := by decide) : DE X W (.Name x pos) (xC (.ref C)) :=
  d_c (pe_glob hg h rfl hd)
end
end DL
set_option Elab.async false
set_option linter.all false
set_option maxRecDepth 100000
set_option maxHeartbeats 4000000
namespace DL
open PySem L2
end DL
set_option Elab.async false
set_option linter.all false
set_option maxRecDepth 100000
set_option maxHeartbeats 4000000
namespace DL
open PySem L2
end DL
set_option Elab.async false
set_option linter.all false
set_option maxRecDepth 100000
set_option maxHeartbeats 4000000
namespace DL
open PySem L2
end DL
set_option Elab.async false
set_option linter.all false
set_option maxRecDepth 100000
set_option maxHeartbeats 4000000
namespace DL
open PySem L2
end DL
set_option Elab.async false
set_option linter.all false
set_option maxRecDepth 100000
set_option maxHeartbeats 4000000
namespace DL
open PySem PySem.Spec PyProof.Rows L2
def phiS (C : Addr) (ix : List Nat) (vs : List V) (a : Addr) (h : Heap) : Prop := ∃ (dx : Addr) (us : List V) (sl : Array (Option Value)), vs = .ref dx :: us ∧ h.get? a = some { PySem.W.instObj C dx with slots := sl } ∧ ∀ (j i : Nat) (v : V), ix[j]? = some i → us[j]? = some v → ∃ u, sl[i]? = some (some u) ∧ RelV v u
def phiA (_ : List V) (a : Addr) (h : Heap) : Prop := ∃ mA, h.Ns1 a mA ∧ ∀ f, mA f = none
abbrev slS (C : Addr) (ix : List Nat) : Sh := .ext (phiS C ix)
abbrev alS : Sh := .ext phiA
section
variable {X : Cx} {pins : List (Addr × Obj)} {σ : L2.St} {H : Hp} {s : Shared} {a C dx p : Addr} {us : List V} {ix : List Nat} {f m : Str} {i : Nat} {v : V} {A : Around} {E : Value → Shared → Prop}
theorem phiA_stay {a : Addr} : ∀ h1 h2 : Heap, phiA [] a h1 → (∀ o, h1.get? a = some o → h2.get? a = some o) → phiA [] a h2 := fun h1 h2 ⟨mA, ⟨od, es, ep, e, c⟩, q⟩ k => ⟨mA, ⟨od, es, ep, k _ e, c⟩, q⟩
theorem phiS_stay {C a : Addr} {ix : List Nat} {vs : List V} : ∀ h1 h2 : Heap, phiS C ix vs a h1 → (∀ o, h1.get? a = some o → h2.get? a = some o) → phiS C ix vs a h2 := fun h1 h2 ⟨dx, us, sl, e, g, q⟩ k => ⟨dx, us, sl, e, k _ g, q⟩
theorem slx_inst (I : Inv X pins σ H s) (ha : H a = some (.ext (phiS C ix (.ref dx :: us) a))) (hd : H dx = some (.ext (phiA [] dx))) :
    ∃ (sl : Array (Option Value)) (od : Obj), s.heap.get? a = some { PySem.W.instObj C dx with slots := sl } ∧ PySem.W.InstAt s.heap a { PySem.W.instObj C dx with slots := sl } C (some od) ∧ (∀ f, PySem.W.lookIn f od = some Option.none) ∧ ∀ (j i : Nat) (v : V), ix[j]? = some i → us[j]? = some v → ∃ u, sl[i]? = some (some u) ∧ RelV v u := by
  obtain ⟨⟨dx', us', sl, e, g, q⟩, _, _⟩ := I.hok a _ ha
  cases e
  obtain ⟨⟨mA, n, r2⟩, _, _⟩ := I.hok dx _ hd
  obtain ⟨od, ho, hl⟩ := lookIn_ns n
  exact ⟨sl, od, g, ⟨g, rfl, rfl, ho⟩, fun f => by rw [hl f, r2 f], q⟩
theorem getslx_ok {b : Bool} {j : Nat} {Q : Value → Shared → Prop} (I : Inv X pins σ H s) (ha : H a = some (.ext (phiS C ix (.ref dx :: us) a))) (hd : H dx = some (.ext (phiA [] dx))) (c : SCls X.K C) (t : Slt X.K C f i p) (hi : ix[j]? = some i) (hv : us[j]? = some v)
    (q : ∀ u s', Inv X pins σ H s' → RelV v u → Q u s') : wpAny (model X.prog X.w) A (getAttr (.ref a) f b) Q E s := by
  obtain ⟨sl, od, g, J, _, r⟩ := slx_inst I ha hd
  obtain ⟨u, eu, ru⟩ := r j i v hi hv
  obtain ⟨m, F⟩ := I.fr
  refine PySem.W.get_slot F I.ok.mod.kin J c.pg c.ic t.at_ t.get t.tk t.ix (v := u) ?_ (handed_of ru) (q u _ (I.tok _) ru)
  show (sl[i]?).join = some u
  rw [eu]
  rfl
theorem setslx_ok {y : V} {u : Value} {ix' : List Nat} {us' : List V} {Q : Unit → Shared → Prop} (I : Inv X pins σ H s) (ha : H a = some (.ext (phiS C ix (.ref dx :: us) a))) (hd : H dx = some (.ext (phiA [] dx))) (c : SCls X.K C) (t : Slt X.K C f i p) (ry : RelV y u)
    (hix : ∀ (j k : Nat) (v : V), ix'[j]? = some k → us'[j]? = some v → (k = i ∧ v = y) ∨ (k ≠ i ∧ ∃ j' : Nat, ix[j']? = some k ∧ us[j']? = some v)) (q : ∀ s', Inv X pins σ (upd H a (.ext (phiS C ix' (.ref dx :: us') a))) s' → Q () s') : wpAny (model X.prog X.w) A (setAttr (.ref a) f u) Q E s := by
  obtain ⟨sl, od, g, J, _, r⟩ := slx_inst I ha hd
  refine GSL.set_attr I.kIn J c.sa c.po t.taker t.ty t.ix t.lt rfl fun h' hx keep => q _ ?_
  refine I.write (x := a) (e := a) (t' := s.toks + 1) (by rw [ha]; exact True.intro) (.inl rfl) (fun b o nb q => keep b o nb q) ⟨_, hx⟩ ?_
  refine ⟨⟨dx, us', _, rfl, hx, fun j k v e1 e2 => ?_⟩, ⟨_, hx⟩, phiS_stay⟩
  rcases hix j k v e1 e2 with ⟨rfl, rfl⟩ | ⟨ne, j', e3, e4⟩
  · refine ⟨u, ?_, ry⟩
    show ((sl ++ Array.replicate (k + 1 - sl.size) none).setIfInBounds k (some u))[k]? = _
    rw [Array.getElem?_setIfInBounds, if_pos rfl, if_pos (by rw [Array.size_append, Array.size_replicate]; omega)]
  · obtain ⟨w, ew, rw'⟩ := r j' k v e3 e4
    refine ⟨w, ?_, rw'⟩
    obtain ⟨hlt, _⟩ := Array.getElem?_eq_some_iff.mp ew
    show ((sl ++ Array.replicate (i + 1 - sl.size) none).setIfInBounds i (some u))[k]? = _
    rw [Array.getElem?_setIfInBounds, if_neg (Ne.symm ne), Array.getElem?_append_left hlt]
    exact ew
theorem getmethslx_ok {g : Addr} {pl : Sem Bool} {Q : Value × List Value → Shared → Prop} (I : Inv X pins σ H s) (ha : H a = some (.ext (phiS C ix (.ref dx :: us) a))) (hd : H dx = some (.ext (phiA [] dx))) (c : SCls X.K C) (k : Meth X.K C m g) (q : Q (.ref g, [.ref a]) s) :
    wpAny (model X.prog X.w) A (getMethod (.ref a) m pl) Q E s := by
  obtain ⟨sl, od, _, J, hl, r⟩ := slx_inst I ha hd
  refine PySem.W.method_fn I.kIn J (PySem.W.plainGet_of c.pg).1 (PySem.W.plainGet_of c.pg).2 k.at_ (beq_iff_eq.mp k.fn) ?_ q
  show (PySem.W.lookIn m od).map (·.isSome) = some false
  rw [hl m]
  rfl
theorem inv_madeS (I : Inv X pins σ H s) : Inv X pins σ (upd (upd H s.heap.objs.size (.ext (phiA [] s.heap.objs.size))) (s.heap.objs.size + 1) (.ext (phiS C [] [.ref s.heap.objs.size] (s.heap.objs.size + 1))))
    { s with heap := (s.heap.push PySem.W.emptyDict).push (PySem.W.instObj C s.heap.objs.size) } := by
  have e1 : (s.heap.push PySem.W.emptyDict).get? s.heap.objs.size = some PySem.W.emptyDict := Heap.get?_push_size s.heap rfl
  have e2 : ((s.heap.push PySem.W.emptyDict).push (PySem.W.instObj C s.heap.objs.size)).get? (s.heap.objs.size + 1) = some (PySem.W.instObj C s.heap.objs.size) := by
    have := Heap.get?_push_size (s.heap.push PySem.W.emptyDict) (o := PySem.W.instObj C s.heap.objs.size) rfl
    rwa [Heap.size_push] at this
  have e3 : (s.heap.push PySem.W.emptyDict).Ns s.heap.objs.size (fun _ => none) := ⟨PySem.W.emptyDict, #[], _, e1, rfl, (fun e he => absurd he (by simp)), fun _ => rfl⟩
  have I1 := I.laid (a := s.heap.objs.size) (o := .ext (phiA [] s.heap.objs.size)) (h' := s.heap.push PySem.W.emptyDict) (t' := s.toks) (fun b u q => Heap.get?_push_of_some _ q) (Nat.le_refl _) ⟨⟨_, Heap.Ns1.of_empty e3, fun _ => rfl⟩, ⟨_, e1⟩, phiA_stay⟩
  refine I1.laid (a := s.heap.objs.size + 1) (o := .ext (phiS C [] [.ref s.heap.objs.size] (s.heap.objs.size + 1))) (t' := s.toks) (fun b u q => Heap.get?_push_of_some _ q) (Nat.le_of_eq (Heap.size_push _ _)) ?_
  exact ⟨⟨_, _, #[], rfl, e2, fun j i v z => by simp at z⟩, ⟨_, e2⟩, phiS_stay⟩
end
def tSlX (C : Addr) (i : Nat) (ta : TE) : TE := fun σ H Q => ta σ H fun x H1 => ∃ (a dx : Addr) (ix : List Nat) (us : List V) (j : Nat) (v : V), x = .ref a ∧ H1 a = some (.ext (phiS C ix (.ref dx :: us) a)) ∧ H1 dx = some (.ext (phiA [] dx)) ∧ ix[j]? = some i ∧ us[j]? = some v ∧ Q v H1
def sSlX (C : Addr) (i : Nat) (ta tv : TE) : TS := fun D σ H => tv σ H fun y H1 => ta σ H1 fun x H2 => ∃ (a dx : Addr) (ix : List Nat) (us : List V) (ix' : List Nat) (us' : List V), x = .ref a ∧ H2 a = some (.ext (phiS C ix (.ref dx :: us) a)) ∧ H2 dx = some (.ext (phiA [] dx)) ∧
  (∀ (j k : Nat) (v : V), ix'[j]? = some k → us'[j]? = some v → (k = i ∧ v = y) ∨ (k ≠ i ∧ ∃ j' : Nat, ix[j']? = some k ∧ us[j']? = some v)) ∧ D.nx σ (upd H2 a (.ext (phiS C ix' (.ref dx :: us') a)))
def tMethSlX (C : Addr) (sp : Sp) (E : L2.St → XK) (ta : TE) (t : TA) : TE := fun σ H Q => ta σ H fun x H1 => ∃ (a dx : Addr) (ix : List Nat) (us : List V), x = .ref a ∧ H1 a = some (.ext (phiS C ix (.ref dx :: us) a)) ∧ H1 dx = some (.ext (phiA [] dx)) ∧ t σ H1 fun vs H2 => sp (x :: vs) H2 Q (E σ)
section
variable {X : Cx} {o e value : Expr} {es : List Expr} {f m : Str} {pos pos' apos : Pos} {ta tv : TE} {t : TA} {C p : Addr} {i : Nat}
theorem pe_slX (c : SCls X.K C) (k : Slt X.K C f i p) (he : PE X e ta) (hb : attributeBase e f X.env (eval e X.env) = eval e X.env := by rfl) : PE X (.Attribute e f pos) (tSlX C i ta) := by
  refine ⟨fun pins s σ H Q I h => ?_⟩
  refine attr_of hb (thn (he.run pins s σ H _ I h) fun u s1 ⟨x, H1, I1, rx, a, dx, ix, us, j, v, ex, ha, hd, hi, hv, q⟩ => ?_)
  subst ex
  obtain rfl : u = Value.ref a := rx
  exact getslx_ok I1 ha hd c k hi hv fun u' s2 I2 ru => ⟨v, H1, I2, ru, q⟩
theorem ps_slX (c : SCls X.K C) (k : Slt X.K C f i p) (ha : PE X o ta) (hv : PE X value tv) (hs : swapsWith value (some (.Attribute o f pos')) pos.line X.env = pure false := by rfl) :
    PS X (.Assign [.Attribute o f pos'] value pos) (sSlX C i ta tv) := by
  refine ⟨fun pins s σ H D I h => ?_⟩
  refine plainObj_wpAny_Assign_Attribute (thn (hv.run pins s σ H _ I h) fun u s1 ⟨y, H1, I1, ry, q⟩ => thn (ha.run pins s1 σ H1 _ I1 q) fun ov s2 ⟨x, H2, I2, rx, a, dx, ix, us, ix', us', ex, ha, hd, hi, q2⟩ => ?_) hs
  subst ex
  obtain rfl : ov = Value.ref a := rx
  exact setslx_ok I2 ha hd c k ry hi fun s3 I3 => ⟨σ, _, I3, q2⟩
theorem pe_methSlX {k : Nat} {g : Addr} {fd : FuncData} {ps : List Str} {sp : Sp} {E : L2.St → XK} {pl : Sem Bool} (he : PE X o ta) (c : SCls X.K C) (hm : Meth X.K C m g) (F : FnG X.prog X.w X.K X.mg X.base k g fd ps sp) (hr : Room k X.A) (hgd : X.A.guards = some []) {ds : List Value} {dvs : List V} (hd : Vals dvs ds) (hb : Binds X.K fd ps ds) (hx : ∀ σ, PassesAt (L2.CX X.prog X.w) X σ (E σ)) (ha : PA X (e :: es) t)
    (hst : starEach (e :: es) X.env = (false, eval e X.env) :: starEach es X.env := by rfl) (hpl : (backTo pos (starEach es X.env)).any (·.1) = false := by rfl)
    (ht : eval (.Call (.Attribute o m apos) (e :: es) [] pos) X.env = (do
      let ov ← eval o X.env
      standAt apos.atName
      let (f, first) ← holding [ov] (getMethod ov m pl)
      callWith pos f first (backTo pos (starEach (e :: es) X.env)) (backToKw pos (keywordEach [] X.env))) := by rfl) :
    PE X (.Call (.Attribute o m apos) (e :: es) [] pos) (tMethSlX C (fun vs => sp (vs ++ dvs)) E ta t) := by
  refine ⟨fun pins s σ H Q I h => ?_⟩
  refine PySem.W.methodCall_KW (pl := pl) (thn (he.run pins s σ H _ I h) fun u s1 ⟨x, H1, I1, rx, a, dx, ix, us, ex, hH, hD, q⟩ => ?_) ht
  subst ex
  obtain rfl : u = Value.ref a := rx
  refine getmethslx_ok I1 hH hD c hm ?_
  refine PySem.W.callWith_K (first := [.ref a]) (h₀ := X.base) I.ok.mod.kin hm.kp (thn (ha.run pos pins s1 σ H1 _ I1 q) fun us s2 ⟨vs, H2, I2, r, q2⟩ => ⟨I2.kIn, ?_⟩) hst hpl
  exact run_fnGD (us := .ref a :: us) (vs := .ref a :: vs) F hr hgd hb hd (hx σ) I2 (.cons rfl r) q2
end
def slT (C0 : Addr) (ix0 : List Nat) (τ : T) (P : Bool → Bool → List T → Prop) : Prop := match τ with
  | .node o (.ext φ) (.node b (.ext ψ) [] :: ts) => φ = phiS C0 ix0 ∧ ψ = phiA ∧ P o b ts
  | _ => False
theorem slT_mono {C0 : Addr} {ix0 : List Nat} {τ : T} {P P' : Bool → Bool → List T → Prop} (h : ∀ o b ts, P o b ts → P' o b ts) (q : slT C0 ix0 τ P) : slT C0 ix0 τ P' := by
  unfold slT at q ⊢
  split at q
  · exact ⟨q.1, q.2.1, h _ _ _ q.2.2⟩
  · exact q.elim
theorem slT_of {C0 : Addr} {ix0 : List Nat} {τ : T} {P : Bool → Bool → List T → Prop} (q : slT C0 ix0 τ P) : ∃ o b ts, τ = .node o (slS C0 ix0) (.node b alS [] :: ts) ∧ P o b ts := by
  unfold slT at q
  split at q
  · obtain ⟨rfl, rfl, q⟩ := q
    exact ⟨_, _, _, rfl, q⟩
  · exact q.elim
section
variable {K : PySem.W.Frag} {B : Bs} {lim : List Addr} {σ : L2.St} {H : Hp} {g : Ev} {Φ Ψ : Its} {C0 : Addr} {ix0 : List Nat} {b : Bool} {ts : List T}
theorem nodeA {v : V} (r : RepG K B lim σ H g ((v, .node b alS []) :: Φ)) : ∃ dx, v = .ref dx ∧ H dx = some (.ext (phiA [] dx)) := by
  obtain ⟨dx, ws, rfl, hl, hd⟩ := RepG.nodeH r (by intro z; cases z)
  cases ws with
  | nil => exact ⟨dx, rfl, hd⟩
  | cons => cases hl
theorem RepG.kidsS {v : V} (r : RepG K B lim σ H g ((v, .node false (slS C0 ix0) (.node b alS [] :: ts)) :: Φ)) :
    ∃ a dx us, v = .ref a ∧ us.length = ts.length ∧ H a = some (.ext (phiS C0 ix0 (.ref dx :: us) a)) ∧ H dx = some (.ext (phiA [] dx)) ∧ RepG K B lim σ H g (us.zip ts ++ (v, .node false (slS C0 ix0) (.node b alS [] :: ts)) :: Φ) := by
  obtain ⟨a, vs, rfl, hl, hH, r2⟩ := RepG.kidsH (s := slS C0 ix0) (by intro z; cases z) r
  cases vs with
  | nil => cases hl
  | cons v0 us =>
    obtain ⟨dx, rfl, hd⟩ := nodeA (r2.one (i := 0) (x := (v0, .node b alS [])) rfl)
    exact ⟨a, dx, us, rfl, by simpa using hl, hH, hd, r2.dropT⟩
theorem RepG.openS {v : V} (r : RepG K B lim σ H g ((v, .node true (slS C0 ix0) (.node b alS [] :: ts)) :: Φ)) :
    ∃ a dx us, v = .ref a ∧ us.length = ts.length ∧ H a = some (.ext (phiS C0 ix0 (.ref dx :: us) a)) ∧ H dx = some (.ext (phiA [] dx)) ∧ RepG K B (a :: lim) σ H g ((.ref dx, .node b alS []) :: (us.zip ts ++ Φ)) := by
  obtain ⟨a, vs, rfl, hl, ha, r2⟩ := r.open_
  cases vs with
  | nil => cases hl
  | cons v0 us =>
    obtain ⟨dx, rfl, hd⟩ := nodeA (v := v0) (b := b) (Φ := us.zip ts ++ Φ) r2
    exact ⟨a, dx, us, rfl, by simpa using hl, ha, hd, r2⟩
theorem RepG.closeS {a dx : Addr} {ix' : List Nat} {zs : Its} {φ : Heap → Prop} (r : RepG K B (a :: lim) σ H g ((.ref dx, .node b alS []) :: (zs ++ Φ))) (ha : H a = some (.ext φ)) :
    RepG K B lim σ (upd H a (.ext (phiS C0 ix' (.ref dx :: zs.map (·.1)) a))) g ((.ref a, .node true (slS C0 ix') (.node b alS [] :: zs.map (·.2))) :: Φ) :=
  RepG.close (s := slS C0 ix') (zs := (.ref dx, .node b alS []) :: zs) r (fun vs e => by rw [ha] at e; cases e)
end
section
variable {X : Cx} {W : WX} {m : Nat → Bool} {e o : Expr} {te : DTE} {t : DTA} {bs : List (Option Nat)} {pos apos p : Pos} {f : Str} {C0 pd : Addr} {ix0 : List Nat} {i : Nat}
def xSv (C0 : Addr) (ix0 : List Nat) (j : Nat) (te : DTE) : DTE := fun g Q E => te g (fun τ g1 => slT C0 ix0 τ fun o b ts => o = false ∧ ∃ t, ts[j]? = some t ∧ Q t g1) E
theorem d_sv {j : Nat} (he : DE X W e te) (c : SCls X.K C0) (k : Slt X.K C0 f i pd) (hj : ix0[j]? = some i) (hb : attributeBase e f X.env (eval e X.env) = eval e X.env := by rfl) : DE X W (.Attribute e f pos) (xSv C0 ix0 j te) := by
  refine ⟨fun B => PE.imp (pe_slX c k (he.run B) hb) fun σ H Q ⟨Φ, lim, g, E, r, hx, q⟩ => ?_, fun g Q Q' E E' hq hE q => he.mono _ _ _ _ _ (fun τ g1 q1 => slT_mono (fun o b ts ⟨e1, t, e2, z⟩ => ⟨e1, t, e2, hq _ _ z⟩) q1) hE q⟩
  refine ⟨Φ, lim, g, E, r, hx, he.mono _ _ _ _ _ (fun τ g1 q1 v H1 r1 => ?_) (fun _ _ _ z => z) q⟩
  obtain ⟨o, b, ts, rfl, rfl, t, ht, q1⟩ := slT_of q1
  obtain ⟨a, dx, us, rfl, hl, hH, hd, r2⟩ := RepG.kidsS r1
  obtain ⟨x, hx2, hz⟩ := zip_get (l := us) (r := ts) hl ht
  exact ⟨a, dx, ix0, us, j, x, rfl, hH, hd, hj, hx2, q1 _ _ ((r2.one hz).perm (List.Perm.swap _ _ _)).dropT⟩
def xSvO (k : Nat) (C0 : Addr) (ix0 : List Nat) (j : Nat) : DTE := fun g Q _ => atSlot k g fun t0 => slT C0 ix0 t0 fun o b ts => o = true ∧ ∃ t, ts[j]? = some t ∧ Q (frz t) (g.set k (some (.node true (slS C0 ix0) (.node b alS [] :: ts.set j (frz t)))))
theorem d_svO {j : Nat} (k : Nat) (he : PE X e (tVar k)) (c : SCls X.K C0) (n : Slt X.K C0 f i pd) (hj : ix0[j]? = some i) (hb : attributeBase e f X.env (eval e X.env) = eval e X.env := by rfl) : DE X W (.Attribute e f pos) (xSvO k C0 ix0 j) := by
  refine ⟨fun B => PE.imp (pe_slX c n he hb) fun σ H Q ⟨Φ, lim, g, E, r, hx, q⟩ => ?_, fun g Q Q' E E' hq hE q => atSlot_mono (fun t0 q => slT_mono (fun o b ts ⟨e1, t, ht, q⟩ => ⟨e1, t, ht, hq _ _ q⟩) q) q⟩
  obtain ⟨t0, h0, q⟩ := atSlot_of q
  obtain ⟨o, b, ts, rfl, rfl, t, ht, q⟩ := slT_of q
  obtain ⟨v, hv, rm⟩ := r.move h0
  obtain ⟨a, dx, us, rfl, hl, ha, hd, r2⟩ := RepG.openS rm
  obtain ⟨x, hx, hz⟩ := zip_get (l := us) (r := ts) hl ht
  obtain ⟨rr, p1, p2⟩ := set_perm (x, frz t) hz
  have r3 : RepG X.K B (a :: lim) σ H (g.set k none) ((x, t) :: ((.ref dx, .node b alS []) :: (rr ++ Φ))) := r2.perm ((List.Perm.cons _ (List.Perm.append_right Φ p1)).trans (List.Perm.swap _ _ _))
  have r4 := r3.freezeT.dup (frz_frz t)
  have r5 : RepG X.K B (a :: lim) σ H (g.set k none) ((.ref dx, .node b alS []) :: (us.zip (ts.set j (frz t)) ++ ((x, frz t) :: Φ))) := by
    refine r4.perm ?_
    have e1 : us.zip (ts.set j (frz t)) = (us.zip ts).set j (x, frz t) := by rw [zip_set, set_at hx]
    rw [e1]
    refine (List.Perm.cons _ (List.Perm.swap _ _ _)).trans ((List.Perm.swap _ _ _).trans (List.Perm.cons _ ?_))
    exact (List.Perm.cons _ (List.Perm.append_right Φ p2.symm)).trans List.perm_middle.symm
  have hl2 : us.length = (ts.set j (frz t)).length := by rw [List.length_set]; exact hl
  have r6 := RepG.closeS (C0 := C0) (ix' := ix0) r5 ha
  rw [List.map_fst_zip (by omega), List.map_snd_zip (by omega), upd_self ha] at r6
  have r7 := r6.back hv
  rw [List.set_set] at r7
  exact ⟨_, hv, a, dx, ix0, us, j, x, rfl, ha, hd, hj, hx, q _ _ r7⟩
def sSvN (k : Nat) (C0 : Addr) (ix0 : List Nat) (i : Nat) (te : DTE) : DTS := fun D g => te g (fun τ g1 => atSlot k g1 fun t0 => slT C0 ix0 t0 fun o b ts => o = true ∧ ix0.length = ts.length ∧ D.nx (g1.set k (some (.node true (slS C0 (ix0 ++ [i])) (.node b alS [] :: (ts ++ [τ])))))) D.ex
theorem ds_svN (k : Nat) (ho : PE X o (tVar k)) (he : DE X W e te) (c : SCls X.K C0) (n : Slt X.K C0 f i pd) (hn : ix0.contains i = false) {p1 : Pos}
    (hs : swapsWith e (some (.Attribute o f p1)) pos.line X.env = pure false := by rfl) : DS X W m (.Assign [.Attribute o f p1] e pos) (sSvN k C0 ix0 i te) := by
  refine .mk' (fun B σ0 => ps_slX c n ho (he.run B) hs) (fun B σ0 D σ H Φ lim g E r hk hX q => ?_) fun D D' g h q => he.mono _ _ _ _ _ (fun τ g1 q1 => atSlot_mono (fun t0 q => slT_mono (fun o b ts ⟨e1, hl, q⟩ => ⟨e1, hl, h.nx _ q⟩) q) q1) h.ex q
  refine ⟨Φ, lim, g, E, r, hX σ hk, he.mono _ _ _ _ _ (fun τ g1 q1 v H1 r1 => ?_) (fun _ _ _ z => z) q⟩
  obtain ⟨t0, h0, q1⟩ := atSlot_of q1
  obtain ⟨o, b, ts, rfl, rfl, hl0, q1⟩ := slT_of q1
  obtain ⟨w, hv, rm⟩ := r1.move h0
  obtain ⟨a, dx, us, rfl, hl, ha, hd, r2⟩ := RepG.openS rm
  have r3 : RepG X.K B (a :: lim) σ H1 (g1.set k none) ((.ref dx, .node b alS []) :: ((us.zip ts ++ [(v, τ)]) ++ Φ)) := by
    rw [List.append_assoc]
    exact r2
  have r6 := RepG.closeS (C0 := C0) (ix' := ix0 ++ [i]) r3 ha
  rw [List.map_append, List.map_append, List.map_fst_zip (by omega), List.map_snd_zip (by omega)] at r6
  have r7 := r6.back hv
  rw [List.set_set] at r7
  refine ⟨_, hv, a, dx, ix0, us, ix0 ++ [i], us ++ [v], rfl, ha, hd, fun j l y e1 e2 => ?_, q1 σ _ r7 hk⟩
  by_cases hj : j < ix0.length
  · rw [List.getElem?_append_left hj] at e1
    rw [List.getElem?_append_left (by omega)] at e2
    refine .inr ⟨fun z => ?_, j, e1, e2⟩
    subst z
    have : ix0.contains l = true := List.contains_iff_mem.mpr (List.mem_of_getElem? e1)
    rw [hn] at this
    cases this
  · rw [List.getElem?_append_right (by omega)] at e1 e2
    rw [show us.length = ix0.length by omega] at e2
    have hz : j - ix0.length = 0 := by
      refine Classical.byContradiction fun z => ?_
      rw [List.getElem?_eq_none (by simp; omega)] at e1
      cases e1
    rw [hz] at e1 e2
    cases e1
    cases e2
    exact .inl ⟨rfl, rfl⟩
end
section
variable {X : Cx} {W : WX} {e o : Expr} {es : List Expr} {te : DTE} {t : DTA} {bs : List (Option Nat)} {pos apos : Pos} {m : Str} {k : Nat} {C0 : Addr} {ix0 : List Nat} {sp : DSp} {fl : List Bool} {dvs : List V}
structure MethS (X : Cx) (W : WX) (k : Nat) (C : Addr) (m : Str) (fl : List Bool) (dvs : List V) (sp : DSp) : Prop where
  ex : ∃ (f : Addr) (fd : FuncData) (ps : List Str), FnG X.prog X.w X.K X.mg X.base k f fd ps (spD X.K X.mg fl sp) ∧ Meth X.K C m f ∧ ∃ ds, Vals dvs ds ∧ Binds X.K fd ps ds
  cls : SCls X.K C
  mono : MonoD sp
  room : Room k X.A
  gd : X.A.guards = some []
  tk : Takes X (upW X.mg W)
def xMethVS (C0 : Addr) (ix0 : List Nat) (sp : DSp) (te : DTE) (bs : List (Option Nat)) (dvs : List V) (t : DTA) : DTE := fun g Q E => te g (fun τ g1 => slT C0 ix0 τ fun _ _ _ => t g1 (fun τs g2 => sp (τ :: (τs ++ dvs.map .leaf)) (fun τ' us => Q τ' (restore g2 bs us)) (fun c fs us => E c fs (restore g2 bs us))) E) E
theorem xMethVS_mono (hm : MonoD sp) (he0 : ∀ g Q Q' E E', (∀ τs g', Q τs g' → Q' τs g') → (∀ c fs g', E c fs g' → E' c fs g') → te g Q E → te g Q' E') (ht : ∀ g Q Q' E E', (∀ τs g', Q τs g' → Q' τs g') → (∀ c fs g', E c fs g' → E' c fs g') → t g Q E → t g Q' E') :
    ∀ g Q Q' E E', (∀ τ g', Q τ g' → Q' τ g') → (∀ c fs g', E c fs g' → E' c fs g') → xMethVS C0 ix0 sp te bs dvs t g Q E → xMethVS C0 ix0 sp te bs dvs t g Q' E' := fun g Q Q' E E' hq he q =>
  he0 _ _ _ _ _ (fun τ g1 q1 => slT_mono (fun _ _ _ q => ht _ _ _ _ _ (fun τs g1 q1 => hm _ _ _ _ _ (fun τ us z => hq _ _ z) (fun c fs us z => he _ _ _ z) q1) he q) q1) he q
theorem slot_at {K : PySem.W.Frag} {B : Bs} {lim : List Addr} {σ : L2.St} {H : Hp} {g : Ev} {Φ : Its} {v : V} {o b : Bool} {ts : List T} (r : RepG K B lim σ H g ((v, .node o (slS C0 ix0) (.node b alS [] :: ts)) :: Φ)) :
    ∃ a dx us, v = .ref a ∧ H a = some (.ext (phiS C0 ix0 (.ref dx :: us) a)) ∧ H dx = some (.ext (phiA [] dx)) := by
  cases o with
  | false =>
    obtain ⟨a, dx, us, e, _, h1, h2, _⟩ := RepG.kidsS r
    exact ⟨a, dx, us, e, h1, h2⟩
  | true =>
    obtain ⟨a, dx, us, e, _, h1, h2, _⟩ := RepG.openS r
    exact ⟨a, dx, us, e, h1, h2⟩
theorem methVS_run {B : Bs} {σ : L2.St} {H : Hp} {Q : VK} {tt : TA} {ta : TE} (hm : MonoD sp) (hta : ∀ (H1 : Hp) (Qa : V → Hp → Prop), liftE X.K B W te σ H1 Qa → ta σ H1 Qa) (hr : ∀ (H1 : Hp) (Qa : List V → Hp → Prop), liftA X.K B W bs t σ H1 Qa → tt σ H1 Qa)
    (he0 : ∀ g Q Q' E E', (∀ τs g', Q τs g' → Q' τs g') → (∀ c fs g', E c fs g' → E' c fs g') → te g Q E → te g Q' E') (ht : ∀ g Q Q' E E', (∀ τs g', Q τs g' → Q' τs g') → (∀ c fs g', E c fs g' → E' c fs g') → t g Q E → t g Q' E') (q : liftE X.K B W (xMethVS C0 ix0 sp te (bs ++ dvs.map fun _ => none) dvs t) σ H Q) :
    tMethSlX C0 (fun vs => spD X.K X.mg (false :: (bs ++ dvs.map fun _ => none).map Option.isSome) sp (vs ++ dvs)) (WE (upW X.mg W)) ta tt σ H Q := by
  obtain ⟨Φ, lim, g, E, r, hx, q⟩ := q
  refine hta _ _ ⟨Φ, lim, g, E, r, hx, he0 _ _ _ _ _ (fun τ g1 q1 v H1 r1 => ?_) (fun _ _ _ z => z) q⟩
  obtain ⟨o0, b0, ts, rfl, q3⟩ := slT_of q1
  obtain ⟨a, dx, us, rfl, hH, hd⟩ := slot_at r1
  refine ⟨a, dx, _, us, rfl, hH, hd, hr _ _ ⟨_, lim, g1, E, r1, hx, ht _ _ _ _ _ (fun τs g1 q1 vs H1 hl hb r2 => ?_) (fun _ _ _ z => z) q3⟩⟩
  refine call_sp (bs := none :: (bs ++ dvs.map fun _ => none)) (vs := .ref a :: (vs ++ dvs)) (τs := .node o0 (slS C0 ix0) (.node b0 alS [] :: ts) :: (τs ++ dvs.map .leaf)) hm hx (by simp [hl]) (show BackOk σ (.ref a :: (vs ++ dvs)) (none :: (bs ++ dvs.map fun _ => none)) from backOk_app hb) ?_ (hm _ _ _ _ _ (fun τ us z => z) (fun _ _ _ z => z) q1)
  have r3 := RepG.addLs (r2.perm List.perm_middle) (vs := dvs)
  refine r3.perm ?_
  rw [List.zip_cons_cons, List.zip_append hl, List.cons_append, List.append_assoc]
  refine List.perm_middle.trans (List.Perm.cons _ ?_)
  rw [← List.append_assoc, ← List.append_assoc]
  exact List.Perm.append_right _ List.perm_append_comm
theorem d_methVS (he : DE X W o te) (M : MethS X W k C0 m fl dvs sp) (ha : DA X W (e :: es) bs t) (hfl : false :: (bs ++ dvs.map fun _ => none).map Option.isSome = fl := by rfl)
    {pl : Sem Bool} (hst : starEach (e :: es) X.env = (false, eval e X.env) :: starEach es X.env := by rfl) (hpl : (backTo pos (starEach es X.env)).any (·.1) = false := by rfl)
    (ht : eval (.Call (.Attribute o m apos) (e :: es) [] pos) X.env = (do
      let ov ← eval o X.env
      standAt apos.atName
      let (f, first) ← holding [ov] (getMethod ov m pl)
      callWith pos f first (backTo pos (starEach (e :: es) X.env)) (backToKw pos (keywordEach [] X.env))) := by rfl) : DE X W (.Call (.Attribute o m apos) (e :: es) [] pos) (xMethVS C0 ix0 sp te (bs ++ dvs.map fun _ => none) dvs t) := by
  subst hfl
  obtain ⟨f, fd, ps, F, hm, ds, hd, hb⟩ := M.ex
  exact ⟨fun B => PE.imp (pe_methSlX (he.run B) M.cls hm F M.room M.gd hd hb (fun σ => passAt M.tk σ) (ha.run B) hst hpl ht) fun σ H Q q => methVS_run M.mono (fun _ _ z => z) (fun _ _ z => z) he.mono ha.mono q, xMethVS_mono M.mono he.mono ha.mono⟩
end
section
variable {X : Cx} {k : Nat} {C f : Addr} {fd : FuncData} {ps : List Str} {sp : Sp} {E : L2.St → XK} {x : Str} {p pos : Pos} {e : Expr} {es : List Expr} {t : TA} {ds : List Value} {dvs : List V}
def tMakeSl (C : Addr) (sp : Sp) (dvs : List V) (E : L2.St → XK) (t : TA) : TE := fun σ H Q => t σ H fun vs H1 => ∀ x dx, H1 x = none → H1 dx = none → dx ≠ x → sp (.ref x :: (vs ++ dvs)) (upd (upd H1 dx (.ext (phiA [] dx))) x (.ext (phiS C [] [.ref dx] x))) (fun v H2 => v = .non ∧ Q (.ref x) H2) (E σ)
theorem run_makeSl {pins : List (Addr × Obj)} {σ : L2.St} {H : Hp} {s : Shared} {Q : VK} {us : List Value} {vs : List V} (M : Mk X.K C f) (F : FnG X.prog X.w X.K X.mg X.base k f fd ps sp) (hr : Room (k + 1) X.A) (hgd : X.A.guards = some []) (hb : Binds X.K fd ps ds) (hd : Vals dvs ds)
    (hx : PassesAt (L2.CX X.prog X.w) X σ (E σ)) (I : Inv X pins σ H s) (r : Vals vs us)
    (h : ∀ x dx, H x = none → H dx = none → dx ≠ x → sp (.ref x :: (vs ++ dvs)) (upd (upd H dx (.ext (phiA [] dx))) x (.ext (phiS C [] [.ref dx] x))) (fun v H2 => v = .non ∧ Q (.ref x) H2) (E σ)) :
    wpAny (model X.prog X.w) X.A (call (.ref C) us) (EP X pins σ Q) X.xe s := by
  have hq := h (s.heap.objs.size + 1) s.heap.objs.size (I.hok.fresh (Nat.le_succ _)) (I.hok.fresh (Nat.le_refl _)) (Nat.ne_of_lt (Nat.lt_succ_self _))
  have I2 := inv_madeS (C := C) I
  have r2 : Vals (V.ref (s.heap.objs.size + 1) :: (vs ++ dvs)) (Value.ref (s.heap.objs.size + 1) :: (us ++ ds)) := .cons rfl (r.append hd)
  have hl : (Value.ref (s.heap.objs.size + 1) :: us ++ ds).length = ps.length := by
    have e := r2.length
    rw [F.len _ _ _ _ hq] at e
    exact e.symm
  refine wpAny_call (make_map (f := f) I.kIn M.makes M.init (beq_iff_eq.mp M.fn) (codeAny_mono (F.run _ X.stack _ _ ⟨Value.ref (s.heap.objs.size + 1) :: us, []⟩ (Value.ref (s.heap.objs.size + 1) :: (us ++ ds)) (V.ref (s.heap.objs.size + 1) :: (vs ++ dvs)) _ (E σ) (hr.make C us []) hgd
    (I2.env0.make C us []) (hb _ (Value.ref (s.heap.objs.size + 1) :: us) I2.kIn hl) r2 hq) fun r s' hq' => ?_))
  cases r with
  | error e => exact hx pins _ _ e s' I2 hq'
  | ok fl =>
    cases fl with
    | ret u =>
      obtain ⟨v, H', I3, rv, ev, q3⟩ := I2.after hq'
      subst ev
      exact ⟨rv, ⟨V.ref (s.heap.objs.size + 1), H', I3, rfl, q3⟩⟩
    | next => exact False.elim hq'
    | brk => exact False.elim hq'
    | cont => exact False.elim hq'
theorem pe_makeSl (M : Mk X.K C f) (F : FnG X.prog X.w X.K X.mg X.base k f fd ps sp) (hr : Room (k + 1) X.A) (hgd : X.A.guards = some []) (hg : Gl X x) (hm : X.mg x = some (.ref C)) (hb : Binds X.K fd ps ds) (hd : Vals dvs ds) (hx : ∀ σ, PassesAt (L2.CX X.prog X.w) X σ (E σ))
    (ha : PA X (e :: es) t) (hdb : (x == ("__debug__" : Str)) = false := by decide) (he : starEach (e :: es) X.env = (false, eval e X.env) :: starEach es X.env := by rfl) (hpl : (backTo pos (starEach es X.env)).any (·.1) = false := by rfl) :
    PE X (.Call (.Name x p) (e :: es) [] pos) (tMakeSl C sp dvs E t) := by
  refine ⟨fun pins s σ H Q I h => ?_⟩
  refine wpAny_Call_Name_kw (ld_glob I hg hm ?_ hdb)
  refine PySem.W.callWith_K (h₀ := X.base) I.ok.mod.kin M.kp (thn (ha.run pos pins s σ H _ I h) fun us s1 ⟨vs, H1, I1, r, q⟩ => ⟨I1.kIn, ?_⟩) he hpl
  exact run_makeSl M F hr hgd hb hd (hx σ) I1 r q
end
section
variable {X : Cx} {W : WX} {e o : Expr} {es : List Expr} {te : DTE} {t : DTA} {bs : List (Option Nat)} {pos p : Pos} {x : Str} {k : Nat} {C0 : Addr} {sp : DSp} {fl : List Bool} {dvs : List V}
def xMakeSl (C0 : Addr) (sp : DSp) (bs : List (Option Nat)) (dvs : List V) (t : DTA) : DTE := fun g Q E => t g (fun τs g1 => sp (.node true (slS C0 []) [.node true alS []] :: (τs ++ dvs.map .leaf)) (fun τ us => τ = .leaf .non ∧ headT us fun self us' => Q self (restore g1 bs us')) (fun c fs us => E c fs (restore g1 bs us.tail))) E
theorem d_makeSl (M : MakeGD X W k x C0 fl dvs sp) (ha : DA X W (e :: es) bs t) (hfl : true :: (bs ++ dvs.map fun _ => none).map Option.isSome = fl := by rfl) (hdb : (x == ("__debug__" : Str)) = false := by decide)
    (he : starEach (e :: es) X.env = (false, eval e X.env) :: starEach es X.env := by rfl) (hpl : (backTo pos (starEach es X.env)).any (·.1) = false := by rfl) : DE X W (.Call (.Name x p) (e :: es) [] pos) (xMakeSl C0 sp (bs ++ dvs.map fun _ => none) dvs t) := by
  subst hfl
  obtain ⟨f, fd, ps, F, hm, ds, hd, hb⟩ := M.ex
  refine ⟨fun B => PE.imp (pe_makeSl hm F M.room M.gd M.gl M.mg hb hd (fun σ => passAt M.tk σ) (ha.run B) hdb he hpl) fun σ H Q ⟨Φ, lim, g, E, r, hx, q⟩ => ?_, fun g Q Q' E E' hq he q => ha.mono _ _ _ _ _ (fun τs g1 q1 => M.mono _ _ _ _ _ (fun τ us z => ⟨z.1, by
    cases us with
    | nil => exact z.2
    | cons s us => exact hq _ _ z.2⟩) (fun c fs us z => he _ _ _ z) q1) he q⟩
  refine ⟨Φ, lim, g, E, r, hx, ha.mono _ _ _ _ _ (fun τs g1 q1 vs H1 hl hb r1 a dx ha hd hne => ?_) (fun _ _ _ z => z) q⟩
  have r2 : RepG X.K B lim σ H1 g1 ((vs ++ dvs).zip (τs ++ dvs.map .leaf) ++ Φ) := by
    refine (RepG.addLs r1 (vs := dvs)).perm ?_
    rw [List.zip_append hl, ← List.append_assoc]
    exact List.Perm.append_right _ List.perm_append_comm
  have r2a := RepG.make (s := alS) (zs := []) (p := dx) r2 hd
  have r3 := RepG.make (s := slS C0 []) (zs := [(.ref dx, .node true alS [])]) (p := a) r2a (by rw [upd_ne (fun z => hne z.symm)]; exact ha)
  exact make_sp (bs := bs ++ dvs.map fun _ => none) (Q' := fun τ g' => ∀ (v : V) (H' : Hp), RepG X.K B lim σ H' g' ((v, τ) :: Φ) → Q v H') (τ0 := .node true (slS C0 []) [.node true alS []]) M.mono hx (by simp [hl]) (backOk_app hb) r3 (fun self g' w H' q2 r4 => ⟨RepG.leaf (r4.perm (List.Perm.swap _ _ _)), q2 _ _ ((r4.perm (List.Perm.swap _ _ _)).dropT)⟩) q1
end
end DL
set_option Elab.async false
set_option linter.all false
set_option maxRecDepth 100000
set_option maxHeartbeats 4000000
namespace DL
open PySem PySem.Spec PyProof.Rows L2
theorem ixK_not {ks : List Key} {k : Key} (h : k ∉ ks) : ixK ks k = none := by
  cases e : ixK ks k with
  | none => rfl
  | some j => exact absurd (List.mem_of_getElem? (ixK_lt e).2) h
theorem mergeK_zip : ∀ {more : List Key} {vs : List V} {ks : List Key} {us : List V}, us.length = ks.length → vs.length = more.length → (ks ++ more).Nodup → mergeK (ks.zip us) (more.zip vs) = (ks ++ more).zip (us ++ vs)
  | [], vs, ks, us, h1, h2, _ => by
    cases vs with
    | nil => simp [mergeK]
    | cons => cases h2
  | k :: more, vs, ks, us, h1, h2, hn => by
    cases vs with
    | nil => cases h2
    | cons v vs =>
      have hk : k ∉ ks := fun z => (List.nodup_append.mp hn).2.2 k z k List.mem_cons_self rfl
      have e1 := put_ix (k := k) (v := v) h1 (List.nodup_append.mp hn).1
      rw [ixK_not hk] at e1
      show mergeK (putK (ks.zip us) k v) (more.zip vs) = _
      rw [e1, mergeK_zip (by simp [h1]) (by simpa using h2) (by rw [List.append_assoc]; exact hn), List.append_assoc, List.append_assoc]
      rfl
section
variable {X : Cx} {W : WX} {e k v : Expr} {te : DTE} {pos : Pos}
def liftB (X : Cx) (W : WX) (t : DTE) : TE := fun σ H Q => ∃ B, liftE X.K B W t σ H Q
inductive DPs (X : Cx) (W : WX) (pos : Pos) : List (Option Expr) → List Expr → List Key → List DTE → Prop
  | nil : DPs X W pos [] [] [] []
  | cons {k v : Expr} {key : Key} {te : DTE} {ks : List (Option Expr)} {vs : List Expr} {keys : List Key} {ts : List DTE} : PE X k (tC (kV key)) → DE X W v te → DPs X W pos ks vs keys ts → DPs X W pos (some k :: ks) (v :: vs) (key :: keys) (te :: ts)
def tAllE : List DTE → DTA
  | [] => aNil
  | t :: ts => aCons t (tAllE ts)
theorem DPs.pps : ∀ {ks : List (Option Expr)} {vs : List Expr} {keys : List Key} {ts : List DTE}, DPs X W pos ks vs keys ts → PPs X pos ks vs ((keys.zip ts).map fun z => (tC (kV z.1), liftB X W z.2))
  | _, _, _, _, .nil => pps_nil
  | _, _, _, _, .cons hk hv h => pps_cons hk ⟨fun pins s σ H Q I ⟨B, q⟩ => (hv.run B).run pins s σ H Q I q⟩ h.pps
theorem DPs.mono : ∀ {ks : List (Option Expr)} {vs : List Expr} {keys : List Key} {ts : List DTE}, DPs X W pos ks vs keys ts → ∀ g Q Q' E E', (∀ τs g', Q τs g' → Q' τs g') → (∀ c fs g', E c fs g' → E' c fs g') → tAllE ts g Q E → tAllE ts g Q' E'
  | _, _, _, _, .nil, _, _, _, _, _, hq, _, q => hq _ _ q
  | _, _, _, _, .cons hk hv h, _, _, _, _, _, hq, he, q => hv.mono _ _ _ _ _ (fun τ g1 q1 => h.mono _ _ _ _ _ (fun τs g2 q2 => hq _ _ q2) he q1) he q
theorem DPs.len : ∀ {ks : List (Option Expr)} {vs : List Expr} {keys : List Key} {ts : List DTE}, DPs X W pos ks vs keys ts → ks.all (·.isSome) = true ∧ ks.length = vs.length ∧ ks.length = keys.length
  | _, _, _, _, .nil => ⟨rfl, rfl, rfl⟩
  | _, _, _, _, .cons _ _ h => ⟨by simp [h.len.1], by simp [h.len.2.1], by simp [h.len.2.2]⟩
theorem DPs.low {B : Bs} {σ : L2.St} {E : XP} (hx : liftX X.K B W σ E) : ∀ {ks : List (Option Expr)} {vs : List Expr} {keys : List Key} {ts : List DTE}, DPs X W pos ks vs keys ts → ∀ {H : Hp} {g : Ev} {Φ : Its} {Q : List (V × V) → Hp → Prop}, RepG X.K B [] σ H g Φ →
    tAllE ts g (fun τs g1 => ∀ vs H', vs.length = keys.length → τs.length = vs.length → RepG X.K B [] σ H' g1 (vs.zip τs ++ Φ) → Q ((keys.zip vs).map fun z => (kV z.1, z.2)) H') E → tPairs ((keys.zip ts).map fun z => (tC (kV z.1), liftB X W z.2)) σ H Q
  | _, _, _, _, .nil, H, g, Φ, Q, r, q => q [] H rfl rfl r
  | _, _, _, _, .cons hk hv h, H, g, Φ, Q, r, q => by
    refine ⟨B, Φ, [], g, E, r, hx, hv.mono _ _ _ _ _ (fun τ g1 q1 v H1 r1 => ?_) (fun _ _ _ z => z) q⟩
    refine h.low hx r1 (h.mono _ _ _ _ _ (fun τs g2 q2 vs H2 h1 h2 r2 => ?_) (fun _ _ _ z => z) q1)
    refine q2 (v :: vs) H2 (by simp [h1]) (by simp [h2]) ?_
    show RepG X.K B [] σ H2 g2 ((v, τ) :: (vs.zip τs ++ Φ))
    exact r2.perm List.perm_middle
def xDictL (keys : List Key) (ts : List DTE) : DTE := fun g Q E => tAllE ts g (fun τs g1 => Q (.node true (.dK keys) τs) g1) E
theorem d_dictL {ks : List (Option Expr)} {vs : List Expr} {keys : List Key} {ts : List DTE} (h : DPs X W pos ks vs keys ts) (h0 : ks ≠ []) (h15 : ks.length ≤ 15) (hn : keys.Nodup) : DE X W (.Dict ks vs pos) (xDictL keys ts) := by
  obtain ⟨l1, l2, l3⟩ := h.len
  refine ⟨fun B => PE.imp (pe_disp h.pps l1 l2 h0 h15) fun σ H Q ⟨Φ, lim, g, E, r, hx, q⟩ => fun p hp => ?_, fun g Q Q' E E' hq hE q => h.mono _ _ _ _ _ (fun τs g1 q1 => hq _ _ q1) hE q⟩
  have r1 := r.alloc (o := .dK []) hp
  obtain ⟨B', r2, back⟩ := r1.rebase
  refine h.low (B := B') (E := E) (fun c fs g' d H1 r3 xd z => hx c fs g' d H1 (back _ _ _ _ r3).1.only xd z) r2 (h.mono _ _ _ _ _ (fun τs g1 q1 us H2 e1 e2 r3 => ?_) (fun _ _ _ z => z) q)
  obtain ⟨r4, same⟩ := back _ _ _ _ r3
  have hp2 : H2 p = some (.dK []) := (same p List.mem_cons_self).trans upd_same
  refine ⟨hp2, keys.zip us, rfl, by rw [List.length_zip]; omega, ?_⟩
  have em : mergeK [] (keys.zip us) = keys.zip us := mergeK_zip (ks := []) (us := []) rfl e1 hn
  rw [em]
  have r5 := RepG.close (s := .dK keys) r4 (fun vs e => by rw [hp2] at e; cases e)
  rw [List.map_fst_zip (by omega), List.map_snd_zip (by omega)] at r5
  exact q1 _ _ r5
end
end DL
set_option Elab.async false
set_option linter.all false
set_option maxRecDepth 100000
set_option maxHeartbeats 4000000
namespace DL
open PySem PySem.Spec PyProof.Rows L2
def gSlX (C : Addr) (i : Nat) (ta : TE) : TG := fun y σ H Q => ta σ H fun x H2 => ∃ (a dx : Addr) (ix : List Nat) (us : List V) (ix' : List Nat) (us' : List V), x = .ref a ∧ H2 a = some (.ext (phiS C ix (.ref dx :: us) a)) ∧ H2 dx = some (.ext (phiA [] dx)) ∧
  (∀ (j k : Nat) (v : V), ix'[j]? = some k → us'[j]? = some v → (k = i ∧ v = y) ∨ (k ≠ i ∧ ∃ j' : Nat, ix[j']? = some k ∧ us[j']? = some v)) ∧ Q σ (upd H2 a (.ext (phiS C ix' (.ref dx :: us') a)))
section
variable {X : Cx} {o : Expr} {f : Str} {pos : Pos} {ta : TE} {C p : Addr} {i : Nat}
theorem pg_slX (c : SCls X.K C) (k : Slt X.K C f i p) (ha : PE X o ta) : PG X (.Attribute o f pos) (gSlX C i ta) := by
  refine ⟨fun pins s σ H v u Q I r h => PySem.W.kas_attr (thn (ha.run pins s σ H _ I h) fun ov s2 ⟨x, H2, I2, rx, a, dx, ix, us, ix', us', ex, hA, hD, hi, q2⟩ => ?_)⟩
  subst ex
  obtain rfl : ov = Value.ref a := rx
  exact setslx_ok I2 hA hD c k r hi fun s3 I3 => ⟨σ, _, I3, q2⟩
end
section
variable {K : PySem.W.Frag} {B : Bs} {lim : List Addr} {σ : L2.St} {H : Hp} {g : Ev} {Φ : Its} {C0 : Addr} {ix0 : List Nat} {b : Bool} {ts : List T} {k : Nat} {v : V} {τ : T}
theorem RepG.slotN {i : Nat} (r1 : RepG K B lim σ H g ((v, τ) :: Φ)) (h0 : g[k]? = some (some (.node true (slS C0 ix0) (.node b alS [] :: ts)))) (hl0 : ix0.length = ts.length) (hn : ix0.contains i = false) :
    ∃ (a dx : Addr) (us : List V) (us' : List V), σ[k]? = some (some (.ref a)) ∧ H a = some (.ext (phiS C0 ix0 (.ref dx :: us) a)) ∧ H dx = some (.ext (phiA [] dx)) ∧
      (∀ (j l : Nat) (y : V), (ix0 ++ [i])[j]? = some l → us'[j]? = some y → (l = i ∧ y = v) ∨ (l ≠ i ∧ ∃ j' : Nat, ix0[j']? = some l ∧ us[j']? = some y)) ∧
      RepG K B lim σ (upd H a (.ext (phiS C0 (ix0 ++ [i]) (.ref dx :: us') a))) (g.set k (some (.node true (slS C0 (ix0 ++ [i])) (.node b alS [] :: (ts ++ [τ]))))) Φ := by
  obtain ⟨w, hv, rm⟩ := r1.move h0
  obtain ⟨a, dx, us, rfl, hl, ha, hd, r2⟩ := RepG.openS rm
  have r3 : RepG K B (a :: lim) σ H (g.set k none) ((.ref dx, .node b alS []) :: ((us.zip ts ++ [(v, τ)]) ++ Φ)) := by
    rw [List.append_assoc]
    exact r2
  have r6 := RepG.closeS (C0 := C0) (ix' := ix0 ++ [i]) r3 ha
  rw [List.map_append, List.map_append, List.map_fst_zip (by omega), List.map_snd_zip (by omega)] at r6
  have r7 := r6.back hv
  rw [List.set_set] at r7
  refine ⟨a, dx, us, us ++ [v], hv, ha, hd, fun j l y e1 e2 => ?_, r7⟩
  by_cases hj : j < ix0.length
  · rw [List.getElem?_append_left hj] at e1
    rw [List.getElem?_append_left (by omega)] at e2
    refine .inr ⟨fun z => ?_, j, e1, e2⟩
    subst z
    have : ix0.contains l = true := List.contains_iff_mem.mpr (List.mem_of_getElem? e1)
    rw [hn] at this
    cases this
  · rw [List.getElem?_append_right (by omega)] at e1 e2
    rw [show us.length = ix0.length by omega] at e2
    have hz : j - ix0.length = 0 := by
      refine Classical.byContradiction fun z => ?_
      rw [List.getElem?_eq_none (by simp; omega)] at e1
      cases e1
    rw [hz] at e1 e2
    cases e1
    cases e2
    exact .inl ⟨rfl, rfl⟩
end
section
variable {X : Cx} {m : Nat → Bool} {o : Expr} {f : Str} {pos : Pos} {C0 p : Addr} {ix0 : List Nat} {i j : Nat}
def gSvN (k : Nat) (C0 : Addr) (ix0 : List Nat) (i : Nat) : DTG := fun τ g Q => atSlot k g fun t0 => slT C0 ix0 t0 fun o b ts => o = true ∧ ix0.length = ts.length ∧ Q (g.set k (some (.node true (slS C0 (ix0 ++ [i])) (.node b alS [] :: (ts ++ [τ])))))
theorem dg_svN (k : Nat) (ho : PE X o (tVar k)) (c : SCls X.K C0) (n : Slt X.K C0 f i p) (hn : ix0.contains i = false) : DG X m (.Attribute o f pos) (gSvN k C0 ix0 i) := by
  refine ⟨fun B σ0 => PG.imp (pg_slX c n ho) fun v σ H Q ⟨Φ, lim, g, τ, r, hk, q⟩ => ?_, fun τ g Q Q' h q => atSlot_mono (fun _ q => slT_mono (fun o b ts ⟨e1, e2, q⟩ => ⟨e1, e2, h _ q⟩) q) q⟩
  obtain ⟨t0, h0, q⟩ := atSlot_of q
  obtain ⟨o, b, ts, rfl, rfl, hl, q⟩ := slT_of q
  obtain ⟨a, dx, us, us', hv, ha, hd, hi, r2⟩ := r.slotN h0 hl hn
  exact ⟨_, hv, a, dx, ix0, us, _, us', rfl, ha, hd, hi, q _ _ r2 hk⟩
end
end DL
set_option Elab.async false
set_option linter.all false
set_option maxRecDepth 100000
set_option maxHeartbeats 4000000
namespace DL
open PySem L2
section
variable {X : Cx}
def rnIsCT (C : Addr) (Ds : List (Addr × Bool)) : RNT := fun τs Q => match τs with
  | [.node _ (.ins C1 _ _) _, .node true .tup ts] => C1 = C ∧ ts = Ds.map (fun d => T.leaf (.ref d.1)) ∧ Q (.leaf (.bl (Ds.any (·.2))))
  | _ => False
theorem kitAny_cls {K : PySem.W.Frag} {C : Addr} : ∀ {Ds : List (Addr × Bool)}, (∀ d ∈ Ds, IsC K C d.1 d.2) → PySem.W.kitAny K (.ref C) (Ds.map fun d => Value.ref d.1) = some (Ds.any (·.2))
  | [], _ => kitAny_nil
  | d :: Ds, h => by
    have ih := kitAny_cls fun x hx => h x (List.mem_cons_of_mem d hx)
    refine kitAny_cons (h d List.mem_cons_self).me (fun e => ?_) (fun e => ?_)
    · rw [ih, List.any_cons, e, Bool.false_or]
    · rw [List.any_cons, e, Bool.true_or]
theorem paired_cls : ∀ Ds : List (Addr × Bool), Paired ClsV (Ds.map fun d => V.ref d.1) (Ds.map fun d => Value.ref d.1)
  | [] => .nil
  | d :: Ds => .cons (.own d.1) (paired_cls Ds)
theorem n_isCT {C : Addr} {Ds : List (Addr × Bool)} (h0 : Ds ≠ []) (hc : ∀ d ∈ Ds, IsC X.K C d.1 d.2) : CallN X (.builtin "isinstance") (rIsiT X.K) (rnIsCT C Ds) := by
  refine ⟨call_isiT, fun B lim σ H g Φ vs τs Q hl r q => ?_, fun τs Q Q' h q => ?_⟩
  · unfold rnIsCT at q
    split at q
    · rename_i o C1 dx ns ks ts
      obtain ⟨rfl, rfl, q⟩ := q
      match vs, hl with
      | [v, w], _ =>
        have r2 : RepG X.K B lim σ H g ((v, .node o (.ins C1 dx ns) ks) :: (w, .node true .tup (Ds.map fun d => T.leaf (.ref d.1))) :: Φ) := r
        have r3 : RepG X.K B lim σ H g ((w, .node true .tup ((Ds.map fun d => V.ref d.1).map T.leaf)) :: Φ) := by
          rw [List.map_map]
          exact r2.dropT
        obtain ⟨a, us, rfl, _, ha⟩ := r2.nodeH (by nofun)
        obtain ⟨d, hd⟩ := List.exists_mem_of_ne_nil Ds h0
        have c := hc d hd
        obtain ⟨b, ws, rfl, hb⟩ : ∃ b ws, w = .ref b ∧ H b = some (.tup ws) ∧ ws = Ds.map fun d => V.ref d.1 := by
          obtain ⟨b, ws, rfl, hl3, hb, r4⟩ := r3.open_
          refine ⟨b, ws, rfl, hb, ?_⟩
          have r5 : RepG X.K B (b :: lim) σ H g (ws.zip ((Ds.map fun d => V.ref d.1).map T.leaf) ++ Φ) := r4
          refine List.ext_getElem (by simpa using hl3) fun i h1 h2 => ?_
          have hz : (ws.zip ((Ds.map fun d => V.ref d.1).map T.leaf))[i]? = some (ws[i], T.leaf (Ds.map fun d => V.ref d.1)[i]) := by
            rw [List.getElem?_eq_getElem (by simp; simp at h2; omega)]
            simp
          exact (r5.one hz).leaf
        obtain ⟨hb, rfl⟩ := hb
        refine ⟨_, b, _, _, _, _, rfl, hb, paired_cls Ds, .base (.ins ha c.cl c.ha c.hn c.htk c.hm), kitAny_cls hc, q _ _ r2.dropT.dropT.addLeaf⟩
    · exact q.elim
  · unfold rnIsCT at q ⊢
    split at q
    · exact ⟨q.1, q.2.1, h _ q.2.2⟩
    · exact q.elim
end
end DL
set_option Elab.async false
set_option linter.all false
set_option maxRecDepth 100000
set_option maxHeartbeats 4000000
namespace DL
open PySem L2
section
variable {X : Cx} {W : WX} {a b : Expr} {ta tb : DTE} {rest : List Expr} {pos : Pos}
theorem tru_of {K : PySem.W.Frag} {B : Bs} {lim : List Addr} {σ : L2.St} {H : Hp} {g : Ev} {Φ : Its} {v : V} {τ : T} {P : Bool → Prop} (r1 : RepG K B lim σ H g ((v, τ) :: Φ)) (q1 : truT τ P) : ∃ k, TruV K v H k ∧ P k := by
  unfold truT at q1
  split at q1
  · obtain rfl := r1.leaf
    exact ⟨false, rfl, q1⟩
  · obtain rfl := r1.leaf
    exact ⟨_, rfl, q1⟩
  · obtain rfl := r1.leaf
    exact ⟨_, rfl, q1⟩
  · obtain rfl := r1.leaf
    exact ⟨_, ⟨q1.1, rfl⟩, q1.2⟩
  · rename_i o ts
    obtain ⟨ad, us, rfl, hl, hr⟩ := r1.node
    exact ⟨_, .inl ⟨us, seqL hr, rfl⟩, by rw [isEmpty_len hl]; exact q1⟩
  · rename_i o ts
    obtain ⟨ad, us, rfl, hl, hr⟩ := r1.node
    exact ⟨_, .inr (.inl ⟨us, seqT hr, rfl⟩), by rw [isEmpty_len hl]; exact q1⟩
  · exact q1.elim
def xOrG (ta tb : DTE) : DTE := fun g Q E => ta g (fun τ g1 => truT τ fun k => ifB k (Q τ g1) (tb g1 Q E)) E
theorem ifB_monoG {k : Bool} {p q p' q' : Prop} (h1 : p → p') (h2 : q → q') (h : ifB k p q) : ifB k p' q' := by
  cases k with
  | true => exact h1 h
  | false => exact h2 h
theorem d_orG (ha : DE X W a ta) (hb : DE X W (.BoolOp .Or (b :: rest) pos) tb) : DE X W (.BoolOp .Or (a :: b :: rest) pos) (xOrG ta tb) := by
  refine ⟨fun B => PE.imp (pe_orT (ha.run B) (hb.run B)) fun σ H Q ⟨Φ, lim, g, E, r, hx, q⟩ => ?_, fun g Q Q' E E' hq he q => ha.mono _ _ _ _ _ (fun τ g1 q1 => truT_mono (fun k z => ifB_monoG (hq _ _) (hb.mono _ _ _ _ _ hq he) z) q1) he q⟩
  refine ⟨Φ, lim, g, E, r, hx, ha.mono _ _ _ _ _ (fun τ g1 q1 v H1 r1 => ?_) (fun _ _ _ z => z) q⟩
  obtain ⟨k, hk, q2⟩ := tru_of r1 q1
  refine ⟨k, hk, ?_⟩
  cases k with
  | true => exact q2 _ _ r1
  | false => exact ⟨Φ, lim, g1, E, r1.dropT, hx, q2⟩
end
end DL
set_option Elab.async false
set_option linter.all false
set_option maxRecDepth 100000
set_option maxHeartbeats 4000000
namespace DL
open PySem L2
section
variable {κ : Type} [DecidableEq κ]
theorem drop_zip : ∀ {ks : List κ} {us : List V} {k : κ} {j : Nat}, us.length = ks.length → ks.Nodup → ixK ks k = some j → dropK (ks.zip us) k = (ks.zip us).eraseIdx j
  | [], _, k, j, _, _, e => by cases e
  | x :: ks, [], k, j, hl, _, e => by cases hl
  | x :: ks, u :: us, k, j, hl, hn, e => by
    have hl' : us.length = ks.length := by simpa using hl
    have hn' := List.nodup_cons.mp hn
    unfold ixK at e
    by_cases c : x = k
    · rw [if_pos c] at e
      cases e
      subst c
      show ((x, u) :: ks.zip us).filter _ = _
      rw [List.filter_cons_of_neg (by simp)]
      show _ = ks.zip us
      refine List.filter_eq_self.mpr fun a ha => ?_
      have := (List.of_mem_zip ha).1
      simp only [ne_eq, decide_not, Bool.not_eq_eq_eq_not, Bool.not_true, decide_eq_false_iff_not]
      intro z
      rw [z] at this
      exact hn'.1 this
    · rw [if_neg c] at e
      cases e2 : ixK ks k with
      | none => rw [e2] at e; cases e
      | some i =>
        rw [e2] at e
        cases e
        show ((x, u) :: ks.zip us).filter _ = _
        rw [List.filter_cons_of_pos (by simpa using c)]
        show _ :: dropK (ks.zip us) k = _
        rw [drop_zip hl' hn'.2 e2]
        rfl
theorem val_zip : ∀ {ks : List κ} {us : List V} {k : κ} {j : Nat}, us.length = ks.length → ixK ks k = some j → valV (ks.zip us) k = us[j]?
  | [], _, k, j, _, e => by cases e
  | x :: ks, [], k, j, hl, e => by cases hl
  | x :: ks, u :: us, k, j, hl, e => by
    have hl' : us.length = ks.length := by simpa using hl
    unfold ixK at e
    by_cases c : x = k
    · rw [if_pos c] at e
      cases e
      exact valV_pos c
    · rw [if_neg c] at e
      cases e2 : ixK ks k with
      | none => rw [e2] at e; cases e
      | some i =>
        rw [e2] at e
        cases e
        show valV ((x, u) :: ks.zip us) k = us[i]?
        rw [valV_neg c, val_zip hl' e2]
theorem erase_permJ {α : Type} : ∀ (l : List α) (j : Nat) (h : j < l.length), (l[j] :: l.eraseIdx j).Perm l
  | [], j, h => absurd h (Nat.not_lt_zero _)
  | a :: l, 0, _ => List.Perm.refl _
  | a :: l, j + 1, h => (List.Perm.swap a _ _).trans ((erase_permJ l j (by simpa using h)).cons a)
theorem zip_erase {α β : Type} : ∀ (as : List α) (bs : List β) (j : Nat), (as.zip bs).eraseIdx j = (as.eraseIdx j).zip (bs.eraseIdx j)
  | [], _, _ => by simp
  | _ :: _, [], _ => by simp
  | a :: as, b :: bs, 0 => rfl
  | a :: as, b :: bs, j + 1 => by
    show _ :: (as.zip bs).eraseIdx j = _ :: (as.eraseIdx j).zip (bs.eraseIdx j)
    rw [zip_erase as bs j]
end
def rtDPop (τd τk : T) (Q : T → T → Prop) : Prop := match τd, τk with
  | .node true (.dK ks) ts, .leaf (.int i) => ks.Nodup ∧ ts.length = ks.length ∧ ∃ j t, ixK ks (.inl i) = some j ∧ ts[j]? = some t ∧ Q t (.node true (.dK (ks.eraseIdx j)) (ts.eraseIdx j))
  | _, _ => False
theorem rtDPop_mono {τd τk : T} {Q Q' : T → T → Prop} (h : ∀ t r, Q t r → Q' t r) (q : rtDPop τd τk Q) : rtDPop τd τk Q' := by
  unfold rtDPop at q ⊢
  split at q
  · obtain ⟨n, l, j, t, e, g, q⟩ := q
    exact ⟨n, l, j, t, e, g, h _ _ q⟩
  · exact q.elim
def xDPopO (i : Nat) (tk : DTE) : DTE := fun g Q E => atSlot i g fun t => isDctO t ∧ tk g (fun τk g1 => atSlot i g1 fun t0 => rtDPop t0 τk fun t t1 => Q t (g1.set i (some t1))) E
section
variable {X : Cx} {W : WX} {o e : Expr} {apos cpos : Pos} {tk : DTE}
theorem d_dpopO (i : Nat) (ho : PE X o (tVar i)) (hi : DE X W e tk) (m : M1 X o "pop" apos e cpos) : DE X W (.Call (.Attribute o "pop" apos) [e] [] cpos) (xDPopO i tk) := by
  refine ⟨fun B => PE.imp (pe_dpop1 ho (hi.run B) m) fun σ H Q ⟨Φ, lim, g, E, r, hx, q⟩ => ?_, fun g Q Q' E E' hq hE q => ?_⟩
  · obtain ⟨t0, h0, hd0, q⟩ := atSlot_of q
    obtain ⟨s, ts, rfl, hs, hI⟩ := isDctO_of hd0
    obtain ⟨a, us, hv0, hl, ha, _⟩ := r.renew (s' := s) h0 hs
    refine ⟨_, hv0, a, rfl, hI _ _ _ (.inl ha), Φ, lim, g, E, r, hx, hi.mono _ _ _ _ _ (fun τk g1 q1 y H1 r1 => ?_) (fun _ _ _ z => z) q⟩
    obtain ⟨t1, h1, q1⟩ := atSlot_of q1
    unfold rtDPop at q1
    split at q1
    · rename_i ks ts i0 _
      obtain ⟨hn, hlk, j, t, hj, ht, q2⟩ := q1
      obtain rfl := r1.leaf
      obtain ⟨a', us', hv, hl', hH, kk⟩ := r1.dropT.renew (s' := .dK (ks.eraseIdx j)) h1 (fun z => by cases z)
      rw [hv0] at hv
      cases hv
      have hju : j < us'.length := by have := (List.getElem?_eq_some_iff.mp ht).1; omega
      have htj : j < ts.length := (List.getElem?_eq_some_iff.mp ht).1
      have hu : us'[j]? = some us'[j] := List.getElem?_eq_getElem hju
      have hz : (us'.zip ts)[j]'(by rw [List.length_zip]; omega) = (us'[j], t) := by
        rw [List.getElem_zip]
        rw [List.getElem?_eq_getElem htj] at ht
        rw [Option.some.inj ht]
      have hjz : j < (us'.zip ts).length := by rw [List.length_zip]; omega
      have r5 := kk ((us'.zip ts).eraseIdx j) ((us'[j], t) :: Φ) (by
        refine List.perm_middle.trans ?_
        rw [← hz]
        exact (erase_permJ _ j hjz).append_right Φ)
      rw [zip_erase, List.map_fst_zip (by rw [List.length_eraseIdx, List.length_eraseIdx, hl']; exact Nat.le_refl _), List.map_snd_zip (by rw [List.length_eraseIdx, List.length_eraseIdx, hl']; exact Nat.le_refl _)] at r5
      refine ⟨ks.zip us', .inl i0, us'[j], hH, rfl, by rw [val_zip (by omega) hj, hu], ?_⟩
      rw [drop_zip (by omega) hn hj, zip_erase]
      exact q2 _ _ r5
    · exact q1.elim
  · exact atSlot_mono (fun _ q => ⟨q.1, hi.mono _ _ _ _ _ (fun τk g1 q1 => atSlot_mono (fun t0 q2 => rtDPop_mono (fun t r z => hq _ _ z) q2) q1) hE q.2⟩) q
end
end DL
set_option Elab.async false
set_option linter.all false
set_option maxRecDepth 100000
set_option maxHeartbeats 4000000
namespace DL
open PySem L2
section
variable {K : PySem.W.Frag} {B : Bs} {lim : List Addr} {σ : St} {H : Hp} {g : Ev} {Φ : Its}
theorem RepG.relim {a : Addr} {u : HO} (r : RepG K B (a :: lim) σ H g Φ) (ht : ∀ vs, H a ≠ some (.tup vs)) : RepG K B (a :: lim) σ (upd H a u) g Φ := by
  obtain ⟨F, zs, fp, en, o, f, hl⟩ := r
  have nF : ¬ F a := f.off a (List.mem_append_left _ List.mem_cons_self)
  have nfp : a ∉ fp := fun z => (List.nodup_append.mp f.nd).2.2 a List.mem_cons_self a z rfl
  have some1 : ∀ b, H b ≠ none → upd H a u b ≠ none := fun b h => by
    by_cases e : b = a
    · rw [e, upd_same]; exact nofun
    · rw [upd_ne e]; exact h
  refine ⟨F, zs, fp, en, o.mono (fun _ z => z) (fun b hb w e => ?_) (fun b vs e => ?_), ⟨f.nd, f.off, fun b z => some1 b (f.trk b z), f.inc, fun b w e n => ?_, f.newF, f.newO, fun b vs e => ?_⟩, fun b z => some1 b (hl b z)⟩
  · rw [upd_ne]
    · exact e
    · intro z
      subst z
      exact hb.elim nF nfp
  · rw [upd_ne]
    · exact e
    · intro z
      subst z
      exact ht vs e
  · rw [upd_ne]
    · exact f.keep b w e n
    · intro z
      subst z
      rcases f.newO b (List.mem_append_left _ List.mem_cons_self) with y | y
      · exact n y
      · rw [y] at e; cases e
  · rw [upd_ne]
    · exact f.keepT b vs e
    · intro z
      subst z
      exact ht vs (f.keepT b vs e)
end
section
variable {X : Cx} {W : WX} {m : Nat → Bool} {tg iter elt e : Expr} {te : DTE} {pos p : Pos}
theorem lc_from {gt : DTG} {tt : DTT} {vs : List Nat} {B : Bs} {lim : List Addr} {σ : St} {H : Hp} {Q : VK} {J : It} {Ψ Φ : Its} {g1 : Ev} {ts : List T}
    (mg : ∀ τ g Q Q', (∀ g', Q g' → Q' g') → gt τ g Q → gt τ g Q') (mt : ∀ g Q Q' E E', (∀ b g', Q b g' → Q' b g') → (∀ c fs g', E c fs g' → E' c fs g') → tt g Q E → tt g Q' E')
    (me : ∀ g Q Q' E E', (∀ b g', Q b g' → Q' b g') → (∀ c fs g', E c fs g' → E' c fs g') → te g Q E → te g Q' E')
    (r1 : RepG X.K B lim σ H g1 (Ψ ++ Φ)) (hw : Walks X.K B lim J Ψ ts) (q1 : Lc gt tt te vs ts (wipeE g1 vs) [] (fun acc g2 => ∀ v H', RepG X.K B lim σ H' g2 (Ψ ++ ((v, .node true .lst acc) :: Φ)) → Q v H')) :
    tLc (fun σ H R => R J H) (liftG X.K B (mB vs) (L2.wipe σ vs) gt) (liftT X.K B W0 tt) (liftE X.K B W0 te) vs σ H Q := by
  intro D hD
  have r2 : RepG X.K B lim σ (upd H D (.lst [])) g1 (Ψ ++ ((.ref D, .node true .lst []) :: Φ)) := (RepG.make (s := .lst) (zs := []) r1 hD).perm List.perm_middle.symm
  refine ⟨fun i n H => n = ts.length - i ∧ i ≤ ts.length ∧ ∃ g acc, NoOwn g vs ∧ RepG X.K B lim (L2.wipe σ vs) H g (Ψ ++ ((.ref D, .node true .lst acc) :: Φ)) ∧
    lcL gt tt te vs (ts.drop i) g acc (fun acc g2 => ∀ v H', RepG X.K B lim σ H' g2 (Ψ ++ ((v, .node true .lst acc) :: Φ)) → Q v H'), ⟨ts.length, by simp, Nat.zero_le _, _, [], noOwn_wipe g1 vs, r2.wipe vs, q1.out⟩, ?_⟩
  rintro i n H ⟨rfl, hi, g2, acc, no, r3, q3⟩
  obtain ⟨w1, w2⟩ := hw _ H g2 _ i r3
  by_cases hlt : i < ts.length
  · have e : ts.drop i = ts[i] :: ts.drop (i + 1) := (List.drop_eq_getElem_cons hlt)
    rw [e] at q3
    obtain ⟨go, yl⟩ := w1 ts[i] (by simp [hlt])
    refine .inr ⟨go, fun H => ∃ g acc, NoOwn g vs ∧ RepG X.K B lim (L2.wipe σ vs) H g (Ψ ++ ((.ref D, .node true .lst acc) :: Φ)) ∧
      lcL gt tt te vs (ts.drop (i + 1)) g acc (fun acc g2 => ∀ v H', RepG X.K B lim σ H' g2 (Ψ ++ ((v, .node true .lst acc) :: Φ)) → Q v H'), fun H' z => ⟨ts.length - (i + 1), by omega, rfl, hlt, z⟩, fun x H' y => ?_⟩
    refine ⟨_, lim, g2, ts[i], yl x H' y, kept_refl, mg _ _ _ _ (fun g4 q4 σ4 H4 r4 hk4 => ?_) q3⟩
    have ws := wipe_same hk4
    refine ⟨ws, _, lim, g4, noX, r4, liftX0, mt _ _ _ _ _ (fun b g5 q5 H5 r5 => ?_) (fun _ _ _ z => z) q4⟩
    cases b with
    | false =>
      rw [if_neg Bool.false_ne_true]
      refine ⟨_, acc, noOwn_wipe g5 vs, ?_, q5⟩
      have := r5.wipe vs
      rwa [ws] at this
    | true =>
      rw [if_pos rfl]
      refine ⟨_, lim, g5, noX, r5, liftX0, me _ _ _ _ _ (fun τ g6 q6 z H6 r6 => ?_) (fun _ _ _ z => z) q5⟩
      have p1 : ((z, τ) :: (Ψ ++ ((V.ref D, T.node true .lst acc) :: Φ))).Perm ((V.ref D, T.node true .lst acc) :: ((z, τ) :: (Ψ ++ Φ))) :=
        (List.Perm.cons _ List.perm_middle).trans (List.Perm.swap _ _ _)
      obtain ⟨a, us, ea, hl, ha, r7⟩ := (r6.perm p1).open_
      cases ea
      refine ⟨us, ha, by rw [hl]; exact q6.1, _, acc ++ [τ], noOwn_wipe g6 vs, ?_, q6.2⟩
      have r8 : RepG X.K B (D :: lim) σ4 H6 g6 ((us.zip acc ++ [(z, τ)]) ++ (Ψ ++ Φ)) := by
        rw [List.append_assoc]
        exact r7
      have r9 := r8.close (s := .lst) (fun vs e => nomatch (show HO.lst us = HO.tup vs from Option.some.inj (ha.symm.trans e)))
      have e1 : ((us.zip acc ++ [(z, τ)]).map (·.1)) = us ++ [z] := by
        rw [List.map_append, List.map_fst_zip (by omega)]
        rfl
      have e2 : ((us.zip acc ++ [(z, τ)]).map (·.2)) = acc ++ [τ] := by
        rw [List.map_append, List.map_snd_zip (by omega)]
        rfl
      rw [e1, e2] at r9
      have r10 := (r9.perm List.perm_middle.symm).wipe vs
      rwa [ws] at r10
  · have e : ts.drop i = [] := List.drop_eq_nil_of_le (by omega)
    rw [e] at q3
    exact .inl ⟨w2 (by omega), q3 _ H (r3.unwipe no)⟩
theorem frzL_atI {ts : List T} (h : frzL ts = ts) {i : Nat} {t : T} (e : ts[i]? = some t) : frz t = t := by
  rw [← h] at e
  exact frzL_get e
def xLcV (i : Nat) (gt : DTG) (tt : DTT) (te : DTE) (vs : List Nat) : DTE := fun g Q _ => ∃ (ks : List Key) (ts : List T), g[i]? = some (some (.node true (.dK ks) ts)) ∧ ts.length = ks.length ∧ frzL ts = ts ∧
  Lc gt tt te vs ts (wipeE (g.set i none) vs) [] (fun acc g2 => Q (.node true .lst acc) (g2.set i (some (.node true (.dK ks) ts))))
theorem d_lcV {o : Expr} {ifs : List Expr} {scope : Scope} {own : List (Str × Nat)} {gt : DTG} {tt : DTT} {apos cpos : Pos} (i : Nat) (hc : X.calm = true) (hN : X.N.Nodup) (hi : PE X o (tVar i)) (ok : BlkOk X.N X.env.scope scope own)
    (hg : ∀ (s : Shared) (H : Hp) (C : Addr) (cl : List (Str × Addr)) (fp : List Addr), DG (X.blk s H scope (compEnvC scope cl C X.env) fp) (mB (own.map (·.2))) tg gt)
    (ht : ∀ (s : Shared) (H : Hp) (C : Addr) (cl : List (Str × Addr)) (fp : List Addr), DTs (X.blk s H scope (compEnvC scope cl C X.env) fp) W0 ifs tt)
    (he : ∀ (s : Shared) (H : Hp) (C : Addr) (cl : List (Str × Addr)) (fp : List Addr), DE (X.blk s H scope (compEnvC scope cl C X.env) fp) W0 elt te)
    (hbase : attributeBase o "values" X.env (eval o X.env) = eval o X.env := by rfl) (hline : (apos.endLine == cpos.line) = true := by rfl)
    (hs : ∀ x, foldedSetIterable (.Call (.Attribute o "values" apos) [] [] cpos) X.env x = pure x := by intro _; rfl) :
    DE X W (.ListComp elt [⟨tg, .Call (.Attribute o "values" apos) [] [] cpos, ifs, 0⟩] scope pos) (xLcV i gt tt te (own.map (·.2))) := by
  have mg := fun (s : Shared) (H : Hp) => (hg s H 0 [] []).mono
  have mt := fun (s : Shared) (H : Hp) => (ht s H 0 [] []).mono
  have me := fun (s : Shared) (H : Hp) => (he s H 0 [] []).mono
  refine ⟨fun B => ⟨fun pins s σ H Q I ⟨Φ, lim, g, E, r, hx, ks, ts, h0, hk, hf, q⟩ => ?_⟩, fun g Q Q' E E' hq _ ⟨ks, ts, h0, hk, hf, q⟩ => ⟨ks, ts, h0, hk, hf, ⟨lcL_mono (mg X.s_0 X.H_0) (mt X.s_0 X.H_0) (me X.s_0 X.H_0) _ _ _ _ _ (fun _ _ z => hq _ _ z) q.out⟩⟩⟩
  obtain ⟨v0, hv, r1⟩ := r.move h0
  obtain ⟨d, us, rfl, hl, hd, r2⟩ := r1.open_
  have hd : H d = some (.dK (ks.zip us)) := hd
  refine (pe_lock (t := fun σ H Q => ∃ B', tLc (iVals (tVar i)) (liftG X.K B' (mB (own.map (·.2))) (L2.wipe σ (own.map (·.2))) gt) (liftT X.K B' W0 tt) (liftE X.K B' W0 te) (own.map (·.2)) σ H Q) ?_).run pins s σ H Q I ⟨d, _, hd, trivial, fun od => ?_⟩
  · refine ⟨fun pins s σ H Q I ⟨B', h⟩ => ?_⟩
    exact (pe_lc (g := liftG X.K B' (mB (own.map (·.2))) (L2.wipe σ (own.map (·.2))) gt) hc hN (pi_values hi hbase hline) ok (fun s H C cl fp => (hg s H C cl fp).run B' _) (fun s H C cl fp => (ht s H C cl fp).run B') (fun s H C cl fp => (he s H C cl fp).run B') hs).run pins s σ H Q I h
  · have r3 := r2.relim (u := .frz od (.dK (ks.zip us))) (fun vs e => by rw [hd] at e; cases e)
    obtain ⟨B', r4, back⟩ := r3.rebase
    refine ⟨B', .ref d, hv, d, od, ks.zip us, rfl, upd_same, ?_⟩
    have hH : ∀ σ1 H1 g1 Ψ, RepG X.K B' [] σ1 H1 g1 Ψ → H1 d = some (.frz od (.dK (ks.zip us))) := fun σ1 H1 g1 Ψ r5 => by
      rw [(back σ1 H1 g1 Ψ r5).2 d List.mem_cons_self]
      exact upd_same
    refine lc_from (Q := fun v H' => H' d = some (.frz od (.dK (ks.zip us))) ∧ Q v (upd H' d (.dK (ks.zip us)))) (mg s H) (mt s H) (me s H) r4 (J := Itd d od (ks.zip us)) (ts := ts) (fun σ1 H1 g1 Φ1 j r5 => ?_) ⟨lcL_mono (mg s H) (mt s H) (me s H) _ _ _ _ _ (fun acc g2 z v H' r6 => ?_) q.out⟩
    · have hH1 := hH _ _ _ _ r5
      have hz : (ks.zip us).length = ts.length := by rw [List.length_zip]; omega
      refine ⟨fun t ht => ?_, fun hi => ⟨hH1, by omega⟩⟩
      have hj := (List.getElem?_eq_some_iff.mp ht).1
      refine ⟨⟨hH1, by omega⟩, fun x H' y => ?_⟩
      obtain ⟨rfl, k, e1⟩ := y
      obtain ⟨v, hv, hzz⟩ := zip_get hl ht
      rw [List.getElem?_zip_eq_some] at e1
      have e2 := e1.2
      rw [hv] at e2
      cases e2
      exact RepG.dupAt (zs := us.zip ts) (i := j) r5 hzz (frzL_atI hf ht)
    · obtain ⟨r7, hsame⟩ := back _ _ _ _ r6
      refine ⟨hH _ _ _ _ r6, ?_⟩
      have r8 := r7.close (s := .dK ks) (fun vs e => by rw [hH _ _ _ _ r6] at e; cases e)
      rw [List.map_fst_zip (by omega), List.map_snd_zip (by omega)] at r8
      exact z v _ (r8.back hv)
end
end DL
set_option Elab.async false
set_option linter.all false
set_option maxRecDepth 100000
set_option maxHeartbeats 4000000
namespace DL
open PySem L2
section
variable {X : Cx} {W : WX} {o e : Expr} {pos p : Pos}
def rNe0 : R2 := fun x y H Q => ∃ a b kvs, x = .ref a ∧ y = .ref b ∧ H a = some (.dK kvs) ∧ H b = some (.dK ([] : List (Key × V))) ∧ Q (.bl (!kvs.isEmpty)) H
theorem op_ne0 (hu : X.A.units < cLine) : OpR X (compareOp .NotEq) rNe0 := by
  intro pins s σ H x y v u Q I rx ry ⟨a, b, kvs, ex, ey, ha, hb, q⟩
  subst ex ey
  cases (show v = Value.ref a from rx)
  cases (show u = Value.ref b from ry)
  obtain ⟨za, hda, vs, rel, dda⟩ := dk_of I.hok ha
  obtain ⟨zb, hdb, ws, relb, ddb⟩ := dk_of I.hok hb
  have e0 : ws = [] := List.eq_nil_of_length_eq_zero (by have := relb.length; simpa using this.symm)
  subst e0
  have e1 : kvs.length = vs.length := rel.length
  refine PySem.W.keq_ne (r := true) hda hdb dda ddb hu (fun hl => ?_) ?_
  · have : vs = [] := List.eq_nil_of_length_eq_zero hl
    subst this
    exact .nil
  · have e2 : (!(vs.length == ([] : List (Key × Value)).length && true)) = !kvs.isEmpty := by
      cases kvs with
      | nil =>
        have : vs = [] := List.eq_nil_of_length_eq_zero (by simpa using e1.symm)
        subst this
        rfl
      | cons k ks =>
        cases vs with
        | nil => cases e1
        | cons _ _ => rfl
    rw [e2]
    exact ⟨.bl (!kvs.isEmpty), H, I, rfl, q⟩
def xNe0 (i : Nat) : DTT := fun g Q _ => ∃ (o : Bool) (ks : List Key) (ts : List T), g[i]? = some (some (.node o (.dK ks) ts)) ∧ ts.length = ks.length ∧ Q (!ks.isEmpty) g
theorem dt_ne0 (i : Nat) (hu : X.A.units < cLine) (ho : PE X o (tVar i)) (hm : behindInMarks .NotEq (.Dict [] [] p) = false := by first | exact nobehind _ (by decide) (by decide) | rfl) : DT X W (.Compare o [.NotEq] [.Dict [] [] p] pos) (xNe0 i) := by
  refine ⟨fun B => PT.imp (pt_cmpR (op_ne0 hu) ho pe_dnewK hm) fun σ H Q ⟨Φ, lim, g, E, r, hx, ow, ks, ts, h0, hl, q⟩ => ?_, fun g Q Q' E E' hq _ ⟨ow, ks, ts, h0, hl, q⟩ => ⟨ow, ks, ts, h0, hl, hq _ _ q⟩⟩
  obtain ⟨a, us, hv, hlu, ha⟩ : ∃ a us, σ[i]? = some (some (.ref a)) ∧ us.length = ts.length ∧ H a = some (.dK (ks.zip us)) := by
    obtain ⟨v, hv, r1⟩ := r.move h0
    obtain ⟨F, f1, f2, o1, _⟩ := two_own (u := .leaf .non) (y := .non) (r1.addLeaf.perm (List.Perm.swap _ _ _))
    obtain ⟨a, us, fp', rfl, ha, ol⟩ := nodeAt o1 (fun z => by cases z)
    exact ⟨a, us, hv, ol.length, ha⟩
  refine ⟨_, hv, fun d hd => ⟨a, d, ks.zip us, rfl, rfl, ?_, upd_same, _, rfl, ?_⟩⟩
  · rw [upd_ne]
    · exact ha
    · intro z
      rw [z, hd] at ha
      cases ha
  · have r2 := (make_of (.dK []) (vs := []) (τs := []) rfl r hd).dropT
    have e : (ks.zip us).isEmpty = ks.isEmpty := by
      cases ks with
      | nil => rfl
      | cons k ks =>
        cases us with
        | nil => rw [hl] at hlu; cases hlu
        | cons u us => rfl
    rw [e]
    exact q _ r2
end
end DL
set_option Elab.async false
set_option linter.all false
set_option maxRecDepth 100000
set_option maxHeartbeats 4000000
namespace DL
open PySem PySem.Spec PyProof.Rows L2 W
theorem strict_of : ∀ l : List Int, l.Pairwise (· ≤ ·) → l.Nodup → l.Pairwise (· < ·)
  | [], _, _ => .nil
  | x :: l, h, d => by
    have h := List.pairwise_cons.mp h
    have d := List.nodup_cons.mp d
    exact .cons (fun y hy => by have a := h.1 y hy; have b : x ≠ y := fun z => d.1 (z ▸ hy); omega) (strict_of l h.2 d.2)
section
variable {P : Program} {w : World} {A : Around} {E : Value → Shared → Prop} {s : Shared} {a : Addr} {S : Int → Bool} {n : Nat}
theorem sorted_setB {Q : Value → Shared → Prop} (R : SetR w s.heap a S n) (hh : A.handled = none) (hu : A.units + 64 < cLine) (hn' : n < 4096)
    (hQ : ∀ s' p (out : Array Value) (c : Nat) (ns : List Int), (∀ b o, s.heap.get? b = some o → s'.heap.get? b = some o) → s'.gens = s.gens → s'.os = s.os → s.heap.objs.size ≤ p →
      s'.heap.get? p = some (seqObj "list" out c) → IntsAre out.toList ns → ns.Pairwise (· < ·) → (∀ k, k ∈ ns ↔ S k = true) → ns.length = n → Q (.ref p) s') :
    wpAny (model P w) A (call (.builtin "sorted") [.ref a]) Q E s := by
  obtain ⟨o, es, ep, t, ho, hex, hd, g, nd, hm, hb, hf, hn, hr, hl⟩ := R
  refine Calls.call_function_entry kind_sorted plain_sorted entry_sorted (args_sorted1 _) ?_
  unfold Builtin.«sorted»
  refine wpAny_bind (m := checkCount "sorted" 1 1 _) (wpAny_pure ?_)
  refine wpAny_bind (collect_set (A := A.in1) hh ⟨o, ho, hex.1, hd⟩ hf hb hr hl fun s1 vs k1 hz g1 o1 pm => ?_)
  have hvl : vs.length = n := by rw [pm.length_eq, List.length_map, Array.length_toList]; exact hn
  obtain ⟨ks, eks⟩ : ∃ ks, ks = vs.map Builtin.Re.reRawOf := ⟨_, rfl⟩
  have hkl : ks.length = n := by rw [eks, List.length_map, hvl]
  have hI : IntsAre vs ks := by
    rw [eks]
    refine ints_of vs fun v hv => ?_
    obtain ⟨e, he, q⟩ := List.mem_map.mp (pm.mem_iff.mp hv)
    obtain ⟨k, tk, h1, _⟩ := g e he
    exact ⟨k, tk, by rw [← q]; exact h1⟩
  have pk : ks.Perm (es.toList.map keyOf) := by
    have q := pm.map Builtin.Re.reRawOf
    rw [List.map_map] at q
    rw [eks]
    exact q
  refine wpAny_bind (wpAny_newList ?_ (by rw [hvl, sizeLine_eq]; omega))
  have hoL : (s1.heap.push (seqObj "list" vs.toArray 0)).get? s1.heap.objs.size = some (seqObj "list" vs.toArray 0) := Heap.get?_push_size _ rfl
  have each := each_ints hI
  refine wpAny_bind (wpAny_holding (list_sort_data2 (s := { s1 with heap := s1.heap.push (seqObj "list" vs.toArray 0) }) (enc := fun n : Int => PyData.int n) (bs := ks) (n := 0) hoL each (each.mono fun v n ⟨t, e⟩ => ⟨[], e ▸ .int _ _, fun z => nomatch z⟩) ?_ ?_ (by rw [hkl, sizeLine_eq]; omega) (fun n hn => ?_) fun out ho he => ?_))
  · intro d hd d' hd'
    obtain ⟨x, hx, rfl⟩ := List.mem_map.mp hd
    obtain ⟨y, hy, rfl⟩ := List.mem_map.mp hd'
    rfl
  · exact .inr fun d hd => by
      obtain ⟨x, hx, rfl⟩ := List.mem_map.mp hd
      exact ⟨nofun, nofun⟩
  · show A.in1.units + 1 + (PyData.int n).depth < cLine
    have : A.in1.units = A.units + 1 := rfl
    simp only [PyData.depth]
    omega
  · obtain ⟨c, hc⟩ := PyProof.Rows.sortedHeap_at (vs := vs) (out := out.toArray) hoL
    rw [show (W.dataLe false fun n : Int => PyData.int n) = fun x y => decide (x ≤ y) from W.dataLe_int id] at he
    have hv := ints_each2 he
    have a2 : (ks.mergeSort fun x y => decide (x ≤ y)).Perm (es.toList.map keyOf) := (List.mergeSort_perm _ _).trans pk
    have a3 : (ks.mergeSort fun x y => decide (x ≤ y)).Pairwise (· ≤ ·) := by
      have := List.pairwise_mergeSort (le := fun x y : Int => decide (x ≤ y)) (fun a b c h1 h2 => decide_eq_true (by have := of_decide_eq_true h1; have := of_decide_eq_true h2; omega)) (fun a b => by
        rcases Int.le_total a b with h | h
        · rw [decide_eq_true h]; rfl
        · rw [decide_eq_true h, Bool.or_true]) ks
      exact this.imp fun h => of_decide_eq_true h
    refine wpAny_pure ⟨_, rfl, hQ _ s1.heap.objs.size out.toArray c _ (fun b u e => ?_) g1 o1 hz hc hv (strict_of _ a3 (a2.nodup_iff.mpr nd)) (fun k => by rw [a2.mem_iff, ← hm k]) (by rw [List.length_mergeSort, hkl])⟩
    have q := k1 b u e
    have hlt := Heap.lt_size q
    rw [PyProof.Rows.sortedHeap_old (Nat.ne_of_lt hlt) (by rw [size_push']; exact Nat.lt_succ_of_lt hlt)]
    exact Heap.get?_push_of_some _ q
end
section
variable {X : Cx} {W : WX} {a e : Expr} {ta : TE} {p p2 q pos : Pos}
def tSortSetB (K : PySem.W.Frag) (ta : TE) : TE := fun σ H Q => ta σ H fun x H1 => ∃ (l : Addr) (ns : List Int), x = V.ref l ∧ SqL K H1 l (ns.map V.int) ∧ ns.length < 4000 ∧
  ∀ (ns' : List Int) (p : Addr), ns'.Pairwise (· < ·) → (∀ k : Int, k ∈ ns' ↔ k ∈ ns) → H1 p = none → Q (.ref p) (upd H1 p (.lst (ns'.map V.int)))
theorem pe_sortSetB (hu : X.A.units + 64 < cLine) (hg : Gl X "sorted") (hm : X.mg "sorted" = none) (hg2 : Gl X "set") (hm2 : X.mg "set" = none) (ha : PE X a ta) (hc : X.calm = true := by rfl)
    (na : starEach [a] X.env = (false, eval a X.env) :: starEach [] X.env := by rfl) : PE X (.Call (.Name "sorted" p) [.Call (.Name "set" p2) [a] [] q] [] pos) (tSortSetB X.K ta) := by
  refine ⟨fun pins s σ H Q I h => ?_⟩
  refine Call_ (ld_blt I hg hm boot_sorted ?_)
  refine PyProof.Rows.callWith_builtin1 (PyProof.Rows.args_cons ?_ rfl) rfl rfl
  refine Call_ (ld_blt I hg2 hm2 boot_set ?_)
  refine PyProof.Rows.callWith_type1 (PyProof.Rows.args_cons (thn (ha.run pins s σ H _ I h) fun v s1 ⟨x, H1, I1, r1, q1⟩ => PyProof.Rows.args_nil ?_) na) na rfl
  obtain ⟨l, ns, rfl, hq, hl, q1⟩ := q1
  cases r1
  obtain ⟨its, r, pl, hz⟩ := I1.list hq
  have hlen : its.toArray.size = ns.length := by rw [List.size_toArray, ← r.length, List.length_map]
  refine call_set_lstI ns (I1.ok.hd hc) pl.isList (by simpa using RZ.intsAre_vals r) (by unfold scanBound; omega) fun h' tk c hS hc2 hk => ?_
  refine PyProof.Rows.args_nil ?_
  have I2 : Inv X pins σ H1 { s1 with heap := h', toks := tk } := I1.kept fun b o e => hk b o e
  obtain ⟨s2, es2⟩ : ∃ s2 : Shared, s2 = { s1 with heap := h', toks := tk } := ⟨_, rfl⟩
  have hS2 : SetR X.w s2.heap s1.heap.objs.size (fun j => decide (j ∈ ns)) c := by rw [es2]; exact hS
  rw [← es2] at I2 ⊢
  refine sorted_setB hS2 (I2.ok.hd hc) hu (by omega) fun s' p out c ns' k g o hp hg hi hs hm hl => ?_
  have hlen : (ns'.map V.int).length ≤ sizeLine := by rw [List.length_map, hl, sizeLine_eq]; omega
  have hn : H1 p = none := I2.hok.fresh hp
  have J : Inv X pins σ (upd H1 p (.lst (ns'.map V.int))) { s2 with heap := s'.heap, gens := s'.gens, drawn := s'.drawn, toks := s'.toks } :=
    I2.call (ch := []) (Un.laid k hp hn) (I2.hok.laid k hp ⟨hlen, out.toList, c, vals_of_ints hi, hg⟩) (by rw [g]; exact I2.bare) (fun _ z => nomatch z)
  have e : s' = { s2 with heap := s'.heap, gens := s'.gens, drawn := s'.drawn, toks := s'.toks } := by
    cases s'
    cases s2
    cases o
    rfl
  rw [e]
  exact ⟨.ref p, _, J, rfl, q1 ns' p hs (fun k => by rw [hm]; simp) hn⟩
end
section
variable {X : Cx} {W : WX} {m : Nat → Bool} {a e : Expr} {ta : DTE} {p p2 q pos : Pos}
def xSortSetB (ta : DTE) : DTE := fun g Q E => ta g (fun τ g1 => match τ with
  | .node _ .lst ts => ∃ ns : List Int, ts = intsT ns ∧ ns.length < 4000 ∧ ∀ ns' : List Int, ns'.Pairwise (· < ·) → (∀ k : Int, k ∈ ns' ↔ k ∈ ns) → Q (.node true .lst (intsT ns')) g1
  | _ => False) E
theorem d_sortSetB (hu : X.A.units + 64 < cLine) (hg : Gl X "sorted") (hm : X.mg "sorted" = none) (hg2 : Gl X "set") (hm2 : X.mg "set" = none) (ha : DE X W a ta) (hc : X.calm = true := by rfl)
    (na : starEach [a] X.env = (false, eval a X.env) :: starEach [] X.env := by rfl) : DE X W (.Call (.Name "sorted" p) [.Call (.Name "set" p2) [a] [] q] [] pos) (xSortSetB ta) := by
  refine ⟨fun B => PE.imp (pe_sortSetB hu hg hm hg2 hm2 (ha.run B) hc na) fun σ H Q ⟨Φ, lim, g, E, r, hx, q⟩ => ?_, fun g Q Q' E E' hq hE q => ha.mono _ _ _ _ _ (fun τ g1 q1 => ?_) hE q⟩
  · refine ⟨Φ, lim, g, E, r, hx, ha.mono _ _ _ _ _ (fun τ g1 q1 v H1 r1 => ?_) (fun _ _ _ z => z) q⟩
    split at q1
    · rename_i o ts
      obtain ⟨ns, rfl, hl, q1⟩ := q1
      have r2 : RepG X.K B lim σ H1 g1 ((v, .node o .lst ((ns.map V.int).map T.leaf)) :: Φ) := by
        rw [← intsT_eq]
        exact r1
      obtain ⟨ad, rfl, hr⟩ := r2.flats
      refine ⟨ad, ns, rfl, seqL hr, hl, fun ns' p h1 h2 hp => q1 ns' h1 h2 _ _ ?_⟩
      rw [intsT_eq]
      exact make_of .lst (by simp) (leavesR r2.dropT (ns'.map V.int)) hp
    · exact q1.elim
  · split at q1
    · obtain ⟨ns, h1, h2, h3⟩ := q1
      exact ⟨ns, h1, h2, fun ns' h4 h5 => hq _ _ (h3 ns' h4 h5)⟩
    · exact q1.elim
end
end DL
set_option Elab.async false
set_option linter.all false
set_option maxRecDepth 100000
set_option maxHeartbeats 4000000
namespace L72
open PySem L2 DL
def top (i : Nat) : Stmt := PySem.Challenge.pw_wholepoll_k72_marks_that_wait.main.body.getD i (.Pass ⟨0, 0, 0, 0⟩)
variable [Kls]
abbrev C_Way : Addr := Kls.a 0
abbrev C_Lists : Addr := Kls.a 1
abbrev ns_Lists : List Str := ["hands", "seats", "lots", "hurdle", "step"]
abbrev C_Pairs : Addr := Kls.a 2
abbrev C_Land : Addr := Kls.a 3
abbrev ix_Land : List Nat := [0, 2, 4, 3, 1, 5]
abbrev s_is_whole : Stmt := top 7
def N_is_whole : List Str := ["thing"]
theorem sc_is_whole : FnScope N_is_whole ["thing"] (defScope s_is_whole) := ⟨rfl, rfl, rfl, by decide +kernel, rfl, by decide +kernel, by decide +kernel⟩
abbrev s_divisor : Stmt := top 8
def N_divisor : List Str := ["one", "other", "rest"]
theorem sc_divisor : FnScope N_divisor ["one", "other"] (defScope s_divisor) := ⟨rfl, rfl, rfl, by decide +kernel, rfl, by decide +kernel, by decide +kernel⟩
abbrev s_up : Stmt := top 9
def N_up : List Str := ["top", "bottom", "times", "rest"]
theorem sc_up : FnScope N_up ["top", "bottom"] (defScope s_up) := ⟨rfl, rfl, rfl, by decide +kernel, rfl, by decide +kernel, by decide +kernel⟩
abbrev s_fraction : Stmt := top 11
def N_fraction : List Str := ["top", "bottom", "by"]
theorem sc_fraction : FnScope N_fraction ["top", "bottom"] (defScope s_fraction) := ⟨rfl, rfl, rfl, by decide +kernel, rfl, by decide +kernel, by decide +kernel⟩
abbrev s_under : Stmt := top 12
def N_under : List Str := ["one", "other"]
theorem sc_under : FnScope N_under ["one", "other"] (defScope s_under) := ⟨rfl, rfl, rfl, by decide +kernel, rfl, by decide +kernel, by decide +kernel⟩
abbrev s_members : Stmt := top 14
abbrev s_lots_of : Stmt := top 18
def N_lots_of : List Str := ["hands", "lots", "lot"]
theorem sc_lots_of : FnScope N_lots_of ["hands", "lots"] (defScope s_lots_of) := ⟨rfl, rfl, rfl, by decide +kernel, rfl, by decide +kernel, by decide +kernel⟩
abbrev s_Way_init : Stmt := inClass (top 19) 0
def N_Way_init : List Str := ["self", "hands", "seats", "lots"]
theorem sc_Way_init : FnScope N_Way_init ["self", "hands", "seats", "lots"] (defScope s_Way_init) := ⟨rfl, rfl, rfl, by decide +kernel, rfl, by decide +kernel, by decide +kernel⟩
abbrev s_vote_of : Stmt := top 22
abbrev s_votes_of : Stmt := top 23
abbrev s_hurdle_of : Stmt := top 24
def N_hurdle_of : List Str := ["hurdle", "top", "bottom"]
theorem sc_hurdle_of : FnScope N_hurdle_of ["hurdle"] (defScope s_hurdle_of) := ⟨rfl, rfl, rfl, by decide +kernel, rfl, by decide +kernel, by decide +kernel⟩
abbrev s_marks_of : Stmt := top 25
def N_marks_of : List Str := ["way", "votes", "least", "had", "marks", "hand"]
theorem sc_marks_of : FnScope N_marks_of ["way", "votes", "least", "had"] (defScope s_marks_of) := ⟨rfl, rfl, rfl, by decide +kernel, rfl, by decide +kernel, by decide +kernel⟩
abbrev s_goes_ahead : Stmt := top 26
def N_goes_ahead : List Str := ["way", "marks", "one", "other"]
theorem sc_goes_ahead : FnScope N_goes_ahead ["way", "marks", "one", "other"] (defScope s_goes_ahead) := ⟨rfl, rfl, rfl, by decide +kernel, rfl, by decide +kernel, by decide +kernel⟩
abbrev s_seat_due : Stmt := top 27
def N_seat_due : List Str := ["way", "marks", "best", "hand"]
theorem sc_seat_due : FnScope N_seat_due ["way", "marks"] (defScope s_seat_due) := ⟨rfl, rfl, rfl, by decide +kernel, rfl, by decide +kernel, by decide +kernel⟩
abbrev s_Lists_init : Stmt := inClass (top 28) 0
def N_Lists_init : List Str := ["self", "hands", "seats", "lots", "hurdle", "step"]
theorem sc_Lists_init : FnScope N_Lists_init ["self", "hands", "seats", "lots", "hurdle", "step"] (defScope s_Lists_init) := ⟨rfl, rfl, rfl, by decide +kernel, rfl, by decide +kernel, by decide +kernel⟩
abbrev s_rounds_of : Stmt := top 30
def N_rounds_of : List Str := ["land", "votes", "least", "had", "many", "now", "rounds", "marks", "hand"]
theorem sc_rounds_of : FnScope N_rounds_of ["land", "votes", "least", "had", "many"] (defScope s_rounds_of) := ⟨rfl, rfl, rfl, by decide +kernel, rfl, by decide +kernel, by decide +kernel⟩
abbrev s_evening : Stmt := top 31
def N_evening : List Str := ["land", "votes", "had", "least"]
theorem sc_evening : FnScope N_evening ["land", "votes", "had"] (defScope s_evening) := ⟨rfl, rfl, rfl, by decide +kernel, rfl, by decide +kernel, by decide +kernel⟩
abbrev s_evened_by : Stmt := top 32
def N_evened_by : List Str := ["land", "paper", "found", "marks", "hand"]
theorem sc_evened_by : FnScope N_evened_by ["land", "paper"] (defScope s_evened_by) := ⟨rfl, rfl, rfl, by decide +kernel, rfl, by decide +kernel, by decide +kernel⟩
abbrev s_goes_first : Stmt := top 33
def N_goes_first : List Str := ["land", "one", "other"]
theorem sc_goes_first : FnScope N_goes_first ["land", "one", "other"] (defScope s_goes_first) := ⟨rfl, rfl, rfl, by decide +kernel, rfl, by decide +kernel, by decide +kernel⟩
abbrev s_first_of : Stmt := top 34
def N_first_of : List Str := ["land", "some", "best", "one"]
theorem sc_first_of : FnScope N_first_of ["land", "some"] (defScope s_first_of) := ⟨rfl, rfl, rfl, by decide +kernel, rfl, by decide +kernel, by decide +kernel⟩
abbrev s_waiting : Stmt := top 35
def N_waiting : List Str := ["land", "votes", "had", "least", "found", "rows", "hand", "mark", "k", "row"]
theorem sc_waiting : FnScope N_waiting ["land", "votes", "had"] (defScope s_waiting) := ⟨rfl, rfl, rfl, by decide +kernel, rfl, by decide +kernel, by decide +kernel⟩
abbrev s_is_count : Stmt := top 39
def N_is_count : List Str := ["thing", "most"]
theorem sc_is_count : FnScope N_is_count ["thing", "most"] (defScope s_is_count) := ⟨rfl, rfl, rfl, by decide +kernel, rfl, by decide +kernel, by decide +kernel⟩
abbrev s_areas_of : Stmt := top 44
def N_areas_of : List Str := ["areas", "way"]
theorem sc_areas_of : FnScope N_areas_of ["areas"] (defScope s_areas_of) := ⟨rfl, rfl, rfl, by decide +kernel, rfl, by decide +kernel, by decide +kernel⟩
abbrev s_Land_init : Stmt := inClass (top 45) 1
def N_Land_init : List Str := ["self", "areas", "evened", "lots", "hurdle", "step"]
theorem sc_Land_init : FnScope N_Land_init ["self", "areas", "evened", "lots", "hurdle", "step"] (defScope s_Land_init) := ⟨rfl, rfl, rfl, by decide +kernel, rfl, by decide +kernel, by decide +kernel⟩
abbrev s_Land_ahead : Stmt := inClass (top 45) 2
def N_Land_ahead : List Str := ["self", "one", "other"]
theorem sc_Land_ahead : FnScope N_Land_ahead ["self", "one", "other"] (defScope s_Land_ahead) := ⟨rfl, rfl, rfl, by decide +kernel, rfl, by decide +kernel, by decide +kernel⟩
abbrev s_Land_least_votes : Stmt := inClass (top 45) 4
def N_Land_least_votes : List Str := ["self", "ballots"]
theorem sc_Land_least_votes : FnScope N_Land_least_votes ["self", "ballots"] (defScope s_Land_least_votes) := ⟨rfl, rfl, rfl, by decide +kernel, rfl, by decide +kernel, by decide +kernel⟩
abbrev s_Land_mark : Stmt := inClass (top 45) 5
def N_Land_mark : List Str := ["self", "many", "had"]
theorem sc_Land_mark : FnScope N_Land_mark ["self", "many", "had"] (defScope s_Land_mark) := ⟨rfl, rfl, rfl, by decide +kernel, rfl, by decide +kernel, by decide +kernel⟩
abbrev s__law_bag : Stmt := top 47
def N__law_bag : List Str := ["_law_script", "_law_cell"]
theorem sc__law_bag : FnScope N__law_bag ["_law_script"] (defScope s__law_bag) := ⟨rfl, rfl, rfl, by decide +kernel, rfl, by decide +kernel, by decide +kernel⟩
abbrev s__law_take : Stmt := top 48
def N__law_take : List Str := ["_law_bag_here", "_law_many_here", "_law_early", "_law_second", "_law_cell", "_law_mixed_here", "_law_drawn"]
theorem sc__law_take : FnScope N__law_take ["_law_bag_here", "_law_many_here"] (defScope s__law_take) := ⟨rfl, rfl, rfl, by decide +kernel, rfl, by decide +kernel, by decide +kernel⟩
abbrev s__law_one : Stmt := top 49
def N__law_one : List Str := ["_law_bag_here", "_law_menu"]
theorem sc__law_one : FnScope N__law_one ["_law_bag_here", "_law_menu"] (defScope s__law_one) := ⟨rfl, rfl, rfl, by decide +kernel, rfl, by decide +kernel, by decide +kernel⟩
abbrev s__law_mixed : Stmt := top 50
def N__law_mixed : List Str := ["_law_bag_here", "_law_things", "_law_found", "_law_thing"]
theorem sc__law_mixed : FnScope N__law_mixed ["_law_bag_here", "_law_things"] (defScope s__law_mixed) := ⟨rfl, rfl, rfl, by decide +kernel, rfl, by decide +kernel, by decide +kernel⟩
abbrev s__law_alike : Stmt := top 51
def N__law_alike : List Str := ["_law_found", "_law_due_here"]
theorem sc__law_alike : FnScope N__law_alike ["_law_found", "_law_due_here"] (defScope s__law_alike) := ⟨rfl, rfl, rfl, by decide +kernel, rfl, by decide +kernel, by decide +kernel⟩
abbrev s__law_need : Stmt := top 52
def N__law_need : List Str := ["_law_numbers_here", "_law_ballots", "_law_top", "_law_bottom"]
theorem sc__law_need : FnScope N__law_need ["_law_numbers_here", "_law_ballots"] (defScope s__law_need) := ⟨rfl, rfl, rfl, by decide +kernel, rfl, by decide +kernel, by decide +kernel⟩
abbrev s__law_part : Stmt := top 53
def N__law_part : List Str := ["_law_top", "_law_bottom", "_law_one_here", "_law_other", "_law_k"]
theorem sc__law_part : FnScope N__law_part ["_law_top", "_law_bottom"] (defScope s__law_part) := ⟨rfl, rfl, rfl, by decide +kernel, rfl, by decide +kernel, by decide +kernel⟩
abbrev s__law_order : Stmt := top 54
def N__law_order : List Str := ["_law_numbers_here", "_law_hands"]
theorem sc__law_order : FnScope N__law_order ["_law_numbers_here", "_law_hands"] (defScope s__law_order) := ⟨rfl, rfl, rfl, by decide +kernel, rfl, by decide +kernel, by decide +kernel⟩
abbrev s__law_numbers : Stmt := top 55
def N__law_numbers : List Str := ["_law_bag_here", "_law_hands", "_law_seats", "_law_some", "_law_found"]
theorem sc__law_numbers : FnScope N__law_numbers ["_law_bag_here", "_law_hands", "_law_seats"] (defScope s__law_numbers) := ⟨rfl, rfl, rfl, by decide +kernel, rfl, by decide +kernel, by decide +kernel⟩
abbrev s__law_many : Stmt := top 56
def N__law_many : List Str := ["_law_bag_here", "_law_hands", "_law_far", "_law_hand"]
theorem sc__law_many : FnScope N__law_many ["_law_bag_here", "_law_hands"] (defScope s__law_many) := ⟨rfl, rfl, rfl, by decide +kernel, rfl, by decide +kernel, by decide +kernel⟩
abbrev s__law_due : Stmt := top 57
def N__law_due : List Str := ["_law_own", "_law_votes", "_law_had", "_law_hands", "_law_step", "_law_order_here", "_law_need_here", "_law_rows", "_law_whole", "_law_hand", "_law_bottom", "_law_keyed", "_law_found", "_law_k", "_law_row"]
theorem sc__law_due : FnScope N__law_due ["_law_own", "_law_votes", "_law_had"] (defScope s__law_due) := ⟨rfl, rfl, rfl, by decide +kernel, rfl, by decide +kernel, by decide +kernel⟩
abbrev s__law_made : Stmt := top 58
def N__law_made : List Str := ["_law_own", "_law_hands", "_law_seats"]
theorem sc__law_made : FnScope N__law_made ["_law_own", "_law_hands", "_law_seats"] (defScope s__law_made) := ⟨rfl, rfl, rfl, by decide +kernel, rfl, by decide +kernel, by decide +kernel⟩
abbrev s__law_parted_right : Stmt := top 59
def N__law_parted_right : List Str := ["_law_bag_here", "_law_own", "_law_votes", "_law_had", "_law_rows", "_law_hands", "_law_at", "_law_now", "_law_mark", "_law_hand", "_law_later"]
theorem sc__law_parted_right : FnScope N__law_parted_right ["_law_bag_here", "_law_own", "_law_votes", "_law_had", "_law_rows"] (defScope s__law_parted_right) := ⟨rfl, rfl, rfl, by decide +kernel, rfl, by decide +kernel, by decide +kernel⟩
abbrev s__law_right : Stmt := top 60
def N__law_right : List Str := ["_law_bag_here", "_law_land", "_law_own", "_law_votes", "_law_had", "_law_hands", "_law_due_here", "_law_rows", "_law_paper", "_law_wide", "_law_more", "_law_grown", "_law_a", "_law_b", "_law_marks", "_law_hand"]
theorem sc__law_right : FnScope N__law_right ["_law_bag_here", "_law_land", "_law_own", "_law_votes", "_law_had"] (defScope s__law_right) := ⟨rfl, rfl, rfl, by decide +kernel, rfl, by decide +kernel, by decide +kernel⟩
abbrev s_law : Stmt := top 61
def N_law : List Str := ["_law_script", "_law_bag_here", "_law_turn", "_law_is_wide", "_law_hands", "_law_own", "_law_asked", "_law_land", "_law_k", "_law_votes", "_law_had", "_law_hand"]
theorem sc_law : FnScope N_law ["_law_script"] (defScope s_law) := ⟨rfl, rfl, rfl, by decide +kernel, rfl, by decide +kernel, by decide +kernel⟩
theorem bo_abs : bootBuiltins "abs" = some (.builtin "abs") := by decide +kernel
theorem bo_all : bootBuiltins "all" = some (.builtin "all") := by decide +kernel
theorem bo_any : bootBuiltins "any" = some (.builtin "any") := by decide +kernel
theorem bo_bool : bootBuiltins "bool" = some (.type "bool") := by decide +kernel
theorem bo_divmod : bootBuiltins "divmod" = some (.builtin "divmod") := by decide +kernel
theorem bo_int : bootBuiltins "int" = some (.type "int") := by decide +kernel
theorem bo_isinstance : bootBuiltins "isinstance" = some (.builtin "isinstance") := by decide +kernel
theorem bo_len : bootBuiltins "len" = some (.builtin "len") := by decide +kernel
theorem bo_list : bootBuiltins "list" = some (.type "list") := by decide +kernel
theorem bo_max : bootBuiltins "max" = some (.builtin "max") := by decide +kernel
theorem bo_repr : bootBuiltins "repr" = some (.builtin "repr") := by decide +kernel
theorem bo_sorted : bootBuiltins "sorted" = some (.builtin "sorted") := by decide +kernel
theorem bo_sum : bootBuiltins "sum" = some (.builtin "sum") := by decide +kernel
theorem bo_tuple : bootBuiltins "tuple" = some (.type "tuple") := by decide +kernel
set_option genInjectivity false in
set_option genSizeOf false in
structure Txt (K : PySem.W.Frag) (mg : Str → Option Value) where
  a_is_whole : Addr
  d_is_whole : FuncData
  F_is_whole : Fun K "is_whole" "is_whole" s_is_whole a_is_whole d_is_whole
  b_is_whole : Binds K d_is_whole ["thing"] []
  g_is_whole : mg "is_whole" = some (.ref a_is_whole)
  a_divisor : Addr
  d_divisor : FuncData
  F_divisor : Fun K "divisor" "divisor" s_divisor a_divisor d_divisor
  b_divisor : Binds K d_divisor ["one", "other"] []
  g_divisor : mg "divisor" = some (.ref a_divisor)
  a_up : Addr
  d_up : FuncData
  F_up : Fun K "up" "up" s_up a_up d_up
  b_up : Binds K d_up ["top", "bottom"] []
  g_up : mg "up" = some (.ref a_up)
  a_fraction : Addr
  d_fraction : FuncData
  F_fraction : Fun K "fraction" "fraction" s_fraction a_fraction d_fraction
  b_fraction : Binds K d_fraction ["top", "bottom"] []
  g_fraction : mg "fraction" = some (.ref a_fraction)
  a_under : Addr
  d_under : FuncData
  F_under : Fun K "under" "under" s_under a_under d_under
  b_under : Binds K d_under ["one", "other"] []
  g_under : mg "under" = some (.ref a_under)
  a_members : Addr
  d_members : FuncData
  F_members : Fun K "members" "members" s_members a_members d_members
  b_members : Binds K d_members ["mask"] []
  g_members : mg "members" = some (.ref a_members)
  a_lots_of : Addr
  d_lots_of : FuncData
  F_lots_of : Fun K "lots_of" "lots_of" s_lots_of a_lots_of d_lots_of
  b_lots_of : Binds K d_lots_of ["hands", "lots"] []
  g_lots_of : mg "lots_of" = some (.ref a_lots_of)
  a_Way_init : Addr
  d_Way_init : FuncData
  F_Way_init : FunX K "__init__" "Way.__init__" s_Way_init a_Way_init d_Way_init
  b_Way_init : Binds K d_Way_init ["self", "hands", "seats", "lots"] []
  a_vote_of : Addr
  d_vote_of : FuncData
  F_vote_of : Fun K "vote_of" "vote_of" s_vote_of a_vote_of d_vote_of
  b_vote_of : Binds K d_vote_of ["slip"] []
  g_vote_of : mg "vote_of" = some (.ref a_vote_of)
  a_votes_of : Addr
  d_votes_of : FuncData
  F_votes_of : Fun K "votes_of" "votes_of" s_votes_of a_votes_of d_votes_of
  b_votes_of : Binds K d_votes_of ["sheet", "hands"] []
  g_votes_of : mg "votes_of" = some (.ref a_votes_of)
  a_hurdle_of : Addr
  d_hurdle_of : FuncData
  F_hurdle_of : Fun K "hurdle_of" "hurdle_of" s_hurdle_of a_hurdle_of d_hurdle_of
  b_hurdle_of : Binds K d_hurdle_of ["hurdle"] []
  g_hurdle_of : mg "hurdle_of" = some (.ref a_hurdle_of)
  a_marks_of : Addr
  d_marks_of : FuncData
  F_marks_of : Fun K "marks_of" "marks_of" s_marks_of a_marks_of d_marks_of
  b_marks_of : Binds K d_marks_of ["way", "votes", "least", "had"] []
  g_marks_of : mg "marks_of" = some (.ref a_marks_of)
  a_goes_ahead : Addr
  d_goes_ahead : FuncData
  F_goes_ahead : Fun K "goes_ahead" "goes_ahead" s_goes_ahead a_goes_ahead d_goes_ahead
  b_goes_ahead : Binds K d_goes_ahead ["way", "marks", "one", "other"] []
  g_goes_ahead : mg "goes_ahead" = some (.ref a_goes_ahead)
  a_seat_due : Addr
  d_seat_due : FuncData
  F_seat_due : Fun K "seat_due" "seat_due" s_seat_due a_seat_due d_seat_due
  b_seat_due : Binds K d_seat_due ["way", "marks"] []
  g_seat_due : mg "seat_due" = some (.ref a_seat_due)
  a_Lists_init : Addr
  d_Lists_init : FuncData
  F_Lists_init : FunX K "__init__" "Lists.__init__" s_Lists_init a_Lists_init d_Lists_init
  b_Lists_init : Binds K d_Lists_init ["self", "hands", "seats", "lots", "hurdle", "step"] []
  bd_Lists_init_0 : ∃ ds, Vals [.non, .non, (.int 1)] ds ∧ Binds K d_Lists_init ["self", "hands", "seats", "lots", "hurdle", "step"] ds
  mk_Lists : Mk K C_Lists a_Lists_init
  a_rounds_of : Addr
  d_rounds_of : FuncData
  F_rounds_of : Fun K "rounds_of" "rounds_of" s_rounds_of a_rounds_of d_rounds_of
  b_rounds_of : Binds K d_rounds_of ["land", "votes", "least", "had", "many"] []
  g_rounds_of : mg "rounds_of" = some (.ref a_rounds_of)
  a_evening : Addr
  d_evening : FuncData
  F_evening : Fun K "evening" "evening" s_evening a_evening d_evening
  b_evening : Binds K d_evening ["land", "votes", "had"] []
  g_evening : mg "evening" = some (.ref a_evening)
  a_evened_by : Addr
  d_evened_by : FuncData
  F_evened_by : Fun K "evened_by" "evened_by" s_evened_by a_evened_by d_evened_by
  b_evened_by : Binds K d_evened_by ["land", "paper"] []
  g_evened_by : mg "evened_by" = some (.ref a_evened_by)
  a_goes_first : Addr
  d_goes_first : FuncData
  F_goes_first : Fun K "goes_first" "goes_first" s_goes_first a_goes_first d_goes_first
  b_goes_first : Binds K d_goes_first ["land", "one", "other"] []
  g_goes_first : mg "goes_first" = some (.ref a_goes_first)
  a_first_of : Addr
  d_first_of : FuncData
  F_first_of : Fun K "first_of" "first_of" s_first_of a_first_of d_first_of
  b_first_of : Binds K d_first_of ["land", "some"] []
  g_first_of : mg "first_of" = some (.ref a_first_of)
  a_waiting : Addr
  d_waiting : FuncData
  F_waiting : Fun K "waiting" "waiting" s_waiting a_waiting d_waiting
  b_waiting : Binds K d_waiting ["land", "votes", "had"] []
  g_waiting : mg "waiting" = some (.ref a_waiting)
  a_is_count : Addr
  d_is_count : FuncData
  F_is_count : Fun K "is_count" "is_count" s_is_count a_is_count d_is_count
  b_is_count : Binds K d_is_count ["thing", "most"] []
  g_is_count : mg "is_count" = some (.ref a_is_count)
  a_areas_of : Addr
  d_areas_of : FuncData
  F_areas_of : Fun K "areas_of" "areas_of" s_areas_of a_areas_of d_areas_of
  b_areas_of : Binds K d_areas_of ["areas"] []
  g_areas_of : mg "areas_of" = some (.ref a_areas_of)
  a_Land_init : Addr
  d_Land_init : FuncData
  F_Land_init : FunX K "__init__" "Land.__init__" s_Land_init a_Land_init d_Land_init
  b_Land_init : Binds K d_Land_init ["self", "areas", "evened", "lots", "hurdle", "step"] []
  mk_Land : Mk K C_Land a_Land_init
  a_Land_ahead : Addr
  d_Land_ahead : FuncData
  F_Land_ahead : Fun K "ahead" "Land.ahead" s_Land_ahead a_Land_ahead d_Land_ahead
  b_Land_ahead : Binds K d_Land_ahead ["self", "one", "other"] []
  m_Land_Land_ahead : Meth K C_Land "ahead" a_Land_ahead
  a_Land_least_votes : Addr
  d_Land_least_votes : FuncData
  F_Land_least_votes : Fun K "least_votes" "Land.least_votes" s_Land_least_votes a_Land_least_votes d_Land_least_votes
  b_Land_least_votes : Binds K d_Land_least_votes ["self", "ballots"] []
  m_Land_Land_least_votes : Meth K C_Land "least_votes" a_Land_least_votes
  a_Land_mark : Addr
  d_Land_mark : FuncData
  F_Land_mark : Fun K "mark" "Land.mark" s_Land_mark a_Land_mark d_Land_mark
  b_Land_mark : Binds K d_Land_mark ["self", "many", "had"] []
  m_Land_Land_mark : Meth K C_Land "mark" a_Land_mark
  a__law_bag : Addr
  d__law_bag : FuncData
  F__law_bag : Fun K "_law_bag" "_law_bag" s__law_bag a__law_bag d__law_bag
  b__law_bag : Binds K d__law_bag ["_law_script"] []
  g__law_bag : mg "_law_bag" = some (.ref a__law_bag)
  a__law_take : Addr
  d__law_take : FuncData
  F__law_take : Fun K "_law_take" "_law_take" s__law_take a__law_take d__law_take
  b__law_take : Binds K d__law_take ["_law_bag_here", "_law_many_here"] []
  g__law_take : mg "_law_take" = some (.ref a__law_take)
  a__law_one : Addr
  d__law_one : FuncData
  F__law_one : Fun K "_law_one" "_law_one" s__law_one a__law_one d__law_one
  b__law_one : Binds K d__law_one ["_law_bag_here", "_law_menu"] []
  g__law_one : mg "_law_one" = some (.ref a__law_one)
  a__law_mixed : Addr
  d__law_mixed : FuncData
  F__law_mixed : Fun K "_law_mixed" "_law_mixed" s__law_mixed a__law_mixed d__law_mixed
  b__law_mixed : Binds K d__law_mixed ["_law_bag_here", "_law_things"] []
  g__law_mixed : mg "_law_mixed" = some (.ref a__law_mixed)
  a__law_alike : Addr
  d__law_alike : FuncData
  F__law_alike : Fun K "_law_alike" "_law_alike" s__law_alike a__law_alike d__law_alike
  b__law_alike : Binds K d__law_alike ["_law_found", "_law_due_here"] []
  g__law_alike : mg "_law_alike" = some (.ref a__law_alike)
  a__law_need : Addr
  d__law_need : FuncData
  F__law_need : Fun K "_law_need" "_law_need" s__law_need a__law_need d__law_need
  b__law_need : Binds K d__law_need ["_law_numbers_here", "_law_ballots"] []
  g__law_need : mg "_law_need" = some (.ref a__law_need)
  a__law_part : Addr
  d__law_part : FuncData
  F__law_part : Fun K "_law_part" "_law_part" s__law_part a__law_part d__law_part
  b__law_part : Binds K d__law_part ["_law_top", "_law_bottom"] []
  g__law_part : mg "_law_part" = some (.ref a__law_part)
  a__law_order : Addr
  d__law_order : FuncData
  F__law_order : Fun K "_law_order" "_law_order" s__law_order a__law_order d__law_order
  b__law_order : Binds K d__law_order ["_law_numbers_here", "_law_hands"] []
  g__law_order : mg "_law_order" = some (.ref a__law_order)
  a__law_numbers : Addr
  d__law_numbers : FuncData
  F__law_numbers : Fun K "_law_numbers" "_law_numbers" s__law_numbers a__law_numbers d__law_numbers
  b__law_numbers : Binds K d__law_numbers ["_law_bag_here", "_law_hands", "_law_seats"] []
  g__law_numbers : mg "_law_numbers" = some (.ref a__law_numbers)
  a__law_many : Addr
  d__law_many : FuncData
  F__law_many : Fun K "_law_many" "_law_many" s__law_many a__law_many d__law_many
  b__law_many : Binds K d__law_many ["_law_bag_here", "_law_hands"] []
  g__law_many : mg "_law_many" = some (.ref a__law_many)
  a__law_due : Addr
  d__law_due : FuncData
  F__law_due : Fun K "_law_due" "_law_due" s__law_due a__law_due d__law_due
  b__law_due : Binds K d__law_due ["_law_own", "_law_votes", "_law_had"] []
  g__law_due : mg "_law_due" = some (.ref a__law_due)
  a__law_made : Addr
  d__law_made : FuncData
  F__law_made : Fun K "_law_made" "_law_made" s__law_made a__law_made d__law_made
  b__law_made : Binds K d__law_made ["_law_own", "_law_hands", "_law_seats"] []
  g__law_made : mg "_law_made" = some (.ref a__law_made)
  a__law_parted_right : Addr
  d__law_parted_right : FuncData
  F__law_parted_right : Fun K "_law_parted_right" "_law_parted_right" s__law_parted_right a__law_parted_right d__law_parted_right
  b__law_parted_right : Binds K d__law_parted_right ["_law_bag_here", "_law_own", "_law_votes", "_law_had", "_law_rows"] []
  g__law_parted_right : mg "_law_parted_right" = some (.ref a__law_parted_right)
  a__law_right : Addr
  d__law_right : FuncData
  F__law_right : Fun K "_law_right" "_law_right" s__law_right a__law_right d__law_right
  b__law_right : Binds K d__law_right ["_law_bag_here", "_law_land", "_law_own", "_law_votes", "_law_had"] []
  g__law_right : mg "_law_right" = some (.ref a__law_right)
  a_law : Addr
  d_law : FuncData
  F_law : Fun K "law" "law" s_law a_law d_law
  b_law : Binds K d_law ["_law_script"] []
  g_law : mg "law" = some (.ref a_law)
  cd_Way_init : CDef K C_Way (.type "type") "__init__" a_Way_init
  cl_Way : Cls K C_Way
  gC_Way : mg "Way" = some (.ref C_Way)
  na_Way_hands : NoAttr K C_Way "hands"
  na_Way_seats : NoAttr K C_Way "seats"
  na_Way_lots : NoAttr K C_Way "lots"
  cl_Lists : Cls K C_Lists
  gC_Lists : mg "Lists" = some (.ref C_Lists)
  na_Lists_hands : NoAttr K C_Lists "hands"
  na_Lists_seats : NoAttr K C_Lists "seats"
  na_Lists_lots : NoAttr K C_Lists "lots"
  na_Lists_hurdle : NoAttr K C_Lists "hurdle"
  na_Lists_step : NoAttr K C_Lists "step"
  cl_Pairs : Cls K C_Pairs
  gC_Pairs : mg "Pairs" = some (.ref C_Pairs)
  na_Pairs_hands : NoAttr K C_Pairs "hands"
  na_Pairs_seats : NoAttr K C_Pairs "seats"
  na_Pairs_lots : NoAttr K C_Pairs "lots"
  cl_Land : SCls K C_Land
  gC_Land : mg "Land" = some (.ref C_Land)
  ps_Land_areas : Addr
  sl_Land_areas : Slt K C_Land "areas" 0 ps_Land_areas
  ps_Land_hands : Addr
  sl_Land_hands : Slt K C_Land "hands" 2 ps_Land_hands
  ps_Land_lots : Addr
  sl_Land_lots : Slt K C_Land "lots" 4 ps_Land_lots
  ps_Land_hurdle : Addr
  sl_Land_hurdle : Slt K C_Land "hurdle" 3 ps_Land_hurdle
  ps_Land_evened : Addr
  sl_Land_evened : Slt K C_Land "evened" 1 ps_Land_evened
  ps_Land_step : Addr
  sl_Land_step : Slt K C_Land "step" 5 ps_Land_step
  isC_Lists_Lists : IsC K C_Lists C_Lists true
  isC_Lists_Pairs : IsC K C_Lists C_Pairs false
  n_abs : mg "abs" = none
  n_all : mg "all" = none
  n_any : mg "any" = none
  n_bool : mg "bool" = none
  n_divmod : mg "divmod" = none
  n_int : mg "int" = none
  n_isinstance : mg "isinstance" = none
  n_len : mg "len" = none
  n_list : mg "list" = none
  n_max : mg "max" = none
  n_range : mg "range" = none
  n_repr : mg "repr" = none
  n_set : mg "set" = none
  n_sorted : mg "sorted" = none
  n_sum : mg "sum" = none
  n_tuple : mg "tuple" = none
  n_zip : mg "zip" = none
  G_MOST_HANDS : GK K mg "MOST_HANDS" (.leaf (.int 12))
  G_MOST_SEATS : GK K mg "MOST_SEATS" (.leaf (.int 60))
  G_MOST_STEP_lists : GK K mg "MOST_STEP_lists" (.leaf (.int 9))
  G_MOST_AREAS : GK K mg "MOST_AREAS" (.leaf (.int 6))
  G_MOST_EVENED : GK K mg "MOST_EVENED" (.leaf (.int 60))
  G_MOST_STEP_lands : GK K mg "MOST_STEP_lands" (.leaf (.int 9))
  c_PollError : Addr
  g_PollError : mg "PollError" = some (.ref c_PollError)
  k_PollError : PySem.W.keepIn K (.ref c_PollError) = true
  q_PollError : PySem.W.excIn K c_PollError [.type "ValueError", .type "Exception", .type "BaseException", .type "object"] "ValueError.__new__" = true
  b_PollError : PySem.W.subIn K (.ref c_PollError) (.type "BaseException") = some true
  t_PollError : PySem.W.typeIn K (.ref c_PollError) = some (.type "type")
  v_PollError : ExcV K c_PollError
  c_NoNumber : Addr
  g_NoNumber : mg "NoNumber" = some (.ref c_NoNumber)
  k_NoNumber : PySem.W.keepIn K (.ref c_NoNumber) = true
  q_NoNumber : PySem.W.excIn K c_NoNumber [.type "ValueError", .type "Exception", .type "BaseException", .type "object"] "ValueError.__new__" = true
  b_NoNumber : PySem.W.subIn K (.ref c_NoNumber) (.type "BaseException") = some true
  t_NoNumber : PySem.W.typeIn K (.ref c_NoNumber) = some (.type "type")
  v_NoNumber : ExcV K c_NoNumber
  c_NoWay : Addr
  g_NoWay : mg "NoWay" = some (.ref c_NoWay)
  k_NoWay : PySem.W.keepIn K (.ref c_NoWay) = true
  q_NoWay : PySem.W.excIn K c_NoWay [.type "ValueError", .type "Exception", .type "BaseException", .type "object"] "ValueError.__new__" = true
  b_NoWay : PySem.W.subIn K (.ref c_NoWay) (.type "BaseException") = some true
  t_NoWay : PySem.W.typeIn K (.ref c_NoWay) = some (.type "type")
  v_NoWay : ExcV K c_NoWay
  c_NoLand : Addr
  g_NoLand : mg "NoLand" = some (.ref c_NoLand)
  k_NoLand : PySem.W.keepIn K (.ref c_NoLand) = true
  q_NoLand : PySem.W.excIn K c_NoLand [.type "ValueError", .type "Exception", .type "BaseException", .type "object"] "ValueError.__new__" = true
  b_NoLand : PySem.W.subIn K (.ref c_NoLand) (.type "BaseException") = some true
  t_NoLand : PySem.W.typeIn K (.ref c_NoLand) = some (.type "type")
  v_NoLand : ExcV K c_NoLand
  em_NoWay : ∀ n cv, mg (ckN n) = some cv → PySem.W.exmOne K cv (.ref c_NoWay) = some (subN n 8)
  ki_NoWay : ∀ n cv, mg (ckN n) = some cv → PySem.W.kitOne K cv (.ref c_NoWay) = some (subN n 8)
  ec : ∀ n cv, mg (ckN n) = some cv → ∃ D, cv = .ref D ∧ ExcC K D
def IsBag (t : T) : Prop := ∃ (a b c : Int) (o : Bool) (cells : List Int), t = .node true .lst [.leaf (.int a), .leaf (.int b), .leaf (.int c), .node o .lst (intsT cells)] ∧ 0 ≤ a ∧ 0 ≤ b ∧ b < 2147483647 ∧ 0 ≤ c ∧ cells.length ≤ 63 ∧ ∀ x ∈ cells, 0 ≤ x
def sp__law_bag : DSp := fun ts Q _ => ∃ ns : List Int, ts = [.pin .lst (ns.map V.int)] ∧ ns.length ≤ 63 ∧ ∀ bag, IsBag bag → Q bag []
def sp__law_take : DSp := fun ts Q _ => ∃ (bag : T) (many : Int), ts = [bag, .leaf (.int many)] ∧ IsBag bag ∧ 0 < many ∧ (many < 2 ^ 62 ∨ many.natAbs.log2 < 9000) ∧ ∀ (r : Int) (bag' : T), 0 ≤ r → r < many → IsBag bag' → Q (.leaf (.int r)) [bag']
theorem mono__law_bag : MonoD sp__law_bag := fun ts Q Q' E E' hq he ⟨ns, e, h, q⟩ => ⟨ns, e, h, fun b hb => hq _ _ (q b hb)⟩
theorem mono__law_take : MonoD sp__law_take := fun ts Q Q' E E' hq he ⟨b, n, e, h1, h2, h3, q⟩ => ⟨b, n, e, h1, h2, h3, fun r b' a1 a2 a3 => hq _ _ (q r b' a1 a2 a3)⟩
def sp__law_alike : DSp := fun ts Q _ => ∃ (a b : T) (d : PyData), ts = [a, b] ∧ toP a = some d ∧ toP b = some d ∧ GoodD d ∧ Q (.leaf (.bl true)) []
theorem mono__law_alike : MonoD sp__law_alike := fun ts Q Q' E E' hq he ⟨a, b, d, e, h1, h2, h3, q⟩ => ⟨a, b, d, e, h1, h2, h3, hq _ _ q⟩
def sp__law_one : DSp := fun ts Q _ => ∃ (bag : T) (o : Bool) (its : List T), ts = [bag, .node o .lst its] ∧ IsBag bag ∧ its ≠ [] ∧ its.length < 1000000 ∧ ∀ (t : T) (bag' : T), t ∈ its → IsBag bag' → Q (frz t) [bag']
theorem mono__law_one : MonoD sp__law_one := fun ts Q Q' E E' hq he ⟨b, o, its, e, h1, h2, h3, q⟩ => ⟨b, o, its, e, h1, h2, h3, fun t b' a1 a2 => hq _ _ (q t b' a1 a2)⟩
def sp_law : DSp := spLaw
theorem mono_law : MonoD sp_law := spLaw_mono
theorem law_sp (ns : List Int) (h : ns.length ≤ 63) : sp_law [.pin .lst (ns.map V.int)] (fun t _ => t = .leaf (.bl true)) fun _ _ _ => False := ⟨ns, rfl, h, rfl⟩
def wholeQ (τ : T) : Option Bool := (tyT τ).map fun ty => ty.isa .int && !ty.isa .bl
def sp_is_whole : DSp := fun ts Q _ => ∃ (τ : T) (b : Bool), ts = [τ] ∧ wholeQ (frz τ) = some b ∧ Q (.leaf (.bl b)) []
theorem mono_is_whole : MonoD sp_is_whole := fun ts Q Q' E E' hq he ⟨a, b, e, h1, q⟩ => ⟨a, b, e, h1, hq _ _ q⟩
def sp_divisor : DSp := fun ts Q _ => ∃ a b : Int, ts = [.leaf (.int a), .leaf (.int b)] ∧ Q (.leaf (.int (Int.gcd a b))) []
theorem mono_divisor : MonoD sp_divisor := fun ts Q Q' E E' hq he ⟨a, b, e, q⟩ => ⟨a, b, e, hq _ _ q⟩
def M (r : Rat) : Nat := r.num.natAbs + r.den
def Lim (k : Nat) (r : Rat) : Prop := M r ≤ 2 ^ k
theorem M_divInt {a b : Int} (hb : b ≠ 0) : M (Rat.divInt a b) ≤ a.natAbs + b.natAbs := by
  unfold M
  rw [Rat.num_divInt, Rat.den_divInt, if_neg hb]
  have h1 : (b.sign * a / (b.gcd a : Int)).natAbs ≤ a.natAbs := by
    refine Nat.le_trans (Int.natAbs_ediv_le_natAbs _ _) ?_
    rw [Int.natAbs_mul, Int.natAbs_sign_of_ne_zero hb, Nat.one_mul]
    exact Nat.le_refl _
  have h2 : b.natAbs / b.gcd a ≤ b.natAbs := Nat.div_le_self _ _
  omega
theorem den_pos (r : Rat) : (0 : Int) < r.den := by have := r.den_pos; omega
theorem eqn (r : Rat) : r = Rat.divInt r.num r.den := (Rat.num_divInt_den r).symm
theorem sub_q (a b : Rat) : Rat.divInt (a.num * b.den - b.num * a.den) (a.den * b.den) = a - b := by
  conv => rhs; rw [eqn a, eqn b]
  rw [Rat.divInt_sub_divInt _ _ (by have := den_pos a; omega) (by have := den_pos b; omega)]
theorem den_ne (a b : Rat) : (a.den : Int) * b.den ≠ 0 := by
  have h1 := den_pos a
  have h2 := den_pos b
  exact Int.mul_ne_zero (by omega) (by omega)
theorem lim_of {a b r : Rat} {k j : Nat} (ha : Lim k a) (hb : Lim j b) (h : M r ≤ M a * M b) : Lim (k + j) r := by
  unfold Lim at *
  rw [Nat.pow_add]
  exact Nat.le_trans h (Nat.mul_le_mul ha hb)
theorem Lim.sub {a b : Rat} {k j : Nat} (ha : Lim k a) (hb : Lim j b) : Lim (k + j) (a - b) := by
  refine lim_of ha hb ?_
  rw [← sub_q]
  refine Nat.le_trans (M_divInt (den_ne a b)) ?_
  have h1 : (a.num * b.den - b.num * a.den).natAbs ≤ a.num.natAbs * b.den + b.num.natAbs * a.den := by
    refine Nat.le_trans (Int.natAbs_sub_le _ _) ?_
    rw [Int.natAbs_mul, Int.natAbs_mul, Int.natAbs_natCast, Int.natAbs_natCast]
    exact Nat.le_refl _
  have h2 : ((a.den : Int) * b.den).natAbs = a.den * b.den := by rw [Int.natAbs_mul]; rfl
  unfold M
  rw [h2]
  generalize a.num.natAbs = x at *
  generalize b.num.natAbs = y at *
  have : (x + a.den) * (y + b.den) = x * y + x * b.den + y * a.den + a.den * b.den := by grind
  have : 0 ≤ x * y := Nat.zero_le _
  omega
theorem Lim.num {r : Rat} {k : Nat} (h : Lim k r) : r.num.natAbs < 2 ^ (k + 1) := by
  unfold Lim M at h
  have := Nat.pow_lt_pow_succ (a := 2) (n := k) (by decide)
  omega
theorem Lim.den {r : Rat} {k : Nat} (h : Lim k r) : r.den < 2 ^ (k + 1) := by
  unfold Lim M at h
  have := Nat.pow_lt_pow_succ (a := 2) (n := k) (by decide)
  omega
theorem red_pos {a b : Int} (h : 0 < b) : a.fdiv (Int.gcd a b) = (Rat.divInt a b).num ∧ b.fdiv (Int.gcd a b) = (Rat.divInt a b).den := by
  have hg : (0 : Int) ≤ (Int.gcd a b : Int) := by omega
  rw [Int.fdiv_eq_ediv_of_nonneg _ hg, Int.fdiv_eq_ediv_of_nonneg _ hg, Rat.num_divInt, Rat.den_divInt, if_neg (by omega), Int.sign_eq_one_of_pos h, Int.one_mul, Int.gcd_comm b a]
  refine ⟨rfl, ?_⟩
  rw [Int.natCast_ediv, Int.natAbs_of_nonneg (by omega)]
theorem red_neg {a b : Int} (h : b < 0) : a.fdiv (-(Int.gcd a b : Int)) = (Rat.divInt a b).num ∧ b.fdiv (-(Int.gcd a b : Int)) = (Rat.divInt a b).den := by
  have da : (-(Int.gcd a b : Int)) ∣ a := Int.neg_dvd.mpr (Int.gcd_dvd_left ..)
  have db : (-(Int.gcd a b : Int)) ∣ b := Int.neg_dvd.mpr (Int.gcd_dvd_right ..)
  rw [Int.fdiv_eq_ediv_of_dvd da, Int.fdiv_eq_ediv_of_dvd db, Rat.num_divInt, Rat.den_divInt, if_neg (by omega), Int.sign_eq_neg_one_of_neg h, Int.gcd_comm b a, Int.ediv_neg, Int.ediv_neg]
  constructor
  · rw [Int.neg_mul, Int.one_mul, Int.neg_ediv_of_dvd (Int.gcd_dvd_left ..)]
  · have e : (b.natAbs : Int) = -b := by omega
    rw [Int.natCast_ediv, e, Int.neg_ediv_of_dvd (Int.gcd_dvd_right ..)]
theorem gcd_size {a b : Int} (h : b ≠ 0) : (Int.gcd a b : Int) ≠ 0 ∧ Int.gcd a b ≤ b.natAbs := by
  constructor
  · have : Int.gcd a b ≠ 0 := by
      intro z
      rw [Int.gcd_eq_zero_iff] at z
      exact h z.2
    omega
  · exact Nat.le_of_dvd (by omega) (Int.gcd_dvd_natAbs_right ..)
theorem lt_q (a b : Rat) : a.num * b.den < b.num * a.den ↔ a < b := (Rat.lt_iff a b).symm
theorem gcd_step {x y : Int} (hx : 0 ≤ x) (hy : 0 < y) : Int.gcd y (x % y) = Int.gcd x y := by
  obtain ⟨n, rfl⟩ := Int.eq_ofNat_of_zero_le hx
  obtain ⟨m, rfl⟩ := Int.eq_ofNat_of_zero_le (Int.le_of_lt hy)
  rw [← Int.natCast_emod]
  show Nat.gcd m (n % m) = Nat.gcd n m
  rw [Nat.gcd_comm n m, Nat.gcd_rec m n, Nat.gcd_comm]
theorem half_step {x y : Int} (hy : 0 < y) (h : y ≤ x) : 2 * (y * (x % y)) ≤ x * y := by
  have h1 : x % y < y := Int.emod_lt_of_pos x hy
  have h2 : 0 ≤ x % y := Int.emod_nonneg x (by omega)
  have h3 : x % y + y * (x / y) = x := Int.emod_add_mul_ediv x y
  have h4 : 1 ≤ x / y := Int.le_ediv_of_mul_le hy (by omega)
  have h5 : y ≤ y * (x / y) := by
    have := Int.mul_le_mul_of_nonneg_left h4 (Int.le_of_lt hy)
    omega
  have h6 : 2 * (x % y) ≤ x := by omega
  have := Int.mul_le_mul_of_nonneg_left h6 (Int.le_of_lt hy)
  have e : y * (2 * (x % y)) = 2 * (y * (x % y)) := by grind
  have e2 : y * x = x * y := Int.mul_comm ..
  omega
structure Euc (B : Nat) (g : Nat) (k : Nat) (x y : Int) : Prop where
  x0 : 0 ≤ x
  y0 : 0 ≤ y
  gc : Int.gcd x y = g
  pr : k = 0 ∧ x * y < 2 ^ B ∨ (1 ≤ k ∧ y < x ∧ x * y * 2 ^ (k - 1) < 2 ^ B)
theorem Euc.step {B g k : Nat} {x y : Int} (h : Euc B g k x y) (hy : y ≠ 0) : Euc B g (k + 1) y (x % y) := by
  have y1 : 0 < y := by have := h.y0; omega
  have l1 : x % y < y := Int.emod_lt_of_pos x y1
  have l0 : 0 ≤ x % y := Int.emod_nonneg x (by omega)
  refine ⟨h.y0, l0, (gcd_step h.x0 y1).trans h.gc, .inr ⟨by omega, l1, ?_⟩⟩
  have key : ∀ z : Int, 0 ≤ z → y * (x % y) * z ≤ x * y * z := fun z hz => by
    refine Int.mul_le_mul_of_nonneg_right ?_ hz
    have : x % y ≤ x := by
      have h3 : x % y + y * (x / y) = x := Int.emod_add_mul_ediv x y
      have h4 : 0 ≤ y * (x / y) := Int.mul_nonneg (by omega) (Int.ediv_nonneg h.x0 (by omega))
      omega
    have := Int.mul_le_mul_of_nonneg_left this (Int.le_of_lt y1)
    have e2 : y * x = x * y := Int.mul_comm ..
    omega
  rcases h.pr with ⟨rfl, p⟩ | ⟨k1, yx, p⟩
  · have := key 1 (by decide)
    simp only [Nat.zero_add, Nat.sub_self, Int.pow_zero]
    omega
  · have hs := half_step y1 (Int.le_of_lt yx)
    obtain ⟨j, rfl⟩ : ∃ j, k = j + 1 := ⟨k - 1, by omega⟩
    simp only [Nat.add_sub_cancel] at p ⊢
    have hp : (0 : Int) ≤ 2 ^ j := Int.pow_nonneg (by decide)
    have := Int.mul_le_mul_of_nonneg_right hs hp
    have e : (2 : Int) ^ (j + 1) = 2 * 2 ^ j := by rw [Int.pow_succ, Int.mul_comm]
    have e2 : y * (x % y) * (2 * 2 ^ j) = 2 * (y * (x % y)) * 2 ^ j := by grind
    rw [e, e2]
    omega
theorem Euc.done {B g k : Nat} {x y : Int} (h : Euc B g k x y) (hk : B + 1 ≤ k) : y = 0 := by
  rcases h.pr with ⟨rfl, p⟩ | ⟨k1, yx, p⟩
  · omega
  · refine Decidable.byContradiction fun hy => ?_
    have y1 : 1 ≤ y := by have := h.y0; omega
    have hp : (2 : Int) ^ B ≤ 2 ^ (k - 1) := by
      have := Nat.pow_le_pow_right (n := 2) (by decide) (show B ≤ k - 1 by omega)
      exact_mod_cast this
    have h1 : 1 ≤ x * y := Int.le_trans (show (1 : Int) ≤ 1 * 1 by decide) (Int.mul_le_mul (by omega) y1 (by decide) (by omega))
    have h2 : (0 : Int) ≤ 2 ^ (k - 1) := Int.pow_nonneg (by decide)
    have := Int.mul_le_mul_of_nonneg_right h1 h2
    omega
theorem Euc.end_ {B g k : Nat} {x : Int} (h : Euc B g k x 0) : x = g := by
  have := h.gc
  rw [Int.gcd_zero] at this
  have := h.x0
  omega
theorem Euc.start {x y : Int} {j k : Nat} (hx : x.natAbs < 2 ^ j) (hy : y.natAbs < 2 ^ k) : Euc (j + k) (Int.gcd x y) 0 (x.natAbs : Int) (y.natAbs : Int) := by
  refine ⟨by omega, by omega, by rw [Int.gcd, Int.gcd]; rfl, .inl ⟨rfl, ?_⟩⟩
  have := Nat.mul_lt_mul'' hx hy
  rw [← Nat.pow_add] at this
  exact_mod_cast this
abbrev qT (r : Rat) : List T := [.leaf (.int r.num), .leaf (.int r.den)]
theorem lim0 : Lim 0 0 := by unfold Lim M; decide
def sp_fraction : DSp := fun ts Q E => (∃ (a b : Int) (k : Nat), ts = [.leaf (.int a), .leaf (.int b)] ∧ b ≠ 0 ∧ b.natAbs < 2 ^ k ∧ k ≤ 9000 ∧ Q (.node true .tup (qT (Rat.divInt a b))) []) ∨
  ∃ (τ1 τ2 : T) (b1 b2 : Bool), ts = [τ1, τ2] ∧ wholeQ (frz τ1) = some b1 ∧ wholeQ (frz τ2) = some b2 ∧ ((b1 && b2) = true → frz τ2 = .leaf (.int 0)) ∧ E (cxN 1) [] []
theorem mono_fraction : MonoD sp_fraction := fun ts Q Q' E E' hq he h => h.elim (fun ⟨a, b, k, e, h1, h2, h3, q⟩ => .inl ⟨a, b, k, e, h1, h2, h3, hq _ _ q⟩) fun ⟨a, b, c, d, h1, h2, h3, h4, q⟩ => .inr ⟨a, b, c, d, h1, h2, h3, h4, he _ _ _ q⟩
def sp_under : DSp := fun ts Q _ => ∃ (a b : Rat) (o p : Bool) (k j : Nat), ts = [.node o .tup (qT a), .node p .tup (qT b)] ∧ Lim k a ∧ Lim j b ∧ k + j ≤ 8000 ∧ Q (.leaf (.bl (decide (a < b)))) []
theorem mono_under : MonoD sp_under := fun ts Q Q' E E' hq he ⟨a, b, o, p, k, j, e, h1, h2, h3, q⟩ => ⟨a, b, o, p, k, j, e, h1, h2, h3, hq _ _ q⟩
def sp__law_mixed : DSp := fun ts Q _ => ∃ (bag : T) (o : Bool) (its : List T), ts = [bag, .node o .lst its] ∧ IsBag bag ∧ its.length ≤ 10000 ∧ ∀ its' bag', its'.Perm (frzL its) → IsBag bag' → Q (.node true .lst its') [bag']
theorem mono__law_mixed : MonoD sp__law_mixed := fun ts Q Q' E E' hq he ⟨b, o, its, e, h1, h2, q⟩ => ⟨b, o, its, e, h1, h2, fun x y h h' => hq _ _ (q x y h h')⟩
structure Lw where
  h : Nat
  s : Nat
  lots : List Int
  top : Int
  bot : Int
  step : Int
def rangeI (h : Nat) : List Int := (List.range h).map fun k : Nat => (k : Int)
structure LwOk (w : Lw) : Prop where
  h : 1 ≤ w.h ∧ w.h ≤ 12
  s : 1 ≤ w.s ∧ w.s ≤ 60
  lots : w.lots.Perm (rangeI w.h)
  bot : 1 ≤ w.bot ∧ w.bot ≤ 2 ^ 199
  top : 0 ≤ w.top ∧ w.top ≤ w.bot
  red : Int.gcd w.top w.bot = 1
  step : 1 ≤ w.step ∧ w.step ≤ 9
def pairI (a b : Int) : List T := [.leaf (.int a), .leaf (.int b)]
def wayK (o p : Bool) (w : Lw) : List T := [.leaf (.int w.h), .leaf (.int w.s), .node o .lst (intsT w.lots), .node p .tup (pairI w.top w.bot), .leaf (.int w.step)]
def IsWay (τ : T) (w : Lw) : Prop := ∃ dx, frz τ = .node false (.ins C_Lists dx ns_Lists) (wayK false false w)
def idxI (l : List Int) (a : Int) : Nat := l.idxOf a
def aheadB (w : Lw) (a b : Nat) : Bool := decide (idxI w.lots a < idxI w.lots b)
def upQ (n d : Int) : Int := n / d + (if n % d > 0 then 1 else 0)
def leastI (w : Lw) (n : Int) : Int := max 1 (upQ (w.top * n) w.bot)
def voteT : Option Int → T
  | none => .leaf .non
  | some k => .leaf (.int k)
def addAt (v : List Int) (k : Nat) (n : Int) : List Int := v.set k (v.getD k 0 + n)
def markT (o : Bool) : Option Rat → T
  | none => .leaf .non
  | some q => .node o .tup (qT q)
def marksL (w : Lw) (vs : List Int) (least : Int) (had : List Int) : List (Option Rat) := (List.range w.h).map fun k => if vs.getD k 0 < least then none else some (Rat.divInt (vs.getD k 0) (1 + w.step * had.getD k 0))
def goesB (w : Lw) (qa qb : Rat) (a b : Nat) : Bool := decide (qb < qa) || (decide (qb = qa) && aheadB w a b)
def dueStep (w : Lw) (ms : List (Option Rat)) (best : Option Nat) (k : Nat) : Option Nat := match ms.getD k none with
  | none => best
  | some q => match best with
    | none => some k
    | some b => if goesB w q ((ms.getD b none).getD 0) k b = true then some k else best
def dueL (w : Lw) (ms : List (Option Rat)) : Option Nat := (List.range w.h).foldl (dueStep w ms) none
def dueT (o : Option Nat) : T := voteT (o.map fun k : Nat => (k : Int))
def roundsL (w : Lw) (vs : List Int) (least : Int) : Nat → List Int → List (List (Option Rat) × Nat)
  | 0, _ => []
  | n + 1, had => match dueL w (marksL w vs least had) with
    | none => []
    | some k => (marksL w vs least had, k) :: roundsL w vs least n (addAt had k 1)
def roundT (o p : Bool) (r : List (Option Rat) × Nat) : T := .node o .tup [.node p .lst (r.1.map (markT p)), .leaf (.int (r.2 : Nat))]
def toldL (h : Nat) (ks : List Nat) : List Int := ks.foldl (fun v k => addAt v k 1) (List.replicate h 0)
def sp_up : DSp := fun ts Q _ => ∃ (n d : Int), ts = [.leaf (.int n), .leaf (.int d)] ∧ 0 < d ∧ d < 2 ^ 200 ∧ Q (.leaf (.int (upQ n d))) []
theorem mono_up : MonoD sp_up := fun ts Q Q' E E' hq he ⟨n, d, e, h1, h2, q⟩ => ⟨n, d, e, h1, h2, hq _ _ q⟩
def LotsI (τ : T) (h : Nat) (lots : List Int) : Prop := (∃ o, τ = .node o .lst (intsT lots)) ∨ (τ = .leaf .non ∧ lots = rangeI h)
def sp_lots_of : DSp := fun ts Q _ => ∃ (h : Nat) (τ : T) (lots : List Int), ts = [.leaf (.int (h : Nat)), τ] ∧ LotsI τ h lots ∧ h ≤ 12 ∧ lots.Perm (rangeI h) ∧ Q (.node true .lst (intsT lots)) []
theorem mono_lots_of : MonoD sp_lots_of := fun ts Q Q' E E' hq he ⟨h, o, l, e, h0, h1, h2, q⟩ => ⟨h, o, l, e, h0, h1, h2, hq _ _ q⟩
def sp_Way_init : DSp := fun ts Q _ => ∃ (dx : Addr) (h s : Nat) (τ : T) (lots : List Int), ts = [.node true (.ins C_Lists dx []) [], .leaf (.int (h : Nat)), .leaf (.int (s : Nat)), τ] ∧ LotsI τ h lots ∧ 1 ≤ h ∧ h ≤ 12 ∧ 1 ≤ s ∧ s ≤ 60 ∧ lots.Perm (rangeI h) ∧
  Q (.leaf .non) [.node true (.ins C_Lists dx ["hands", "seats", "lots"]) [.leaf (.int (h : Nat)), .leaf (.int (s : Nat)), .node true .lst (intsT lots)]]
theorem mono_Way_init : MonoD sp_Way_init := fun ts Q Q' E E' hq he ⟨dx, h, s, o, l, e, h0, h1, h2, h3, h4, h5, q⟩ => ⟨dx, h, s, o, l, e, h0, h1, h2, h3, h4, h5, hq _ _ q⟩
def sp_hurdle_of : DSp := fun ts Q _ => (ts = [.leaf .non] ∧ Q (.node true .tup (pairI 0 1)) []) ∨ ∃ (o : Bool) (a b : Int), ts = [.node o .tup (pairI a b)] ∧ 1 ≤ b ∧ 0 ≤ a ∧ a ≤ b ∧ Int.gcd a b = 1 ∧ Q (.node false .tup (pairI a b)) []
theorem mono_hurdle_of : MonoD sp_hurdle_of := fun ts Q Q' E E' hq he h => h.elim (fun ⟨e, q⟩ => .inl ⟨e, hq _ _ q⟩) fun ⟨o, a, b, e, h1, h2, h3, h4, q⟩ => .inr ⟨o, a, b, e, h1, h2, h3, h4, hq _ _ q⟩
def HurT (τ : T) (w : Lw) : Prop := (τ = .leaf .non ∧ w.top = 0 ∧ w.bot = 1) ∨ ∃ p, τ = .node p .tup (pairI w.top w.bot)
def sp_Lists_init : DSp := fun ts Q _ => ∃ (dx : Addr) (w : Lw) (τ τh : T), ts = [.node true (.ins C_Lists dx []) [], .leaf (.int (w.h : Nat)), .leaf (.int (w.s : Nat)), τ, τh, .leaf (.int w.step)] ∧ LwOk w ∧ LotsI τ w.h w.lots ∧ HurT τh w ∧ ∀ p, Q (.leaf .non) [.node true (.ins C_Lists dx ns_Lists) (wayK true p w)]
theorem mono_Lists_init : MonoD sp_Lists_init := fun ts Q Q' E E' hq he ⟨dx, w, o, τ, e, h1, h0, h2, q⟩ => ⟨dx, w, o, τ, e, h1, h0, h2, fun p => hq _ _ (q p)⟩
def MsOk (w : Lw) (ms : List (Option Rat)) : Prop := ms.length = w.h ∧ ∀ q, some q ∈ ms → Lim 300 q
abbrev MkI := Option (Int × Int)
def MkOk (j : Nat) (m : MkI) : Prop := ∀ p, m = some p → p.1.natAbs < 2 ^ (400 + j) ∧ p.2.natAbs < 2 ^ (400 + j)
def qI (q : Rat) : Int × Int := (q.num, q.den)
def countB (m : Int) : T → Bool
  | .leaf (.int n) => decide (0 ≤ n) && decide (n ≤ m)
  | _ => false
def sp_is_count : DSp := fun ts Q _ => ∃ τ m b, ts = [τ, .leaf (.int m)] ∧ wholeQ (frz τ) = some b ∧ Q (.leaf (.bl (countB m (frz τ)))) []
theorem mono_is_count : MonoD sp_is_count := fun ts Q Q' E E' hq he ⟨a, b, c, e, h1, q⟩ => ⟨a, b, c, e, h1, hq _ _ q⟩
structure LdOk (w : Lw) : Prop where
  h : 1 ≤ w.h ∧ w.h ≤ 12
  s : w.s ≤ 60
  lots : w.lots.Perm (rangeI w.h)
  bot : 1 ≤ w.bot ∧ w.bot ≤ 2 ^ 199
  top : 0 ≤ w.top ∧ w.top ≤ w.bot
  red : Int.gcd w.top w.bot = 1
  step : 1 ≤ w.step ∧ w.step ≤ 9
def landF (w : Lw) (as : List T) : T := .node false (slS C_Land ix_Land) [.node false alS [], .node false .lst as, .leaf (.int w.h), .node false .lst (intsT w.lots), .node false .tup (pairI w.top w.bot), .leaf (.int w.s), .leaf (.int w.step)]
def IsLand (τ : T) (w : Lw) : Prop := ∃ as, frz τ = landF w as
structure VOd (w : Lw) (vs had : List Int) : Prop where
  vl : vs.length = w.h + 1
  hl : had.length = w.h
  v : ∀ v ∈ vs, 0 ≤ v ∧ v < 2 ^ 60
  d : ∀ d ∈ had, 0 ≤ d ∧ d ≤ 2 ^ 40
def sp_Land_ahead : DSp := fun ts Q _ => ∃ (τ : T) (w : Lw) (a b : Nat), ts = [τ, .leaf (.int (a : Nat)), .leaf (.int (b : Nat))] ∧ IsLand τ w ∧ LdOk w ∧ a < w.h ∧ b < w.h ∧ Q (.leaf (.bl (aheadB w a b))) []
theorem mono_Land_ahead : MonoD sp_Land_ahead := fun ts Q Q' E E' hq he ⟨τ, w, a, b, e, h1, h2, h3, h4, q⟩ => ⟨τ, w, a, b, e, h1, h2, h3, h4, hq _ _ q⟩
def sp_Land_least_votes : DSp := fun ts Q _ => ∃ (τ : T) (w : Lw) (n : Int), ts = [τ, .leaf (.int n)] ∧ IsLand τ w ∧ LdOk w ∧ 0 ≤ n ∧ n < 2 ^ 100 ∧ Q (.leaf (.int (leastI w n))) []
theorem mono_Land_least_votes : MonoD sp_Land_least_votes := fun ts Q Q' E E' hq he ⟨τ, w, n, e, h1, h2, h3, h4, q⟩ => ⟨τ, w, n, e, h1, h2, h3, h4, hq _ _ q⟩
def sp_Land_mark : DSp := fun ts Q _ => ∃ (τ : T) (w : Lw) (v d : Int), ts = [τ, .leaf (.int v), .leaf (.int d)] ∧ IsLand τ w ∧ LdOk w ∧ 0 ≤ d ∧ d ≤ 2 ^ 41 ∧ Q (.node true .tup (qT (Rat.divInt v (1 + w.step * d)))) []
theorem mono_Land_mark : MonoD sp_Land_mark := fun ts Q Q' E E' hq he ⟨τ, w, v, d, e, h1, h2, h3, h4, q⟩ => ⟨τ, w, v, d, e, h1, h2, h3, h4, hq _ _ q⟩
def sp_marks_of : DSp := fun ts Q _ => ∃ (τ : T) (w : Lw) (o p : Bool) (vs had : List Int) (least : Int), ts = [τ, .node o .lst (intsT vs), .leaf (.int least), .node p .lst (intsT had)] ∧ IsLand τ w ∧ LdOk w ∧ VOd w vs had ∧ Q (.node true .lst ((marksL w vs least had).map (markT true))) []
theorem mono_marks_of : MonoD sp_marks_of := fun ts Q Q' E E' hq he ⟨τ, w, o, p, vs, d, l, e, h1, h2, h3, q⟩ => ⟨τ, w, o, p, vs, d, l, e, h1, h2, h3, hq _ _ q⟩
def sp_goes_ahead : DSp := fun ts Q _ => ∃ (τ : T) (w : Lw) (o : Bool) (xs : List T) (ms : List (Option Rat)) (a b : Nat) (qa qb : Rat), ts = [τ, .node o .lst xs, .leaf (.int (a : Nat)), .leaf (.int (b : Nat))] ∧ IsLand τ w ∧ LdOk w ∧ frzL xs = ms.map (markT false) ∧ MsOk w ms ∧ ms[a]? = some (some qa) ∧ ms[b]? = some (some qb) ∧ Q (.leaf (.bl (goesB w qa qb a b))) []
theorem mono_goes_ahead : MonoD sp_goes_ahead := fun ts Q Q' E E' hq he ⟨τ, w, o, xs, ms, a, b, qa, qb, e, h1, h2, h3, h4, h5, h6, q⟩ => ⟨τ, w, o, xs, ms, a, b, qa, qb, e, h1, h2, h3, h4, h5, h6, hq _ _ q⟩
def sp_seat_due : DSp := fun ts Q _ => ∃ (τ : T) (w : Lw) (o : Bool) (xs : List T) (ms : List (Option Rat)), ts = [τ, .node o .lst xs] ∧ IsLand τ w ∧ LdOk w ∧ frzL xs = ms.map (markT false) ∧ MsOk w ms ∧ Q (dueT (dueL w ms)) []
theorem mono_seat_due : MonoD sp_seat_due := fun ts Q Q' E E' hq he ⟨τ, w, o, xs, ms, e, h1, h2, h3, h4, q⟩ => ⟨τ, w, o, xs, ms, e, h1, h2, h3, h4, hq _ _ q⟩
def sp_rounds_of : DSp := fun ts Q _ => ∃ (τ : T) (w : Lw) (o p : Bool) (vs had : List Int) (least : Int) (n : Nat), ts = [τ, .node o .lst (intsT vs), .leaf (.int least), .node p .lst (intsT had), .leaf (.int (n : Nat))] ∧ IsLand τ w ∧ LdOk w ∧ VOd w vs had ∧ (∀ d ∈ had, d + n ≤ 2 ^ 40) ∧ n ≤ 400 ∧ Q (.node true .lst ((roundsL w vs least n had).map (roundT true true))) []
theorem mono_rounds_of : MonoD sp_rounds_of := fun ts Q Q' E E' hq he ⟨τ, w, o, p, vs, d, l, n, e, h1, h2, h3, h4, h5, q⟩ => ⟨τ, w, o, p, vs, d, l, n, e, h1, h2, h3, h4, h5, hq _ _ q⟩
def evT (o : Bool) (w : Lw) (vs had : List Int) : T := .node o .tup [.node o .lst (intsT vs), .leaf (.int (leastI w vs.sum)), .node o .lst ((roundsL w vs (leastI w vs.sum) w.s had).map (roundT o o))]
def sp_evening : DSp := fun ts Q _ => ∃ (τ : T) (w : Lw) (o p : Bool) (vs had : List Int), ts = [τ, .node o .lst (intsT vs), .node p .lst (intsT had)] ∧ IsLand τ w ∧ LdOk w ∧ VOd w vs had ∧ (∀ d ∈ had, d ≤ 2 ^ 39) ∧ Q (evT true w vs had) []
theorem mono_evening : MonoD sp_evening := fun ts Q Q' E E' hq he ⟨τ, w, o, p, vs, d, e, h1, h2, h3, h4, q⟩ => ⟨τ, w, o, p, vs, d, e, h1, h2, h3, h4, hq _ _ q⟩
def sp_evened_by : DSp := fun ts Q _ => ∃ (τ τp : T) (w : Lw) (x y : T) (rs : List (List (Option Rat) × Nat)), ts = [τ, τp] ∧ IsLand τ w ∧ LdOk w ∧ frz τp = .node false .tup [x, y, .node false .lst (rs.map (roundT false false))] ∧ rs.length ≤ 1000 ∧ (∀ r ∈ rs, r.2 < w.h) ∧ Q (.node true .lst (intsT (toldL w.h (rs.map (·.2))))) []
theorem mono_evened_by : MonoD sp_evened_by := fun ts Q Q' E E' hq he ⟨τ, p, w, x, y, rs, e, h1, h2, h3, h4, h5, q⟩ => ⟨τ, p, w, x, y, rs, e, h1, h2, h3, h4, h5, hq _ _ q⟩
def WaysT (h : Nat) (xs : List T) : Prop := (∀ x ∈ xs, ∃ w', IsWay x w' ∧ w'.h = h) ∧ 1 ≤ xs.length ∧ xs.length ≤ 6
def sp_areas_of : DSp := fun ts Q _ => ∃ (o : Bool) (xs : List T) (h : Nat), ts = [.node o .lst xs] ∧ WaysT h xs ∧ h ≤ 12 ∧ Q (.node true .lst (frzL xs)) []
theorem mono_areas_of : MonoD sp_areas_of := fun ts Q Q' E E' hq he ⟨o, xs, h, e, h1, h2, q⟩ => ⟨o, xs, h, e, h1, h2, hq _ _ q⟩
def landO (p q : Bool) (w : Lw) (as : List T) : T := .node true (slS C_Land ix_Land) [.node true alS [], .node false .lst as, .leaf (.int w.h), .node q .lst (intsT w.lots), .node p .tup (pairI w.top w.bot), .leaf (.int w.s), .leaf (.int w.step)]
def sp_Land_init : DSp := fun ts Q _ => ∃ (w : Lw) (o : Bool) (xs : List T) (τ τh : T), ts = [.node true (slS C_Land []) [.node true alS []], .node o .lst xs, .leaf (.int (w.s : Nat)), τ, τh, .leaf (.int w.step)] ∧ LdOk w ∧ WaysT w.h xs ∧ LotsI τ w.h w.lots ∧ HurT τh w ∧ ∀ p q, Q (.leaf .non) [landO p q w (frzL xs)]
theorem mono_Land_init : MonoD sp_Land_init := fun ts Q Q' E E' hq he ⟨w, o, xs, τ, τh, e, h1, h2, h3, h4, q⟩ => ⟨w, o, xs, τ, τh, e, h1, h2, h3, h4, fun p r => hq _ _ (q p r)⟩
abbrev numKs : List Key := [.inr "seats", .inr "hurdle", .inr "step", .inr "lots"]
def HurF (t : T) (w : Lw) : Prop := (t = .leaf .non ∧ w.top = 0 ∧ w.bot = 1) ∨ t = .node false .tup (pairI w.top w.bot)
def LotsF (t : T) (w : Lw) : Prop := (t = .leaf .non ∧ w.lots = rangeI w.h) ∨ t = .node false .lst (intsT w.lots)
def IsNum (τ : T) (w : Lw) : Prop := ∃ th tl, frz τ = .node false (.dK numKs) [.leaf (.int w.s), th, .leaf (.int w.step), tl] ∧ HurF th w ∧ LotsF tl w
def sp__law_need : DSp := fun ts Q _ => ∃ (τ : T) (w : Lw) (n : Int), ts = [τ, .leaf (.int n)] ∧ IsNum τ w ∧ LdOk w ∧ 0 ≤ n ∧ n < 2 ^ 100 ∧ Q (.leaf (.int (leastI w n))) []
theorem mono__law_need : MonoD sp__law_need := fun ts Q Q' E E' hq he ⟨τ, w, n, e, h1, h2, h3, h4, q⟩ => ⟨τ, w, n, e, h1, h2, h3, h4, hq _ _ q⟩
def sp__law_part : DSp := fun ts Q _ => ∃ a b : Int, ts = [.leaf (.int a), .leaf (.int b)] ∧ 0 ≤ a ∧ 0 < b ∧ a < 2 ^ 100 ∧ b < 2 ^ 100 ∧ Q (.node true .tup (qT (Rat.divInt a b))) []
theorem mono__law_part : MonoD sp__law_part := fun ts Q Q' E E' hq he ⟨a, b, e, h1, h2, h3, h4, q⟩ => ⟨a, b, e, h1, h2, h3, h4, hq _ _ q⟩
def sp__law_order : DSp := fun ts Q _ => ∃ (τ : T) (w : Lw), ts = [τ, .leaf (.int (w.h : Nat))] ∧ IsNum τ w ∧ LdOk w ∧ ∀ o, Q (.node o .lst (intsT w.lots)) []
theorem mono__law_order : MonoD sp__law_order := fun ts Q Q' E E' hq he ⟨τ, w, e, h1, h2, q⟩ => ⟨τ, w, e, h1, h2, fun o => hq _ _ (q o)⟩
def sp__law_numbers : DSp := fun ts Q _ => ∃ (bag : T) (h s : Nat), ts = [bag, .leaf (.int (h : Nat)), .leaf (.int (s : Nat))] ∧ IsBag bag ∧ 1 ≤ h ∧ h ≤ 12 ∧ s ≤ 60 ∧ ∀ (w : Lw) (τ bag' : T), w.h = h → w.s = s → LdOk w → IsNum τ w → IsBag bag' → Q τ [bag']
theorem mono__law_numbers : MonoD sp__law_numbers := fun ts Q Q' E E' hq he ⟨b, h, s, e, h1, h2, h3, h4, q⟩ => ⟨b, h, s, e, h1, h2, h3, h4, fun w τ b' a1 a2 a3 a4 a5 => hq _ _ (q w τ b' a1 a2 a3 a4 a5)⟩
abbrev Hd := Rat × Nat
def hdF (x : Hd) : T := .node false .tup [.node false .tup (qT x.1), .leaf (.int (x.2 : Nat))]
def hdM (x : Hd) : T := .node true .tup [.node false .tup (qT x.1), .leaf (.int (x.2 : Nat))]
def hdT (x : Hd) : T := .node true .tup [.node true .tup (qT x.1), .leaf (.int (x.2 : Nat))]
def HdOk (w : Lw) (x : Hd) : Prop := x.2 < w.h ∧ Lim 300 x.1
def goH (w : Lw) (x y : Hd) : Bool := goesB w x.1 y.1 x.2 y.2
def firstH (w : Lw) : List Hd → Hd
  | [] => (0, 0)
  | x :: r => r.foldl (fun b o => if goH w o b = true then o else b) x
def waitL (w : Lw) (vs had : List Int) (n : Nat) : List Hd := (roundsL w vs (leastI w vs.sum) n had).map fun r => ((r.1.getD r.2 none).getD 0, r.2)
def sp_goes_first : DSp := fun ts Q _ => ∃ (τ t u : T) (w : Lw) (x y : Hd), ts = [τ, t, u] ∧ IsLand τ w ∧ LdOk w ∧ frz t = hdF x ∧ frz u = hdF y ∧ HdOk w x ∧ HdOk w y ∧ Q (.leaf (.bl (goH w x y))) []
theorem mono_goes_first : MonoD sp_goes_first := fun ts Q Q' E E' hq he ⟨τ, t, u, w, x, y, e, h1, h2, h3, h4, h5, h6, q⟩ => ⟨τ, t, u, w, x, y, e, h1, h2, h3, h4, h5, h6, hq _ _ q⟩
def sp_first_of : DSp := fun ts Q _ => ∃ (τ : T) (o : Bool) (xs : List T) (w : Lw) (L : List Hd), ts = [τ, .node o .lst xs] ∧ IsLand τ w ∧ LdOk w ∧ frzL xs = L.map hdF ∧ L ≠ [] ∧ L.length ≤ 1000 ∧ (∀ x ∈ L, HdOk w x) ∧ Q (hdF (firstH w L)) []
theorem mono_first_of : MonoD sp_first_of := fun ts Q Q' E E' hq he ⟨τ, o, xs, w, L, e, h1, h2, h3, h4, h5, h6, q⟩ => ⟨τ, o, xs, w, L, e, h1, h2, h3, h4, h5, h6, hq _ _ q⟩
def sp_waiting : DSp := fun ts Q _ => ∃ (τ : T) (w : Lw) (o p : Bool) (vs had : List Int), ts = [τ, .node o .lst (intsT vs), .node p .lst (intsT had)] ∧ IsLand τ w ∧ LdOk w ∧ VOd w vs had ∧ (∀ d ∈ had, d ≤ 2 ^ 39) ∧ Q (.node true .lst ((waitL w vs had w.s).map hdM)) []
theorem mono_waiting : MonoD sp_waiting := fun ts Q Q' E E' hq he ⟨τ, w, o, p, vs, d, e, h1, h2, h3, h4, q⟩ => ⟨τ, w, o, p, vs, d, e, h1, h2, h3, h4, hq _ _ q⟩
def sp__law_many : DSp := fun ts Q _ => ∃ (bag : T) (h : Nat), ts = [bag, .leaf (.int (h : Nat))] ∧ IsBag bag ∧ 1 ≤ h ∧ h ≤ 12 ∧ ∀ (vs : List Int) (bag' : T), vs.length = h + 1 → (∀ v ∈ vs, 0 ≤ v ∧ v < 2 ^ 60) → IsBag bag' → Q (.node true .lst (intsT vs)) [bag']
theorem mono__law_many : MonoD sp__law_many := fun ts Q Q' E E' hq he ⟨b, h, e, h1, h2, h3, q⟩ => ⟨b, h, e, h1, h2, h3, fun vs b' a1 a2 a3 => hq _ _ (q vs b' a1 a2 a3)⟩
def sp__law_due : DSp := fun ts Q _ => ∃ (τ : T) (w : Lw) (o p : Bool) (vs had : List Int), ts = [τ, .node o .lst (intsT vs), .node p .lst (intsT had)] ∧ IsNum τ w ∧ LdOk w ∧ w.s ≤ 40 ∧ VOd w vs had ∧ (∀ d ∈ had, d ≤ 30) ∧ Q (.node true .lst (frzL ((waitL w vs had w.s).map hdT))) []
theorem mono__law_due : MonoD sp__law_due := fun ts Q Q' E E' hq he ⟨τ, w, o, p, vs, d, e, h1, h2, h3, h4, h5, q⟩ => ⟨τ, w, o, p, vs, d, e, h1, h2, h3, h4, h5, hq _ _ q⟩
def sp__law_made : DSp := fun ts Q _ => ∃ (τ : T) (w : Lw) (s : Nat), ts = [τ, .leaf (.int (w.h : Nat)), .leaf (.int (s : Nat))] ∧ IsNum τ w ∧ LdOk w ∧ s ≤ 60 ∧ ∀ τ', IsLand τ' { w with s := s } → Q τ' []
theorem mono__law_made : MonoD sp__law_made := fun ts Q Q' E E' hq he ⟨τ, w, s, e, h1, h2, h3, q⟩ => ⟨τ, w, s, e, h1, h2, h3, fun t h => hq _ _ (q t h)⟩
def sp__law_parted_right : DSp := fun ts Q _ => ∃ (bag τn : T) (o p r : Bool) (w : Lw) (vs had : List Int) (xs : List T), ts = [bag, τn, .node o .lst (intsT vs), .node p .lst (intsT had), .node r .lst xs] ∧ frzL xs = (waitL w vs had w.s).map hdF ∧ IsBag bag ∧ IsNum τn w ∧ LdOk w ∧ VOd w vs had ∧ (∀ d ∈ had, d ≤ 30) ∧ ∀ bag', IsBag bag' → Q (.leaf (.bl true)) [bag']
theorem mono__law_parted_right : MonoD sp__law_parted_right := fun ts Q Q' E E' hq he ⟨b, τn, o, p, r, w, vs, d, xs, e, h1, h2, h3, h4, h5, h6, q⟩ => ⟨b, τn, o, p, r, w, vs, d, xs, e, h1, h2, h3, h4, h5, h6, fun b' a => hq _ _ (q b' a)⟩
def sp__law_right : DSp := fun ts Q _ => ∃ (bag τl τn : T) (o p : Bool) (w : Lw) (vs had : List Int), ts = [bag, τl, τn, .node o .lst (intsT vs), .node p .lst (intsT had)] ∧ IsBag bag ∧ IsLand τl w ∧ IsNum τn w ∧ LdOk w ∧ w.s ≤ 40 ∧ VOd w vs had ∧ (∀ d ∈ had, d ≤ 30) ∧ ∀ bag', IsBag bag' → Q (.leaf (.bl true)) [bag']
theorem mono__law_right : MonoD sp__law_right := fun ts Q Q' E E' hq he ⟨b, τl, τn, o, p, w, vs, d, e, h1, h2, h3, h4, h5, h6, h7, q⟩ => ⟨b, τl, τn, o, p, w, vs, d, e, h1, h2, h3, h4, h5, h6, h7, fun b' a => hq _ _ (q b' a)⟩
def t_is_whole : DTS := (sRet (xAndV (xCB (rnIsi .int) (aCons (xVar 0) (aCons (xC (.ty "int")) aNil))) (xNotV (xCB (rnIsi .bl) (aCons (xVar 0) (aCons (xC (.ty "bool")) aNil))))))
def t_divisor_1 : DTS := (sSet false 1 (xVar 2))
def t_divisor_2 : DTS := (sSeq (sSet false 0 (xVar 1))
t_divisor_1)
def t_divisor_3 : DTS := (sSeq (sSet false 2 (xOp oMod (xVar 0) (xVar 1)))
t_divisor_2)
def t_divisor_4 : DTS := (sWhile (xB (xOp oGt (xVar 1) (xC (.int 0))))
 t_divisor_3)
def t_divisor_5 : DTS := (sRet (xVar 0))
def t_divisor_6 : DTS := (sSeq t_divisor_4
t_divisor_5)
def t_divisor_7 : DTS := (sSeq (sSet false 1 (xCB rnAbs (aCons (xVar 1) aNil)))
t_divisor_6)
def t_divisor : DTS := (sSeq (sSet false 0 (xCB rnAbs (aCons (xVar 0) aNil)))
t_divisor_7)
def t_up_1 : DTS := (sIf (xB (xOp oGt (xVar 3) (xC (.int 0))))
 (sAug 2 (rtI0 fun i j => .int (i + j)) (xC (.int 1)))
 sNext)
def t_up_2 : DTS := (sRet (xVar 2))
def t_up_3 : DTS := (sSeq t_up_1
t_up_2)
def t_up : DTS := (sSeq (sAsg (xCB rnDivmod (aCons (xVar 0) (aCons (xVar 1) aNil))) (gSq 2 (gCn (gNm false 2) (gCn (gNm false 3) gNl))))
t_up_3)
def t_fraction_1 : DTS := (sIf (xB (xOp oLt (xVar 1) (xC (.int 0))))
 (sSet false 2 (xUn (fun i => .int (-i)) (xVar 2)))
 sNext)
def t_fraction_2 : DTS := (sRet (xTup (aCons (xOp oDivS (xVar 0) (xVar 2)) (aCons (xOp oDivS (xVar 1) (xVar 2)) aNil))))
def t_fraction_3 : DTS := (sSeq t_fraction_1
t_fraction_2)
def t_fraction_4 : DTS := (sIf (xB (xOp (rtEq false) (xVar 1) (xC (.int 0))))
 (sRaise (cxN 1))
 sNext)
def t_fraction_5 : DTS := (sSeq (sSet false 2 (xCall sp_divisor [none, none] (aCons (xVar 0) (aCons (xVar 1) aNil))))
t_fraction_3)
def t_fraction_6 : DTS := (sIf (xOr (xNot (xTru (xCall sp_is_whole [none] (aCons (xVar 0) aNil)))) (xNot (xTru (xCall sp_is_whole [none] (aCons (xVar 1) aNil)))))
 (sRaise (cxN 1))
 sNext)
def t_fraction_7 : DTS := (sSeq t_fraction_4
t_fraction_5)
def t_fraction : DTS := (sSeq t_fraction_6
t_fraction_7)
def t_under : DTS := (sRet (xOp oLt (xOp rtMul (xOp rtIx (xVar 0) (xC (.int 0))) (xOp rtIx (xVar 1) (xC (.int 1)))) (xOp rtMul (xOp rtIx (xVar 1) (xC (.int 0))) (xOp rtIx (xVar 0) (xC (.int 1))))))
def t_lots_of_1 : DTS := (sIf (xB (xOp (rtEq true) (xCB rnSortedI (aCons (xVar 1) aNil)) (xLstRg (xRg1 (xVar 0)))))
 (sRaise (cxN 8))
 sNext)
def t_lots_of_2 : DTS := (sRet (xCB rnList (aCons (xVar 1) aNil)))
def t_lots_of_3 : DTS := (sIf (xNot (xTru (xCall sp_is_whole [none] (aCons (xVar 2) aNil))))
 (sRaise (cxN 8))
 sNext)
def t_lots_of_4 : DTS := t_lots_of_3
def t_lots_of_5 : DTS := (sFor (iSeq (xVar 1)) (gNm false 2)
 t_lots_of_4)
def t_lots_of_6 : DTS := (sSeq t_lots_of_1
t_lots_of_2)
def t_lots_of_7 : DTS := (sIf (xOr (xNot (xTru (xCB (rnIsi .lst) (aCons (xVar 1) (aCons (xC (.ty "list")) aNil))))) (xB (xOp (rtEq true) (xCB rnLen (aCons (xVar 1) aNil)) (xVar 0))))
 (sRaise (cxN 8))
 sNext)
def t_lots_of_8 : DTS := (sSeq t_lots_of_5
t_lots_of_6)
def t_lots_of_9 : DTS := (sIf (xB (xOp (rtIs false) (xVar 1) (xC .non)))
 (sRet (xLstRg (xRg1 (xVar 0))))
 sNext)
def t_lots_of_10 : DTS := (sSeq t_lots_of_7
t_lots_of_8)
def t_lots_of : DTS := (sSeq t_lots_of_9
t_lots_of_10)
def t_Way_init_1 : DTS := (sFldN 0 C_Lists ["hands", "seats"] "lots" (xCall sp_lots_of [none, none] (aCons (xVar 1) (aCons (xVar 3) aNil))))
def t_Way_init_2 : DTS := (sSeq (sFldN 0 C_Lists ["hands"] "seats" (xVar 2))
t_Way_init_1)
def t_Way_init_3 : DTS := (sIf (xOr (xNot (xTru (xCall sp_is_whole [none] (aCons (xVar 2) aNil)))) (xNot (xB (xChain oLe oLe (xC (.int 1)) (xVar 2) (xG (.leaf (.int 60)))))))
 (sRaise (cxN 8))
 sNext)
def t_Way_init_4 : DTS := (sSeq (sFldN 0 C_Lists [] "hands" (xVar 1))
t_Way_init_2)
def t_Way_init_5 : DTS := (sIf (xOr (xNot (xTru (xCall sp_is_whole [none] (aCons (xVar 1) aNil)))) (xNot (xB (xChain oLe oLe (xC (.int 1)) (xVar 1) (xG (.leaf (.int 12)))))))
 (sRaise (cxN 8))
 sNext)
def t_Way_init_6 : DTS := (sSeq t_Way_init_3
t_Way_init_4)
def t_Way_init : DTS := (sSeq t_Way_init_5
t_Way_init_6)
def t_hurdle_of_1 : DTS := (sIf (xOr (xB (xOp oLt (xVar 2) (xC (.int 1)))) (xOr (xNot (xB (xChain oLe oLe (xC (.int 0)) (xVar 1) (xVar 2)))) (xB (xOp (rtEq true) (xCall sp_divisor [none, none] (aCons (xVar 1) (aCons (xVar 2) aNil))) (xC (.int 1))))))
 (sRaise (cxN 8))
 sNext)
def t_hurdle_of_2 : DTS := (sRet (xVar 0))
def t_hurdle_of_3 : DTS := (sIf (xOr (xNot (xTru (xCall sp_is_whole [none] (aCons (xVar 1) aNil)))) (xNot (xTru (xCall sp_is_whole [none] (aCons (xVar 2) aNil)))))
 (sRaise (cxN 8))
 sNext)
def t_hurdle_of_4 : DTS := (sSeq t_hurdle_of_1
t_hurdle_of_2)
def t_hurdle_of_5 : DTS := (sSeq t_hurdle_of_3
t_hurdle_of_4)
def t_hurdle_of_6 : DTS := (sIf (xOr (xNot (xTru (xCB (rnIsi .tup) (aCons (xVar 0) (aCons (xC (.ty "tuple")) aNil))))) (xB (xOp (rtEq true) (xCB rnLen (aCons (xVar 0) aNil)) (xC (.int 2)))))
 (sRaise (cxN 8))
 sNext)
def t_hurdle_of_7 : DTS := (sSeq (sAsg (xVar 0) (gSq 2 (gCn (gNm false 1) (gCn (gNm false 2) gNl))))
t_hurdle_of_5)
def t_hurdle_of_8 : DTS := (sIf (xB (xOp (rtIs false) (xVar 0) (xC .non)))
 (sRet (xTup (aCons (xC (.int 0)) (aCons (xC (.int 1)) aNil))))
 sNext)
def t_hurdle_of_9 : DTS := (sSeq t_hurdle_of_6
t_hurdle_of_7)
def t_hurdle_of : DTS := (sSeq t_hurdle_of_8
t_hurdle_of_9)
def t_marks_of_1 : DTS := (sIf (xB (xOp oLt (xOp rtIx (xVar 1) (xVar 5)) (xVar 2)))
 (sDrop (xApp 4 (xC .non)))
 (sDrop (xApp 4 (xMethVS C_Land ix_Land sp_Land_mark (xVar 0) [none, none] [] (aCons (xOp rtIx (xVar 1) (xVar 5)) (aCons (xOp rtIx (xVar 3) (xVar 5)) aNil))))))
def t_marks_of_2 : DTS := t_marks_of_1
def t_marks_of_3 : DTS := (sFor (iRange1 (aCons (xSv C_Land ix_Land 1 (xVar 0)) aNil)) (gNm false 5)
 t_marks_of_2)
def t_marks_of_4 : DTS := (sRet (xMov 4))
def t_marks_of_5 : DTS := (sSeq t_marks_of_3
t_marks_of_4)
def t_marks_of : DTS := (sSeq (sSet true 4 (xLst aNil))
t_marks_of_5)
def t_goes_ahead_1 : DTS := (sIf (xTru (xCall sp_under [none, none] (aCons (xOp rtIx (xVar 1) (xVar 3)) (aCons (xOp rtIx (xVar 1) (xVar 2)) aNil))))
 (sRet (xC (.bl true)))
 sNext)
def t_goes_ahead_2 : DTS := (sRet (xAndV (xOp (rtEq false) (xOp rtIx (xVar 1) (xVar 3)) (xOp rtIx (xVar 1) (xVar 2))) (xMethVS C_Land ix_Land sp_Land_ahead (xVar 0) [none, none] [] (aCons (xVar 2) (aCons (xVar 3) aNil)))))
def t_goes_ahead : DTS := (sSeq t_goes_ahead_1
t_goes_ahead_2)
def t_seat_due_1 : DTS := (sIf (xAnd (xB (xOp (rtIs true) (xOp rtIx (xVar 1) (xVar 3)) (xC .non))) (xOr (xB (xOp (rtIs false) (xVar 2) (xC .non))) (xTru (xCall sp_goes_ahead [none, none, none, none] (aCons (xVar 0) (aCons (xVar 1) (aCons (xVar 3) (aCons (xVar 2) aNil))))))))
 (sSet false 2 (xVar 3))
 sNext)
def t_seat_due_2 : DTS := t_seat_due_1
def t_seat_due_3 : DTS := (sFor (iRange1 (aCons (xSv C_Land ix_Land 1 (xVar 0)) aNil)) (gNm false 3)
 t_seat_due_2)
def t_seat_due_4 : DTS := (sRet (xVar 2))
def t_seat_due_5 : DTS := (sSeq t_seat_due_3
t_seat_due_4)
def t_seat_due : DTS := (sSeq (sSet false 2 (xC .non))
t_seat_due_5)
def t_Lists_init_1 : DTS := (sFldN 0 C_Lists ["hands", "seats", "lots", "hurdle"] "step" (xVar 5))
def t_Lists_init_2 : DTS := (sIf (xOr (xNot (xTru (xCall sp_is_whole [none] (aCons (xVar 5) aNil)))) (xNot (xB (xChain oLe oLe (xC (.int 1)) (xVar 5) (xG (.leaf (.int 9)))))))
 (sRaise (cxN 8))
 sNext)
def t_Lists_init_3 : DTS := (sSeq (sFldN 0 C_Lists ["hands", "seats", "lots"] "hurdle" (xCall sp_hurdle_of [none] (aCons (xVar 4) aNil)))
t_Lists_init_1)
def t_Lists_init_4 : DTS := (sSeq t_Lists_init_2
t_Lists_init_3)
def t_Lists_init : DTS := (sSeq (sDrop (xCall sp_Way_init [some 0, none, none, none] (aLend 0 (aCons (xVar 1) (aCons (xVar 2) (aCons (xVar 3) aNil))))))
t_Lists_init_4)
def t_rounds_of_1 : DTS := (sAugI 5 (xVar 8) (rtI0 fun i j => .int (i + j)) (xC (.int 1)))
def t_rounds_of_2 : DTS := (sIf (xB (xOp (rtIs false) (xVar 8) (xC .non)))
 (sRet (xLst aNil))
 sNext)
def t_rounds_of_3 : DTS := (sSeq (sDrop (xApp 6 (xTup (aCons (xMov 7) (aCons (xVar 8) aNil)))))
t_rounds_of_1)
def t_rounds_of_4 : DTS := (sSeq t_rounds_of_2
t_rounds_of_3)
def t_rounds_of_5 : DTS := (sSeq (sSet false 8 (xBor (xCall sp_seat_due [none, none] (aCons (xVar 0) (aCons (xVar 7) aNil)))))
t_rounds_of_4)
def t_rounds_of_6 : DTS := (sSeq (sSet true 7 (xBor (xCall sp_marks_of [none, none, none, none] (aCons (xVar 0) (aCons (xVar 1) (aCons (xVar 2) (aCons (xVar 5) aNil)))))))
t_rounds_of_5)
def t_rounds_of_7 : DTS := (sWhile (xBorT (xB (xOp oLt (xCB rnLen (aCons (xVar 6) aNil)) (xVar 4))))
 t_rounds_of_6)
def t_rounds_of_8 : DTS := (sRet (xMov 6))
def t_rounds_of_9 : DTS := (sSeq t_rounds_of_7
t_rounds_of_8)
def t_rounds_of : DTS := (sSeq (sParO true true 5 6 (aCons (xCB rnList (aCons (xVar 3) aNil)) (aCons (xLst aNil) aNil)))
t_rounds_of_9)
def t_evening_1 : DTS := (sRet (xTup (aCons (xCB rnList (aCons (xVar 1) aNil)) (aCons (xVar 3) (aCons (xCall sp_rounds_of [none, none, none, none, none] (aCons (xVar 0) (aCons (xVar 1) (aCons (xVar 3) (aCons (xVar 2) (aCons (xSv C_Land ix_Land 4 (xVar 0)) aNil)))))) aNil)))))
def t_evening : DTS := (sSeq (sSet false 3 (xMethVS C_Land ix_Land sp_Land_least_votes (xVar 0) [none] [] (aCons (xCB rnSum (aCons (xVar 1) aNil)) aNil)))
t_evening_1)
def t_evened_by_1 : DTS := (sAugI 2 (xVar 4) (rtI0 fun i j => .int (i + j)) (xC (.int 1)))
def t_evened_by_2 : DTS := (sFor (iSeq (xOp rtIx (xVar 1) (xC (.int 2)))) (gSq 2 (gCn (gNm false 3) (gCn (gNm false 4) gNl)))
 t_evened_by_1)
def t_evened_by_3 : DTS := (sRet (xMov 2))
def t_evened_by_4 : DTS := (sSeq t_evened_by_2
t_evened_by_3)
def t_evened_by : DTS := (sSeq (sSet true 2 (xOp rtMul (xLst (aCons (xC (.int 0)) aNil)) (xSv C_Land ix_Land 1 (xVar 0))))
t_evened_by_4)
def t_goes_first_1 : DTS := (sIf (xB (xOp (rtEq false) (xOp rtIx (xVar 1) (xC (.int 0))) (xOp rtIx (xVar 2) (xC (.int 0)))))
 (sRet (xMethVS C_Land ix_Land sp_Land_ahead (xVar 0) [none, none] [] (aCons (xOp rtIx (xVar 1) (xC (.int 1))) (aCons (xOp rtIx (xVar 2) (xC (.int 1))) aNil))))
 sNext)
def t_goes_first_2 : DTS := (sRet (xCall sp_under [none, none] (aCons (xOp rtIx (xVar 2) (xC (.int 0))) (aCons (xOp rtIx (xVar 1) (xC (.int 0))) aNil))))
def t_goes_first : DTS := (sSeq t_goes_first_1
t_goes_first_2)
def t_first_of_1 : DTS := (sIf (xTru (xCall sp_goes_first [none, none, none] (aCons (xVar 0) (aCons (xVar 3) (aCons (xVar 2) aNil)))))
 (sSet false 2 (xVar 3))
 sNext)
def t_first_of_2 : DTS := t_first_of_1
def t_first_of_3 : DTS := (sFor (iSeq (xSlA (xVar 1) (xPart (xC (.int 1))) xNoP)) (gNm false 3)
 t_first_of_2)
def t_first_of_4 : DTS := (sRet (xVar 2))
def t_first_of_5 : DTS := (sSeq t_first_of_3
t_first_of_4)
def t_first_of : DTS := (sSeq (sSet false 2 (xOp rtIx (xVar 1) (xC (.int 0))))
t_first_of_5)
def t_waiting_1 : DTS := (sIf (xB (xOp (rtEq false) (xDGetO 5 (xVar 6)) (xLst aNil)))
 (sDrop (xDPopO 5 (xVar 6)))
 sNext)
def t_waiting_2 : DTS := t_waiting_1
def t_waiting_3 : DTS := (sSeq (sDPutO 5 (xVar 6) (xFz (xSlA (xDGetO 5 (xVar 6)) (xPart (xC (.int 1))) xNoP)))
t_waiting_2)
def t_waiting_4 : DTS := (sSeq (sDrop (xApp 4 (xTup (aCons (xVar 7) (aCons (xVar 6) aNil)))))
t_waiting_3)
def t_waiting_5 : DTS := (sSeq (sAsg (xCall sp_first_of [none, none] (aCons (xVar 0) (aCons (xLcV 5 (gNm false 9) xYes (xOp rtIx (xVar 9) (xC (.int 0))) [9]) aNil))) (gSq 2 (gCn (gNm false 7) (gCn (gNm false 6) gNl))))
t_waiting_4)
def t_waiting_6 : DTS := (sWhile (xBorT (xAnd (xNe0 5) (xB (xOp oLt (xCB rnLen (aCons (xVar 4) aNil)) (xSv C_Land ix_Land 4 (xVar 0))))))
 t_waiting_5)
def t_waiting_7 : DTS := (sRet (xMov 4))
def t_waiting_8 : DTS := (sIf (xB (xOp oGe (xOp rtIx (xVar 1) (xVar 6)) (xVar 3)))
 (sDPutO 5 (xVar 6) (xFz (xLc (iRange1 (aCons (xSv C_Land ix_Land 4 (xVar 0)) aNil)) (gNm false 8) xYes (xTup (aCons (xMethVS C_Land ix_Land sp_Land_mark (xVar 0) [none, none] [] (aCons (xOp rtIx (xVar 1) (xVar 6)) (aCons (xOp rtAdd (xOp rtIx (xVar 2) (xVar 6)) (xVar 8)) aNil))) (aCons (xVar 6) aNil))) [8])))
 sNext)
def t_waiting_9 : DTS := t_waiting_8
def t_waiting_10 : DTS := (sFor (iRange1 (aCons (xSv C_Land ix_Land 1 (xVar 0)) aNil)) (gNm false 6)
 t_waiting_9)
def t_waiting_11 : DTS := (sSeq t_waiting_6
t_waiting_7)
def t_waiting_12 : DTS := (sSeq t_waiting_10
t_waiting_11)
def t_waiting_13 : DTS := (sSeq (sSet true 5 xDict0)
t_waiting_12)
def t_waiting : DTS := (sSeq (sParO false true 3 4 (aCons (xMethVS C_Land ix_Land sp_Land_least_votes (xVar 0) [none] [] (aCons (xCB rnSum (aCons (xVar 1) aNil)) aNil)) (aCons (xLst aNil) aNil)))
t_waiting_13)
def t_is_count : DTS := (sRet (xAndV (xCall sp_is_whole [none] (aCons (xVar 0) aNil)) (xChain oLe oLe (xC (.int 0)) (xVar 0) (xVar 1))))
def t_areas_of_1 : DTS := (sIf (xTru (xCB rnAny (aCons (xLc (iSeq (xVar 0)) (gNm false 1) xYes (xOp (rtEq true) (xFld C_Lists ns_Lists 0 (xVar 1)) (xFld C_Lists ns_Lists 0 (xOp rtIx (xVar 0) (xC (.int 0))))) [1]) aNil)))
 (sRaise (cxN 12))
 sNext)
def t_areas_of_2 : DTS := (sRet (xCB rnList (aCons (xVar 0) aNil)))
def t_areas_of_3 : DTS := (sIf (xNot (xTru (xCB rnAll (aCons (xLc (iSeq (xVar 0)) (gNm false 1) xYes (xCB (rnIsCT C_Lists [(C_Pairs, false), (C_Lists, true)]) (aCons (xVar 1) (aCons (xTup (aCons (xC (.ref C_Pairs)) (aCons (xC (.ref C_Lists)) aNil))) aNil))) [1]) aNil))))
 (sRaise (cxN 12))
 sNext)
def t_areas_of_4 : DTS := (sSeq t_areas_of_1
t_areas_of_2)
def t_areas_of_5 : DTS := (sIf (xOr (xNot (xTru (xCB (rnIsiT [.lst, .tup]) (aCons (xVar 0) (aCons (xTup (aCons (xC (.ty "list")) (aCons (xC (.ty "tuple")) aNil))) aNil))))) (xNot (xB (xChain oLe oLe (xC (.int 1)) (xCB rnLen (aCons (xVar 0) aNil)) (xG (.leaf (.int 6)))))))
 (sRaise (cxN 12))
 sNext)
def t_areas_of_6 : DTS := (sSeq t_areas_of_3
t_areas_of_4)
def t_areas_of : DTS := (sSeq t_areas_of_5
t_areas_of_6)
def t_Land_init_1 : DTS := (sAsg (xTup (aCons (xCall sp_lots_of [none, none] (aCons (xSvO 0 C_Land [0, 2] 1) (aCons (xVar 3) aNil))) (aCons (xCall sp_hurdle_of [none] (aCons (xVar 4) aNil)) aNil))) (gSqO 2 (gCn (gSvN 0 C_Land [0, 2] 4) (gCn (gSvN 0 C_Land [0, 2, 4] 3) gNl))))
def t_Land_init_2 : DTS := (sTry 8 t_Land_init_1 sNever)
def t_Land_init_3 : DTS := (sAsg (xTup (aCons (xVar 2) (aCons (xVar 5) aNil))) (gSqO 2 (gCn (gSvN 0 C_Land [0, 2, 4, 3] 1) (gCn (gSvN 0 C_Land [0, 2, 4, 3, 1] 5) gNl))))
def t_Land_init_4 : DTS := (sIf (xOr (xNot (xTru (xCall sp_is_count [none, none] (aCons (xVar 2) (aCons (xG (.leaf (.int 60))) aNil))))) (xOr (xNot (xTru (xCall sp_is_count [none, none] (aCons (xVar 5) (aCons (xG (.leaf (.int 9))) aNil))))) (xB (xOp oLt (xVar 5) (xC (.int 1))))))
 (sRaise (cxN 12))
 sNext)
def t_Land_init_5 : DTS := (sSeq t_Land_init_2
t_Land_init_3)
def t_Land_init_6 : DTS := (sSeq t_Land_init_4
t_Land_init_5)
def t_Land_init_7 : DTS := (sSeq (sSvN 0 C_Land [0] 2 (xFld C_Lists ns_Lists 0 (xOp rtIx (xSvO 0 C_Land [0] 0) (xC (.int 0)))))
t_Land_init_6)
def t_Land_init : DTS := (sSeq (sSvN 0 C_Land [] 0 (xCall sp_areas_of [none] (aCons (xVar 1) aNil)))
t_Land_init_7)
def t_Land_ahead : DTS := (sRet (xOp oLt (xIndex (xSv C_Land ix_Land 2 (xVar 0)) (xVar 1)) (xIndex (xSv C_Land ix_Land 2 (xVar 0)) (xVar 2))))
def t_Land_least_votes : DTS := (sRet (xCB rnMax2 (aCons (xC (.int 1)) (aCons (xCall sp_up [none, none] (aCons (xOp rtMul (xOp rtIx (xSv C_Land ix_Land 3 (xVar 0)) (xC (.int 0))) (xVar 1)) (aCons (xOp rtIx (xSv C_Land ix_Land 3 (xVar 0)) (xC (.int 1))) aNil))) aNil))))
def t_Land_mark : DTS := (sRet (xCall sp_fraction [none, none] (aCons (xVar 1) (aCons (xOp rtAdd (xC (.int 1)) (xOp rtMul (xSv C_Land ix_Land 5 (xVar 0)) (xVar 2))) aNil))))
def t__law_bag : DTS := (sRet (xLst (aCons (xC (.int 0)) (aCons (xC (.int 1234567891)) (aCons (xC (.int 0)) (aCons (xLc (iSeq (xSlA (xVar 0) xNoP (xPart (xC (.int 63))))) (gNm false 1) xYes (xCB rnAbs (aCons (xVar 1) aNil)) [1]) aNil))))))
def t__law_take_1 : DTS := (sRet (xOp oMod (xCB rnInt2 (aCons (xOp oDiv (xVar 3) (xC (.int 7))) aNil)) (xVar 1)))
def t__law_take_2 : DTS := (sSeq (sSet false 3 (xOp oMod (xCB rnInt2 (aCons (xOp rtMul (xOp oMod (xCB rnInt2 (aCons (xOp rtMul (xVar 2) (xVar 2)) aNil)) (xC (.int 998244353))) (xC (.int 30011))) aNil)) (xC (.int 998244353))))
t__law_take_1)
def t__law_take_3 : DTS := (sRet (xVar 6))
def t__law_take_4 : DTS := (sSeq (sAsg (xOp oDiv (xCB rnInt2 (aCons (xIxO 0 (xC (.int 0))) aNil)) (xVar 1)) (gSetI 0 (xC (.int 0))))
t__law_take_3)
def t__law_take_5 : DTS := (sIf (xB (xOp oGt (xIxO 0 (xC (.int 0))) (xC (.int 0))))
 (sSeq (sSet false 6 (xOp oMod (xCB rnInt2 (aCons (xIxO 0 (xC (.int 0))) aNil)) (xVar 1)))
t__law_take_4)
 sNext)
def t__law_take_6 : DTS := (sSeq (sSet false 2 (xOp oMod (xCB rnInt2 (aCons (xOp rtMul (xOp rtAdd (xIxO 0 (xC (.int 1))) (xC (.int 1))) (xC (.int 39373))) aNil)) (xC (.int 1000000007))))
t__law_take_2)
def t__law_take_7 : DTS := (sAsg (xOp oMod (xCB rnInt2 (aCons (xVar 5) aNil)) (xC (.int 2147483647))) (gSetI 0 (xC (.int 1))))
def t__law_take_8 : DTS := (sIf (xB (xOp oGe (xVar 4) (xC (.int 1000000000000000000))))
 (sAsg (xVar 4) (gSetI 0 (xC (.int 0))))
 sNext)
def t__law_take_9 : DTS := (sSeq (sSet false 5 (xOp rtAdd (xOp rtAdd (xOp rtMul (xIxO 0 (xC (.int 1))) (xC (.int 48271))) (xOp oMod (xCB rnInt2 (aCons (xVar 4) aNil)) (xC (.int 2147483647)))) (xOp rtMul (xC (.int 7919)) (xIxO 0 (xC (.int 2))))))
t__law_take_7)
def t__law_take_10 : DTS := (sSeq t__law_take_8
t__law_take_9)
def t__law_take_11 : DTS := (sIf (xB (xOp oLt (xIxO 0 (xC (.int 2))) (xCB rnLen (aCons (xIxO 0 (xC (.int 3))) aNil))))
 (sSet false 4 (xOp rtIx (xIxO 0 (xC (.int 3))) (xIxO 0 (xC (.int 2)))))
 sNext)
def t__law_take_12 : DTS := (sSeq (sAugI 0 (xC (.int 2)) (rtI0 fun i j => .int (i + j)) (xC (.int 1)))
t__law_take_10)
def t__law_take_13 : DTS := (sSeq t__law_take_11
t__law_take_12)
def t__law_take_14 : DTS := (sIf (xB (xOp (rtEq false) (xIxO 0 (xC (.int 0))) (xC (.int 0))))
 (sSeq (sSet false 4 (xC (.int 0)))
t__law_take_13)
 sNext)
def t__law_take_15 : DTS := (sSeq t__law_take_5
t__law_take_6)
def t__law_take_16 : DTS := (sIf (xB (xOp (rtInT false) (xIxO 0 (xC (.int 3))) (xTup (aCons (xLst aNil) (aCons (xLst (aCons (xC (.int 1)) aNil)) aNil)))))
 (sRet (xOp rtMul (xOp oSub (xVar 1) (xC (.int 1))) (xCB rnLen (aCons (xIxO 0 (xC (.int 3))) aNil))))
 sNext)
def t__law_take_17 : DTS := (sSeq t__law_take_14
t__law_take_15)
def t__law_take : DTS := (sSeq t__law_take_16
t__law_take_17)
def t__law_one : DTS := (sRet (xOp rtIx (xVar 1) (xCall sp__law_take [some 0, none] (aLend 0 (aCons (xCB rnLen (aCons (xVar 1) aNil)) aNil)))))
def t__law_mixed_1 : DTS := (sDrop (xIns 2 (xCall sp__law_take [some 0, none] (aLend 0 (aCons (xBor (xOp rtAdd (xCB rnLen (aCons (xVar 2) aNil)) (xC (.int 1)))) aNil))) (xVar 3)))
def t__law_mixed_2 : DTS := (sFor (iSeq (xVar 1)) (gNm false 3)
 t__law_mixed_1)
def t__law_mixed_3 : DTS := (sRet (xMov 2))
def t__law_mixed_4 : DTS := (sSeq t__law_mixed_2
t__law_mixed_3)
def t__law_mixed : DTS := (sSeq (sSet true 2 (xLst aNil))
t__law_mixed_4)
def t__law_alike : DTS := (sRet (xAndV (xOp (rtEq false) (xVar 0) (xVar 1)) (xOp (rtEq false) (xCB rnRepr2 (aCons (xVar 0) aNil)) (xCB rnRepr2 (aCons (xVar 1) aNil)))))
def t__law_need_1 : DTS := (sRet (xCB rnMax2 (aCons (xC (.int 1)) (aCons (xOp oDiv (xOp oSub (xOp rtAdd (xOp rtMul (xVar 2) (xVar 1)) (xVar 3)) (xC (.int 1))) (xVar 3)) aNil))))
def t__law_need : DTS := (sSeq (sAsg (xOrG (xDGet (xVar 0) (xC (.str "hurdle"))) (xTup (aCons (xC (.int 0)) (aCons (xC (.int 1)) aNil)))) (gSq 2 (gCn (gNm false 2) (gCn (gNm false 3) gNl))))
t__law_need_1)
def t__law_part_1 : DTS := (sIf (xB (xOp (rtEq false) (xVar 3) (xC (.int 0))))
 sBrk
 sNext)
def t__law_part_2 : DTS := (sPar 2 3 (aCons (xVar 3) (aCons (xOp oMod (xCB rnInt2 (aCons (xVar 2) aNil)) (xVar 3)) aNil)))
def t__law_part_3 : DTS := (sSeq t__law_part_1
t__law_part_2)
def t__law_part_4 : DTS := (sFor (iRange1 (aCons (xC (.int 400)) aNil)) (gNm false 4)
 t__law_part_3)
def t__law_part_5 : DTS := (sRet (xTup (aCons (xOp oDiv (xVar 0) (xVar 2)) (aCons (xOp oDiv (xVar 1) (xVar 2)) aNil))))
def t__law_part_6 : DTS := (sSeq t__law_part_4
t__law_part_5)
def t__law_part : DTS := (sSeq (sPar 2 3 (aCons (xVar 0) (aCons (xVar 1) aNil)))
t__law_part_6)
def t__law_order : DTS := (sRet (xIte (xB (xOp (rtIs false) (xDGet (xVar 0) (xC (.str "lots"))) (xC .non))) (xLstRg (xRg1 (xVar 1))) (xDGet (xVar 0) (xC (.str "lots")))))
def t__law_numbers_1 : DTS := (sRet (xMov 4))
def t__law_numbers_2 : DTS := (sSeq (sDPutO 4 (xC (.str "lots")) (xIte (xB (xOp (rtEq false) (xCall sp__law_take [some 0, none] (aLend 0 (aCons (xC (.int 3)) aNil))) (xC (.int 0)))) (xC .non) (xCall sp__law_mixed [some 0, none] (aLend 0 (aCons (xLstRg (xRg1 (xVar 1))) aNil)))))
t__law_numbers_1)
def t__law_numbers_3 : DTS := (sSeq (sDPutO 4 (xC (.str "step")) (xOp rtIx (xLst (aCons (xC (.int 1)) (aCons (xC (.int 2)) (aCons (xOp rtAdd (xC (.int 1)) (xCall sp__law_take [some 0, none] (aLend 0 (aCons (xC (.int 9)) aNil)))) (aCons (xC (.int 9)) aNil))))) (xCall sp__law_take [some 0, none] (aLend 0 (aCons (xC (.int 4)) aNil)))))
t__law_numbers_2)
def t__law_numbers_4 : DTS := (sSeq (sSet true 4 (xDictL [.inr "seats", .inr "hurdle"] [(xVar 2), (xOp rtIx (xVar 3) (xCall sp__law_take [some 0, none] (aLend 0 (aCons (xC (.int 10)) aNil))))]))
t__law_numbers_3)
def t__law_numbers : DTS := (sSeq (sSet false 3 (xLst (aCons (xC .non) (aCons (xTup (aCons (xC (.int 0)) (aCons (xC (.int 1)) aNil))) (aCons (xTup (aCons (xC (.int 1)) (aCons (xC (.int 20)) aNil))) (aCons (xTup (aCons (xC (.int 3)) (aCons (xC (.int 100)) aNil))) (aCons (xTup (aCons (xC (.int 1)) (aCons (xC (.int 5)) aNil))) (aCons (xTup (aCons (xC (.int 2)) (aCons (xC (.int 5)) aNil))) (aCons (xTup (aCons (xC (.int 1)) (aCons (xC (.int 2)) aNil))) (aCons (xTup (aCons (xC (.int 2)) (aCons (xC (.int 3)) aNil))) (aCons (xTup (aCons (xC (.int 1)) (aCons (xC (.int 3)) aNil))) (aCons (xTup (aCons (xC (.int 1)) (aCons (xC (.int 1)) aNil))) aNil))))))))))))
t__law_numbers_4)
def t__law_many_1 : DTS := (sRet (xLc (iRange1 (aCons (xOp rtAdd (xVar 1) (xC (.int 1))) aNil)) (gNm false 3) xYes (xCall sp__law_take [some 0, none] (aLend 0 (aCons (xVar 2) aNil))) [3]))
def t__law_many : DTS := (sSeq (sSet false 2 (xOp rtIx (xLst (aCons (xC (.int 4)) (aCons (xC (.int 30)) (aCons (xC (.int 1000)) (aCons (xOp oPow (xC (.int 10)) (xC (.int 9))) aNil))))) (xCall sp__law_take [some 0, none] (aLend 0 (aCons (xC (.int 4)) aNil)))))
t__law_many_1)
def t__law_due_1 : DTS := (sRet (xSlA (xVar 12) xNoP (xPart (xDGet (xVar 0) (xC (.str "seats"))))))
def t__law_due_2 : DTS := (sSeq (sSet false 12 (xLc (iSeq (xCB rnSortedB (aCons (xVar 11) aNil))) (gNm false 14) xYes (xTup (aCons (xCall sp__law_part [none, none] (aCons (xOp rtIx (xVar 1) (xOp rtIx (xVar 14) (xC (.int 2)))) (aCons (xOp rtIx (xVar 14) (xC (.int 3))) aNil))) (aCons (xOp rtIx (xVar 14) (xC (.int 2))) aNil))) [14]))
t__law_due_1)
def t__law_due_3 : DTS := (sSet false 8 (xOp rtMul (xVar 8) (xVar 10)))
def t__law_due_4 : DTS := (sFor (iSeq (xBor (xSortSetB (xLc (iSeq (xVar 7)) (gSq 2 (gCn (gNm false 9) (gCn (gNm false 10) gNl))) xYes (xVar 10) [9, 10])))) (gNm false 10)
 t__law_due_3)
def t__law_due_5 : DTS := (sSeq (sSet false 11 (xLc (iSeq (xFrz 7)) (gSq 2 (gCn (gNm false 9) (gCn (gNm false 10) gNl))) xYes (xTup (aCons (xOp oSub (xC (.int 0)) (xOp rtMul (xOp rtIx (xVar 1) (xVar 9)) (xOp oDiv (xVar 8) (xVar 10)))) (aCons (xIndex (xVar 5) (xVar 9)) (aCons (xVar 9) (aCons (xVar 10) aNil))))) [9, 10]))
t__law_due_2)
def t__law_due_6 : DTS := (sDrop (xApp 7 (xTup (aCons (xVar 9) (aCons (xOp rtAdd (xC (.int 1)) (xOp rtMul (xVar 4) (xOp rtAdd (xOp rtIx (xVar 2) (xVar 9)) (xVar 13)))) aNil)))))
def t__law_due_7 : DTS := (sFor (iRange1 (aCons (xOp rtMul (xDGet (xVar 0) (xC (.str "seats"))) (xCB rnInt2 (aCons (xOp oGe (xOp rtIx (xVar 1) (xVar 9)) (xVar 6)) aNil))) aNil)) (gNm false 13)
 t__law_due_6)
def t__law_due_8 : DTS := t__law_due_7
def t__law_due_9 : DTS := (sFor (iRange1 (aCons (xVar 3) aNil)) (gNm false 9)
 t__law_due_8)
def t__law_due_10 : DTS := (sSeq t__law_due_4
t__law_due_5)
def t__law_due_11 : DTS := (sSeq t__law_due_9
t__law_due_10)
def t__law_due_12 : DTS := (sSeq (sAsg (xTup (aCons (xCall sp__law_need [none, none] (aCons (xVar 0) (aCons (xCB rnSum (aCons (xVar 1) aNil)) aNil))) (aCons (xLst aNil) (aCons (xC (.int 1)) aNil)))) (gSqO 3 (gCn (gNm false 6) (gCn (gNm true 7) (gCn (gNm false 8) gNl)))))
t__law_due_11)
def t__law_due : DTS := (sSeq (sAsg (xTup (aCons (xCB rnLen (aCons (xVar 2) aNil)) (aCons (xDGet (xVar 0) (xC (.str "step"))) (aCons (xCall sp__law_order [none, none] (aCons (xVar 0) (aCons (xCB rnLen (aCons (xVar 2) aNil)) aNil))) aNil)))) (gSq 3 (gCn (gNm false 3) (gCn (gNm false 4) (gCn (gNm false 5) gNl)))))
t__law_due_12)
def t__law_made : DTS := (sRet (xMakeSl C_Land sp_Land_init [none, none, none, none, none] [] (aCons (xLst (aCons (xMakeD C_Lists sp_Lists_init [none, none, none, none, none] [.non, .non, (.int 1)] (aCons (xVar 1) (aCons (xC (.int 1)) aNil))) aNil)) (aCons (xVar 2) (aCons (xDGet (xVar 0) (xC (.str "lots"))) (aCons (xDGet (xVar 0) (xC (.str "hurdle"))) (aCons (xDGet (xVar 0) (xC (.str "step"))) aNil)))))))
def t__law_parted_right_1 : DTS := (sRet (xCall sp__law_alike [none, none] (aCons (xVar 10) (aCons (xSlA (xVar 4) (xPart (xVar 6)) xNoP) aNil))))
def t__law_parted_right_2 : DTS := (sAugI 7 (xVar 9) (rtI0 fun i j => .int (i + j)) (xC (.int 1)))
def t__law_parted_right_3 : DTS := (sFor (iSeq (xSlA (xVar 4) xNoP (xPart (xVar 6)))) (gSq 2 (gCn (gNm false 8) (gCn (gNm false 9) gNl)))
 t__law_parted_right_2)
def t__law_parted_right_4 : DTS := (sSeq (sSet false 10 (xBor (xCall sp_waiting [none, none, none] (aCons (xCall sp__law_made [none, none, none] (aCons (xVar 1) (aCons (xVar 5) (aCons (xOp oSub (xCB rnLen (aCons (xVar 4) aNil)) (xVar 6)) aNil)))) (aCons (xVar 2) (aCons (xVar 7) aNil))))))
t__law_parted_right_1)
def t__law_parted_right_5 : DTS := (sSeq t__law_parted_right_3
t__law_parted_right_4)
def t__law_parted_right : DTS := (sSeq (sPar3 false false true 5 6 7 (aCons (xCB rnLen (aCons (xVar 3) aNil)) (aCons (xCall sp__law_take [some 0, none] (aLend 0 (aCons (xOp rtAdd (xCB rnLen (aCons (xVar 4) aNil)) (xC (.int 1))) aNil))) (aCons (xCB rnList (aCons (xVar 3) aNil)) aNil))))
t__law_parted_right_5)
def t__law_right_1 : DTS := (sIf (xBorT (xB (xOp (rtEq true) (xCB rnSortedI (aCons (xVar 11) aNil)) (xOp rtAdd (xOp rtMul (xLst (aCons (xC (.int 0)) aNil)) (xOp rtAdd (xOp oSub (xVar 5) (xCB rnLen (aCons (xVar 10) aNil))) (xCB rnLen (aCons (xVar 7) aNil)))) (xOp rtMul (xLst (aCons (xC (.int 1)) aNil)) (xOp oSub (xCB rnLen (aCons (xVar 10) aNil)) (xCB rnLen (aCons (xVar 7) aNil))))))))
 (sRet (xC (.bl false)))
 sNext)
def t__law_right_2 : DTS := (sRet (xCall sp__law_parted_right [some 0, none, none, none, none] (aLend 0 (aCons (xVar 2) (aCons (xVar 3) (aCons (xVar 4) (aCons (xFrz 7) aNil)))))))
def t__law_right_3 : DTS := (sSeq t__law_right_1
t__law_right_2)
def t__law_right_4 : DTS := (sIf (xBorT (xOr (xB (xOp (rtEq true) (xSlA (xVar 10) xNoP (xPart (xCB rnLen (aCons (xVar 7) aNil)))) (xVar 7))) (xB (xOp (rtEq true) (xCB rnLen (aCons (xVar 10) aNil)) (xOp rtAdd (xCB rnLen (aCons (xVar 7) aNil)) (xCB rnInt2 (aCons (xOp oGe (xCB rnMaxL (aCons (xSlA (xVar 3) xNoP (xPart (xVar 5))) aNil)) (xOp rtIx (xVar 8) (xC (.int 1)))) aNil)))))))
 (sRet (xC (.bl false)))
 sNext)
def t__law_right_5 : DTS := (sSeq (sSet false 11 (xLc (iZp (aCons (xCall sp_evened_by [none, none] (aCons (xVar 1) (aCons (xVar 8) aNil))) (aCons (xCall sp_evened_by [none, none] (aCons (xVar 9) (aCons (xCall sp_evening [none, none, none] (aCons (xVar 9) (aCons (xVar 3) (aCons (xVar 4) aNil)))) aNil))) aNil))) (gSq 2 (gCn (gNm false 12) (gCn (gNm false 13) gNl))) xYes (xOp oSub (xVar 13) (xVar 12)) [12, 13]))
t__law_right_3)
def t__law_right_6 : DTS := (sSeq t__law_right_4
t__law_right_5)
def t__law_right_7 : DTS := (sSeq (sSet false 10 (xCall sp_waiting [none, none, none] (aCons (xVar 9) (aCons (xVar 3) (aCons (xVar 4) aNil)))))
t__law_right_6)
def t__law_right_8 : DTS := (sIf (xBorT (xOr (xNot (xTru (xCall sp__law_alike [none, none] (aCons (xVar 7) (aCons (xVar 6) aNil))))) (xB (xOp (rtEq true) (xLc (iSeq (xOp rtIx (xVar 8) (xC (.int 2)))) (gSq 2 (gCn (gNm false 14) (gCn (gNm false 15) gNl))) xYes (xTup (aCons (xOp rtIx (xVar 14) (xVar 15)) (aCons (xVar 15) aNil))) [14, 15]) (xVar 7)))))
 (sRet (xC (.bl false)))
 sNext)
def t__law_right_9 : DTS := (sSeq (sSet false 9 (xCall sp__law_made [none, none, none] (aCons (xVar 2) (aCons (xVar 5) (aCons (xOp rtAdd (xDGet (xVar 2) (xC (.str "seats"))) (xC (.int 1))) aNil)))))
t__law_right_7)
def t__law_right_10 : DTS := (sSeq t__law_right_8
t__law_right_9)
def t__law_right_11 : DTS := (sSeq (sSet false 8 (xCall sp_evening [none, none, none] (aCons (xVar 1) (aCons (xVar 3) (aCons (xVar 4) aNil)))))
t__law_right_10)
def t__law_right_12 : DTS := (sSeq (sSet true 7 (xCall sp_waiting [none, none, none] (aCons (xVar 1) (aCons (xVar 3) (aCons (xVar 4) aNil)))))
t__law_right_11)
def t__law_right_13 : DTS := (sIf (xBorT (xNot (xTru (xCall sp__law_alike [none, none] (aCons (xVar 7) (aCons (xVar 6) aNil))))))
 (sRet (xC (.bl false)))
 sNext)
def t__law_right_14 : DTS := (sSeq (sDrop (xApp 7 (xC .non)))
t__law_right_12)
def t__law_right_15 : DTS := (sSeq t__law_right_13
t__law_right_14)
def t__law_right_16 : DTS := (sSeq (sSet true 7 (xCall sp_waiting [none, none, none] (aCons (xVar 1) (aCons (xVar 3) (aCons (xVar 4) aNil)))))
t__law_right_15)
def t__law_right : DTS := (sSeq (sPar 5 6 (aCons (xCB rnLen (aCons (xVar 4) aNil)) (aCons (xCall sp__law_due [none, none, none] (aCons (xVar 2) (aCons (xVar 3) (aCons (xVar 4) aNil)))) aNil)))
t__law_right_16)
def t_law_1 : DTS := (sIf (xNot (xTru (xCall sp__law_right [some 1, none, none, none, none] (aLend 1 (aCons (xVar 7) (aCons (xVar 5) (aCons (xVar 9) (aCons (xVar 10) aNil))))))))
 (sRet (xC (.bl false)))
 sNext)
def t_law_2 : DTS := t_law_1
def t_law_3 : DTS := (sFor (iSeq (xOp rtAdd (xFrz 6) (xSlA (xFrz 6) xNoP (xPart (xC (.int 1)))))) (gSq 2 (gCn (gNm false 9) (gCn (gNm false 10) gNl)))
 t_law_2)
def t_law_4 : DTS := (sDrop (xApp 6 (xTup (aCons (xCall sp__law_many [some 1, none] (aLend 1 (aCons (xVar 4) aNil))) (aCons (xLc (iRange1 (aCons (xVar 4) aNil)) (gNm false 11) xYes (xCall sp__law_one [some 1, none] (aLend 1 (aCons (xLst (aCons (xC (.int 0)) (aCons (xC (.int 0)) (aCons (xC (.int 1)) (aCons (xC (.int 3)) (aCons (xC (.int 30)) aNil)))))) aNil))) [11]) aNil)))))
def t_law_5 : DTS := (sFor (iRange1 (aCons (xC (.int 2)) aNil)) (gNm false 8)
 t_law_4)
def t_law_6 : DTS := t_law_3
def t_law_7 : DTS := (sSeq t_law_5
t_law_6)
def t_law_8 : DTS := (sSeq (sSet false 7 (xCall sp__law_made [none, none, none] (aCons (xVar 5) (aCons (xVar 4) (aCons (xDGet (xVar 5) (xC (.str "seats"))) aNil)))))
t_law_7)
def t_law_9 : DTS := (sSeq (sParO false true 5 6 (aCons (xCall sp__law_numbers [some 1, none, none] (aLend 1 (aCons (xVar 4) (aCons (xCall sp__law_take [some 1, none] (aLend 1 (aCons (xIte (xTru (xVar 3)) (xC (.int 41)) (xC (.int 11))) aNil))) aNil)))) (aCons (xLst aNil) aNil)))
t_law_8)
def t_law_10 : DTS := (sSeq (sSet false 4 (xOp rtAdd (xC (.int 1)) (xCall sp__law_take [some 1, none] (aLend 1 (aCons (xIte (xTru (xVar 3)) (xC (.int 12)) (xC (.int 6))) aNil)))))
t_law_9)
def t_law_11 : DTS := (sSeq (sSet false 3 (xOp (rtEq false) (xCall sp__law_take [some 1, none] (aLend 1 (aCons (xC (.int 8)) aNil))) (xC (.int 7))))
t_law_10)
def t_law_12 : DTS := (sFor (iRange1 (aCons (xC (.int 2)) aNil)) (gNm false 2)
 t_law_11)
def t_law_13 : DTS := (sRet (xC (.bl true)))
def t_law_14 : DTS := (sSeq t_law_12
t_law_13)
def t_law : DTS := (sSeq (sSet true 1 (xCall sp__law_bag [none] (aCons (xVar 0) aNil)))
t_law_14)
end L72
set_option Elab.async false
set_option linter.all false
set_option maxRecDepth 100000
set_option maxHeartbeats 4000000
namespace L72
open PySem L2 DL
variable [Kls]
theorem rd__law_bag {ts : List T} {Q : T → List T → Prop} {E : Value → List (Str × V) → List T → Prop} (h : sp__law_bag ts Q E) : t__law_bag (bodyEnds [false] Q E) (startE 2 (frzP [false] ts)) := by
  obtain ⟨ns, rfl, h1, q⟩ := h
  (try simp only [np_t, np_f, np_n, ne_c, ne_n, ne_0, nf_leaf, nf_pin, nf_node])
  (repeat (first | (refine Nx.mk ?_; (try (dsimp only [nr_none, nr_some, nr_nil, nf_leaf, nf_pin, nf_node, nf_nil, nf_cons, ni_f, ni_t, nw_nil, nw_cons, ns_0, ns_s]))) | (refine And.intro ?_ ?_; focus (first | exact rfl | exact frz_frz _ | exact frz_nf _ _ | exact (show frz _ = _ by assumption) | (show frz _ = _; simp only [nf_node, nf_cons, nf_nil, nf_leaf, frzL_frzL, intsT_frz]; done) | exact frz_ints _ _ | exact Nat.le_of_ble_eq_true rfl | exact (show (0 : Int) < _ by decide) | exact (show (0 : Int) ≤ _ by decide) | exact ⟨show (0 : Int) < _ by decide, show Nat.log2 _ < _ by decide⟩ | exact Or.inl (Or.inr ⟨show (_ : Int) < _ by decide, show (_ : Int) < _ by decide⟩) | exact Or.inl (Or.inl ⟨show (_ : Int) < _ by decide, show (_ : Int) < _ by decide⟩) | exact ⟨show (0 : Int) ≤ _ by decide, show (_ : Int) ≤ _ by decide, show Int.natAbs _ < _ by decide⟩)) | refine Exists.intro _ (Exists.intro _ (And.intro rfl (And.intro rfl ?_))) | refine Exists.intro _ (And.intro (Le.rf _) ?_) | refine Exists.intro _ (And.intro rfl ?_)))
  have e0 : (cutA (ns.map V.int) none (some 63)).map T.leaf = intsT (cutA ns none (some 63)) := by
    unfold cutA
    simp only [intsT, List.length_map, List.map_take, List.map_drop, List.map_map]
    rfl
  have hl : (intsT (cutA ns none (some 63))).length ≤ 63 := by
    have := cutA_length_le ns none (some 63)
    simp only [intsT, List.length_map]
    omega
  refine Lc.fm (fun t => match t with | .leaf (.int i) => some (.leaf (.int (if i < 0 then -i else i))) | _ => none) ?_ (fun t ht acc R' ha h1 h0 => ?_) ?_
  · rw [e0, intsT_frz]
    exact Nat.le_trans hl (by decide)
  · rw [e0, intsT_frz] at ht
    obtain ⟨i, _, rfl⟩ := List.mem_map.mp ht
    (repeat (first | (refine Nx.mk ?_; (try (dsimp only [nr_none, nr_some, nr_nil, nf_leaf, nf_pin, nf_node, nf_nil, nf_cons, ni_f, ni_t, nw_nil, nw_cons, ns_0, ns_s]))) | (refine And.intro ?_ ?_; focus (first | exact rfl | exact frz_frz _ | exact frz_nf _ _ | exact (show frz _ = _ by assumption) | (show frz _ = _; simp only [nf_node, nf_cons, nf_nil, nf_leaf, frzL_frzL, intsT_frz]; done) | exact frz_ints _ _ | exact Nat.le_of_ble_eq_true rfl | exact (show (0 : Int) < _ by decide) | exact (show (0 : Int) ≤ _ by decide) | exact ⟨show (0 : Int) < _ by decide, show Nat.log2 _ < _ by decide⟩ | exact Or.inl (Or.inr ⟨show (_ : Int) < _ by decide, show (_ : Int) < _ by decide⟩) | exact Or.inl (Or.inl ⟨show (_ : Int) < _ by decide, show (_ : Int) < _ by decide⟩) | exact ⟨show (0 : Int) ≤ _ by decide, show (_ : Int) ≤ _ by decide, show Int.natAbs _ < _ by decide⟩)) | refine Exists.intro _ (Exists.intro _ (And.intro rfl (And.intro rfl ?_))) | refine Exists.intro _ (And.intro (Le.rf _) ?_) | refine Exists.intro _ (And.intro rfl ?_)))
    exact And.intro ha (h1 _ rfl)
  · rw [e0, intsT_frz]
    have e1 : (intsT (cutA ns none (some 63))).filterMap (fun t => match t with | .leaf (.int i) => some (.leaf (.int (if i < 0 then -i else i))) | _ => none) = intsT ((cutA ns none (some 63)).map fun i => if i < 0 then -i else i) := by
      generalize cutA ns none (some 63) = l
      induction l with
      | nil => rfl
      | cons x l ih =>
        simp only [intsT, List.map_cons] at ih ⊢
        rw [List.filterMap_cons]
        simp only [ih]
    rw [e1]
    (repeat (first | (refine Nx.mk ?_; (try (dsimp only [nr_none, nr_some, nr_nil, nf_leaf, nf_pin, nf_node, nf_nil, nf_cons, ni_f, ni_t, nw_nil, nw_cons, ns_0, ns_s]))) | (refine And.intro ?_ ?_; focus (first | exact rfl | exact frz_frz _ | exact frz_nf _ _ | exact (show frz _ = _ by assumption) | (show frz _ = _; simp only [nf_node, nf_cons, nf_nil, nf_leaf, frzL_frzL, intsT_frz]; done) | exact frz_ints _ _ | exact Nat.le_of_ble_eq_true rfl | exact (show (0 : Int) < _ by decide) | exact (show (0 : Int) ≤ _ by decide) | exact ⟨show (0 : Int) < _ by decide, show Nat.log2 _ < _ by decide⟩ | exact Or.inl (Or.inr ⟨show (_ : Int) < _ by decide, show (_ : Int) < _ by decide⟩) | exact Or.inl (Or.inl ⟨show (_ : Int) < _ by decide, show (_ : Int) < _ by decide⟩) | exact ⟨show (0 : Int) ≤ _ by decide, show (_ : Int) ≤ _ by decide, show Int.natAbs _ < _ by decide⟩)) | refine Exists.intro _ (Exists.intro _ (And.intro rfl (And.intro rfl ?_))) | refine Exists.intro _ (And.intro (Le.rf _) ?_) | refine Exists.intro _ (And.intro rfl ?_)))
    refine q _ ⟨0, 1234567891, 0, true, _, rfl, by decide, by decide, by decide, by decide, ?_, ?_⟩
    · rw [List.length_map]
      simp only [intsT, List.length_map] at hl
      exact hl
    · intro x hx
      obtain ⟨i, _, rfl⟩ := List.mem_map.mp hx
      split <;> omega
theorem frz_lints (o : Bool) (cells : List Int) : frz (.node o .lst (intsT cells)) = .node false .lst (intsT cells) := by
  show T.node false .lst (frzL (intsT cells)) = _
  rw [intsT_frz]
theorem take_low {n : Int} {bag : T} {g4 g5 g6 : Option T} {Q : T → List T → Prop} {E : Value → List (Str × V) → List T → Prop} (hb : IsBag bag) (h2 : 0 < n) (h3 : n < 2 ^ 62 ∨ n.natAbs.log2 < 9000)
    (q : ∀ (r : Int) (bag' : T), 0 ≤ r → r < n → IsBag bag' → Q (.leaf (.int r)) [bag']) : t__law_take_15 (bodyEnds [true, false] Q E) [some bag, some (.leaf (.int n)), none, none, g4, g5, g6] := by
  obtain ⟨a, c, d, o, cells, rfl, k1, k2, k3, k4, k5, k6⟩ := hb
  (repeat (first | (refine Nx.mk ?_; (try (dsimp only [nr_none, nr_some, nr_nil, nf_leaf, nf_pin, nf_node, nf_nil, nf_cons, ni_f, ni_t, nw_nil, nw_cons, ns_0, ns_s]))) | (refine And.intro ?_ ?_; focus (first | exact rfl | exact frz_frz _ | exact frz_nf _ _ | exact (show frz _ = _ by assumption) | (show frz _ = _; simp only [nf_node, nf_cons, nf_nil, nf_leaf, frzL_frzL, intsT_frz]; done) | exact frz_ints _ _ | exact Nat.le_of_ble_eq_true rfl | exact (show (0 : Int) < _ by decide) | exact (show (0 : Int) ≤ _ by decide) | exact ⟨show (0 : Int) < _ by decide, show Nat.log2 _ < _ by decide⟩ | exact Or.inl (Or.inr ⟨show (_ : Int) < _ by decide, show (_ : Int) < _ by decide⟩) | exact Or.inl (Or.inl ⟨show (_ : Int) < _ by decide, show (_ : Int) < _ by decide⟩) | exact ⟨show (0 : Int) ≤ _ by decide, show (_ : Int) ≤ _ by decide, show Int.natAbs _ < _ by decide⟩)) | refine Exists.intro _ (Exists.intro _ (And.intro rfl (And.intro rfl ?_))) | refine Exists.intro _ (And.intro (Le.rf _) ?_) | refine Exists.intro _ (And.intro rfl ?_)))
  refine ifB_dec (fun hb => ?_) (fun hb => ?_)
  · (repeat (first | (refine Nx.mk ?_; (try (dsimp only [nr_none, nr_some, nr_nil, nf_leaf, nf_pin, nf_node, nf_nil, nf_cons, ni_f, ni_t, nw_nil, nw_cons, ns_0, ns_s]))) | (refine And.intro ?_ ?_; focus (first | exact rfl | exact frz_frz _ | exact frz_nf _ _ | exact (show frz _ = _ by assumption) | (show frz _ = _; simp only [nf_node, nf_cons, nf_nil, nf_leaf, frzL_frzL, intsT_frz]; done) | exact frz_ints _ _ | exact Nat.le_of_ble_eq_true rfl | exact (show (0 : Int) < _ by decide) | exact (show (0 : Int) ≤ _ by decide) | exact ⟨show (0 : Int) < _ by decide, show Nat.log2 _ < _ by decide⟩ | exact Or.inl (Or.inr ⟨show (_ : Int) < _ by decide, show (_ : Int) < _ by decide⟩) | exact Or.inl (Or.inl ⟨show (_ : Int) < _ by decide, show (_ : Int) < _ by decide⟩) | exact ⟨show (0 : Int) ≤ _ by decide, show (_ : Int) ≤ _ by decide, show Int.natAbs _ < _ by decide⟩)) | refine Exists.intro _ (Exists.intro _ (And.intro rfl (And.intro rfl ?_))) | refine Exists.intro _ (And.intro (Le.rf _) ?_) | refine Exists.intro _ (And.intro rfl ?_)))
    refine And.intro h2 ?_
    (repeat (first | (refine Nx.mk ?_; (try (dsimp only [nr_none, nr_some, nr_nil, nf_leaf, nf_pin, nf_node, nf_nil, nf_cons, ni_f, ni_t, nw_nil, nw_cons, ns_0, ns_s]))) | (refine And.intro ?_ ?_; focus (first | exact rfl | exact frz_frz _ | exact frz_nf _ _ | exact (show frz _ = _ by assumption) | (show frz _ = _; simp only [nf_node, nf_cons, nf_nil, nf_leaf, frzL_frzL, intsT_frz]; done) | exact frz_ints _ _ | exact Nat.le_of_ble_eq_true rfl | exact (show (0 : Int) < _ by decide) | exact (show (0 : Int) ≤ _ by decide) | exact ⟨show (0 : Int) < _ by decide, show Nat.log2 _ < _ by decide⟩ | exact Or.inl (Or.inr ⟨show (_ : Int) < _ by decide, show (_ : Int) < _ by decide⟩) | exact Or.inl (Or.inl ⟨show (_ : Int) < _ by decide, show (_ : Int) < _ by decide⟩) | exact ⟨show (0 : Int) ≤ _ by decide, show (_ : Int) ≤ _ by decide, show Int.natAbs _ < _ by decide⟩)) | refine Exists.intro _ (Exists.intro _ (And.intro rfl (And.intro rfl ?_))) | refine Exists.intro _ (And.intro (Le.rf _) ?_) | refine Exists.intro _ (And.intro rfl ?_)))
    refine And.intro ⟨h2, h3.elim (fun h3 => Nat.lt_of_lt_of_le (PySem.Flt.log2_lt_of (k := 62) (by decide) (by omega)) (by decide)) id⟩ ?_
    (repeat (first | (refine Nx.mk ?_; (try (dsimp only [nr_none, nr_some, nr_nil, nf_leaf, nf_pin, nf_node, nf_nil, nf_cons, ni_f, ni_t, nw_nil, nw_cons, ns_0, ns_s]))) | (refine And.intro ?_ ?_; focus (first | exact rfl | exact frz_frz _ | exact frz_nf _ _ | exact (show frz _ = _ by assumption) | (show frz _ = _; simp only [nf_node, nf_cons, nf_nil, nf_leaf, frzL_frzL, intsT_frz]; done) | exact frz_ints _ _ | exact Nat.le_of_ble_eq_true rfl | exact (show (0 : Int) < _ by decide) | exact (show (0 : Int) ≤ _ by decide) | exact ⟨show (0 : Int) < _ by decide, show Nat.log2 _ < _ by decide⟩ | exact Or.inl (Or.inr ⟨show (_ : Int) < _ by decide, show (_ : Int) < _ by decide⟩) | exact Or.inl (Or.inl ⟨show (_ : Int) < _ by decide, show (_ : Int) < _ by decide⟩) | exact ⟨show (0 : Int) ≤ _ by decide, show (_ : Int) ≤ _ by decide, show Int.natAbs _ < _ by decide⟩)) | refine Exists.intro _ (Exists.intro _ (And.intro rfl (And.intro rfl ?_))) | refine Exists.intro _ (And.intro (Le.rf _) ?_) | refine Exists.intro _ (And.intro rfl ?_)))
    exact q _ _ (Int.emod_nonneg _ (by omega)) (Int.emod_lt_of_pos _ h2) ⟨_, _, _, _, cells, rfl, Int.ediv_nonneg k1 (by omega), k2, k3, k4, k5, k6⟩
  · (repeat (first | (refine Nx.mk ?_; (try (dsimp only [nr_none, nr_some, nr_nil, nf_leaf, nf_pin, nf_node, nf_nil, nf_cons, ni_f, ni_t, nw_nil, nw_cons, ns_0, ns_s]))) | (refine And.intro ?_ ?_; focus (first | exact rfl | exact frz_frz _ | exact frz_nf _ _ | exact (show frz _ = _ by assumption) | (show frz _ = _; simp only [nf_node, nf_cons, nf_nil, nf_leaf, frzL_frzL, intsT_frz]; done) | exact frz_ints _ _ | exact Nat.le_of_ble_eq_true rfl | exact (show (0 : Int) < _ by decide) | exact (show (0 : Int) ≤ _ by decide) | exact ⟨show (0 : Int) < _ by decide, show Nat.log2 _ < _ by decide⟩ | exact Or.inl (Or.inr ⟨show (_ : Int) < _ by decide, show (_ : Int) < _ by decide⟩) | exact Or.inl (Or.inl ⟨show (_ : Int) < _ by decide, show (_ : Int) < _ by decide⟩) | exact ⟨show (0 : Int) ≤ _ by decide, show (_ : Int) ≤ _ by decide, show Int.natAbs _ < _ by decide⟩)) | refine Exists.intro _ (Exists.intro _ (And.intro rfl (And.intro rfl ?_))) | refine Exists.intro _ (And.intro (Le.rf _) ?_) | refine Exists.intro _ (And.intro rfl ?_)))
    (conv => whnf)
    refine And.intro (.inl (.inl ⟨?_, ?_⟩)) ?_
    · exact Int.lt_of_lt_of_le (by decide) (Int.emod_nonneg _ (by decide))
    · exact Int.lt_trans (Int.emod_lt_of_pos _ (by decide)) (by decide)
    (repeat (first | (refine Nx.mk ?_; (try (dsimp only [nr_none, nr_some, nr_nil, nf_leaf, nf_pin, nf_node, nf_nil, nf_cons, ni_f, ni_t, nw_nil, nw_cons, ns_0, ns_s]))) | (refine And.intro ?_ ?_; focus (first | exact rfl | exact frz_frz _ | exact frz_nf _ _ | exact (show frz _ = _ by assumption) | (show frz _ = _; simp only [nf_node, nf_cons, nf_nil, nf_leaf, frzL_frzL, intsT_frz]; done) | exact frz_ints _ _ | exact Nat.le_of_ble_eq_true rfl | exact (show (0 : Int) < _ by decide) | exact (show (0 : Int) ≤ _ by decide) | exact ⟨show (0 : Int) < _ by decide, show Nat.log2 _ < _ by decide⟩ | exact Or.inl (Or.inr ⟨show (_ : Int) < _ by decide, show (_ : Int) < _ by decide⟩) | exact Or.inl (Or.inl ⟨show (_ : Int) < _ by decide, show (_ : Int) < _ by decide⟩) | exact ⟨show (0 : Int) ≤ _ by decide, show (_ : Int) ≤ _ by decide, show Int.natAbs _ < _ by decide⟩)) | refine Exists.intro _ (Exists.intro _ (And.intro rfl (And.intro rfl ?_))) | refine Exists.intro _ (And.intro (Le.rf _) ?_) | refine Exists.intro _ (And.intro rfl ?_)))
    refine And.intro h2 ?_
    (repeat (first | (refine Nx.mk ?_; (try (dsimp only [nr_none, nr_some, nr_nil, nf_leaf, nf_pin, nf_node, nf_nil, nf_cons, ni_f, ni_t, nw_nil, nw_cons, ns_0, ns_s]))) | (refine And.intro ?_ ?_; focus (first | exact rfl | exact frz_frz _ | exact frz_nf _ _ | exact (show frz _ = _ by assumption) | (show frz _ = _; simp only [nf_node, nf_cons, nf_nil, nf_leaf, frzL_frzL, intsT_frz]; done) | exact frz_ints _ _ | exact Nat.le_of_ble_eq_true rfl | exact (show (0 : Int) < _ by decide) | exact (show (0 : Int) ≤ _ by decide) | exact ⟨show (0 : Int) < _ by decide, show Nat.log2 _ < _ by decide⟩ | exact Or.inl (Or.inr ⟨show (_ : Int) < _ by decide, show (_ : Int) < _ by decide⟩) | exact Or.inl (Or.inl ⟨show (_ : Int) < _ by decide, show (_ : Int) < _ by decide⟩) | exact ⟨show (0 : Int) ≤ _ by decide, show (_ : Int) ≤ _ by decide, show Int.natAbs _ < _ by decide⟩)) | refine Exists.intro _ (Exists.intro _ (And.intro rfl (And.intro rfl ?_))) | refine Exists.intro _ (And.intro (Le.rf _) ?_) | refine Exists.intro _ (And.intro rfl ?_)))
    refine q _ _ (Int.emod_nonneg _ (by omega)) (Int.emod_lt_of_pos _ h2) ⟨a, c, d, o, cells, rfl, k1, k2, k3, k4, k5, k6⟩
theorem take_refill {n : Int} {D : DEnds} {a c d x : Int} {o : Bool} {cells : List Int} (k1 : 0 ≤ a) (k2 : 0 ≤ c) (k3 : c < 2147483647) (k4 : 0 ≤ d) (k5 : cells.length ≤ 63) (k6 : ∀ x ∈ cells, 0 ≤ x) (x0 : 0 ≤ x)
    (hD : ∀ bag' g4 g5, IsBag bag' → D.nx [some bag', some (.leaf (.int n)), none, none, g4, g5, none]) : Nx t__law_take_12 D [some (.node true .lst [.leaf (.int a), .leaf (.int c), .leaf (.int d), .node o .lst (intsT cells)]), some (.leaf (.int n)), none, none, some (.leaf (.int x)), none, none] := by
  refine Nx.mk ?_
  unfold t__law_take_12
  (repeat (first | (refine Nx.mk ?_; (try (dsimp only [nr_none, nr_some, nr_nil, nf_leaf, nf_pin, nf_node, nf_nil, nf_cons, ni_f, ni_t, nw_nil, nw_cons, ns_0, ns_s]))) | (refine And.intro ?_ ?_; focus (first | exact rfl | exact frz_frz _ | exact frz_nf _ _ | exact (show frz _ = _ by assumption) | (show frz _ = _; simp only [nf_node, nf_cons, nf_nil, nf_leaf, frzL_frzL, intsT_frz]; done) | exact frz_ints _ _ | exact Nat.le_of_ble_eq_true rfl | exact (show (0 : Int) < _ by decide) | exact (show (0 : Int) ≤ _ by decide) | exact ⟨show (0 : Int) < _ by decide, show Nat.log2 _ < _ by decide⟩ | exact Or.inl (Or.inr ⟨show (_ : Int) < _ by decide, show (_ : Int) < _ by decide⟩) | exact Or.inl (Or.inl ⟨show (_ : Int) < _ by decide, show (_ : Int) < _ by decide⟩) | exact ⟨show (0 : Int) ≤ _ by decide, show (_ : Int) ≤ _ by decide, show Int.natAbs _ < _ by decide⟩)) | refine Exists.intro _ (Exists.intro _ (And.intro rfl (And.intro rfl ?_))) | refine Exists.intro _ (And.intro (Le.rf _) ?_) | refine Exists.intro _ (And.intro rfl ?_)))
  (conv => whnf)
  refine ifB_dec (fun hx => ?_) (fun hx => ?_)
  · (repeat (first | (refine Nx.mk ?_; (try (dsimp only [nr_none, nr_some, nr_nil, nf_leaf, nf_pin, nf_node, nf_nil, nf_cons, ni_f, ni_t, nw_nil, nw_cons, ns_0, ns_s]))) | (refine And.intro ?_ ?_; focus (first | exact rfl | exact frz_frz _ | exact frz_nf _ _ | exact (show frz _ = _ by assumption) | (show frz _ = _; simp only [nf_node, nf_cons, nf_nil, nf_leaf, frzL_frzL, intsT_frz]; done) | exact frz_ints _ _ | exact Nat.le_of_ble_eq_true rfl | exact (show (0 : Int) < _ by decide) | exact (show (0 : Int) ≤ _ by decide) | exact ⟨show (0 : Int) < _ by decide, show Nat.log2 _ < _ by decide⟩ | exact Or.inl (Or.inr ⟨show (_ : Int) < _ by decide, show (_ : Int) < _ by decide⟩) | exact Or.inl (Or.inl ⟨show (_ : Int) < _ by decide, show (_ : Int) < _ by decide⟩) | exact ⟨show (0 : Int) ≤ _ by decide, show (_ : Int) ≤ _ by decide, show Int.natAbs _ < _ by decide⟩)) | refine Exists.intro _ (Exists.intro _ (And.intro rfl (And.intro rfl ?_))) | refine Exists.intro _ (And.intro (Le.rf _) ?_) | refine Exists.intro _ (And.intro rfl ?_)))
    exact hD (.node true .lst [.leaf (.int x), .leaf (.int ((c * 48271 + x % 2147483647 + 7919 * (d + 1)) % 2147483647)), .leaf (.int (d + 1)), .node o .lst (intsT cells)]) _ _ ⟨x, _, d + 1, o, cells, rfl, x0, Int.emod_nonneg _ (by decide), Int.emod_lt_of_pos _ (by decide), by omega, k5, k6⟩
  · (conv => whnf)
    refine Nx.mk ?_
    (repeat (first | (refine Nx.mk ?_; (try (dsimp only [nr_none, nr_some, nr_nil, nf_leaf, nf_pin, nf_node, nf_nil, nf_cons, ni_f, ni_t, nw_nil, nw_cons, ns_0, ns_s]))) | (refine And.intro ?_ ?_; focus (first | exact rfl | exact frz_frz _ | exact frz_nf _ _ | exact (show frz _ = _ by assumption) | (show frz _ = _; simp only [nf_node, nf_cons, nf_nil, nf_leaf, frzL_frzL, intsT_frz]; done) | exact frz_ints _ _ | exact Nat.le_of_ble_eq_true rfl | exact (show (0 : Int) < _ by decide) | exact (show (0 : Int) ≤ _ by decide) | exact ⟨show (0 : Int) < _ by decide, show Nat.log2 _ < _ by decide⟩ | exact Or.inl (Or.inr ⟨show (_ : Int) < _ by decide, show (_ : Int) < _ by decide⟩) | exact Or.inl (Or.inl ⟨show (_ : Int) < _ by decide, show (_ : Int) < _ by decide⟩) | exact ⟨show (0 : Int) ≤ _ by decide, show (_ : Int) ≤ _ by decide, show Int.natAbs _ < _ by decide⟩)) | refine Exists.intro _ (Exists.intro _ (And.intro rfl (And.intro rfl ?_))) | refine Exists.intro _ (And.intro (Le.rf _) ?_) | refine Exists.intro _ (And.intro rfl ?_)))
    exact hD (.node true .lst [.leaf (.int a), .leaf (.int ((c * 48271 + x % 2147483647 + 7919 * (d + 1)) % 2147483647)), .leaf (.int (d + 1)), .node o .lst (intsT cells)]) _ _ ⟨a, _, d + 1, o, cells, rfl, k1, Int.emod_nonneg _ (by decide), Int.emod_lt_of_pos _ (by decide), by omega, k5, k6⟩
theorem take_high {n : Int} {bag : T} {D : DEnds} (hb : IsBag bag) (hD : ∀ bag' g4 g5, IsBag bag' → D.nx [some bag', some (.leaf (.int n)), none, none, g4, g5, none]) : t__law_take_14 D [some bag, some (.leaf (.int n)), none, none, none, none, none] := by
  obtain ⟨a, c, d, o, cells, rfl, k1, k2, k3, k4, k5, k6⟩ := hb
  (repeat (first | (refine Nx.mk ?_; (try (dsimp only [nr_none, nr_some, nr_nil, nf_leaf, nf_pin, nf_node, nf_nil, nf_cons, ni_f, ni_t, nw_nil, nw_cons, ns_0, ns_s]))) | (refine And.intro ?_ ?_; focus (first | exact rfl | exact frz_frz _ | exact frz_nf _ _ | exact (show frz _ = _ by assumption) | (show frz _ = _; simp only [nf_node, nf_cons, nf_nil, nf_leaf, frzL_frzL, intsT_frz]; done) | exact frz_ints _ _ | exact Nat.le_of_ble_eq_true rfl | exact (show (0 : Int) < _ by decide) | exact (show (0 : Int) ≤ _ by decide) | exact ⟨show (0 : Int) < _ by decide, show Nat.log2 _ < _ by decide⟩ | exact Or.inl (Or.inr ⟨show (_ : Int) < _ by decide, show (_ : Int) < _ by decide⟩) | exact Or.inl (Or.inl ⟨show (_ : Int) < _ by decide, show (_ : Int) < _ by decide⟩) | exact ⟨show (0 : Int) ≤ _ by decide, show (_ : Int) ≤ _ by decide, show Int.natAbs _ < _ by decide⟩)) | refine Exists.intro _ (Exists.intro _ (And.intro rfl (And.intro rfl ?_))) | refine Exists.intro _ (And.intro (Le.rf _) ?_) | refine Exists.intro _ (And.intro rfl ?_)))
  refine ifB_dec (fun hb => ?_) (fun hb => ?_)
  · (repeat (first | (refine Nx.mk ?_; (try (dsimp only [nr_none, nr_some, nr_nil, nf_leaf, nf_pin, nf_node, nf_nil, nf_cons, ni_f, ni_t, nw_nil, nw_cons, ns_0, ns_s]))) | (refine And.intro ?_ ?_; focus (first | exact rfl | exact frz_frz _ | exact frz_nf _ _ | exact (show frz _ = _ by assumption) | (show frz _ = _; simp only [nf_node, nf_cons, nf_nil, nf_leaf, frzL_frzL, intsT_frz]; done) | exact frz_ints _ _ | exact Nat.le_of_ble_eq_true rfl | exact (show (0 : Int) < _ by decide) | exact (show (0 : Int) ≤ _ by decide) | exact ⟨show (0 : Int) < _ by decide, show Nat.log2 _ < _ by decide⟩ | exact Or.inl (Or.inr ⟨show (_ : Int) < _ by decide, show (_ : Int) < _ by decide⟩) | exact Or.inl (Or.inl ⟨show (_ : Int) < _ by decide, show (_ : Int) < _ by decide⟩) | exact ⟨show (0 : Int) ≤ _ by decide, show (_ : Int) ≤ _ by decide, show Int.natAbs _ < _ by decide⟩)) | refine Exists.intro _ (Exists.intro _ (And.intro rfl (And.intro rfl ?_))) | refine Exists.intro _ (And.intro (Le.rf _) ?_) | refine Exists.intro _ (And.intro rfl ?_)))
    (conv => whnf)
    refine ifB_dec (fun hl => ?_) (fun hl => ?_)
    · (repeat (first | (refine Nx.mk ?_; (try (dsimp only [nr_none, nr_some, nr_nil, nf_leaf, nf_pin, nf_node, nf_nil, nf_cons, ni_f, ni_t, nw_nil, nw_cons, ns_0, ns_s]))) | (refine And.intro ?_ ?_; focus (first | exact rfl | exact frz_frz _ | exact frz_nf _ _ | exact (show frz _ = _ by assumption) | (show frz _ = _; simp only [nf_node, nf_cons, nf_nil, nf_leaf, frzL_frzL, intsT_frz]; done) | exact frz_ints _ _ | exact Nat.le_of_ble_eq_true rfl | exact (show (0 : Int) < _ by decide) | exact (show (0 : Int) ≤ _ by decide) | exact ⟨show (0 : Int) < _ by decide, show Nat.log2 _ < _ by decide⟩ | exact Or.inl (Or.inr ⟨show (_ : Int) < _ by decide, show (_ : Int) < _ by decide⟩) | exact Or.inl (Or.inl ⟨show (_ : Int) < _ by decide, show (_ : Int) < _ by decide⟩) | exact ⟨show (0 : Int) ≤ _ by decide, show (_ : Int) ≤ _ by decide, show Int.natAbs _ < _ by decide⟩)) | refine Exists.intro _ (Exists.intro _ (And.intro rfl (And.intro rfl ?_))) | refine Exists.intro _ (And.intro (Le.rf _) ?_) | refine Exists.intro _ (And.intro rfl ?_)))
      have hfz : frz (.node o .lst (intsT cells)) = .node false .lst (intsT cells) := by
        show T.node false .lst (frzL (intsT cells)) = _
        rw [intsT_frz]
      simp only [frz_frz, hfz, frz_lints]
      have hd : d.toNat < cells.length := by
        rw [intsT_frz] at hl
        simp only [intsT, List.length_map] at hl
        omega
      obtain ⟨e, rfl⟩ : ∃ e : Nat, d = (e : Int) := ⟨d.toNat, by omega⟩
      have hd : e < cells.length := hd
      have hat : atI (intsT cells) (e : Int) = some (.leaf (.int cells[e])) := by
        unfold atI
        rw [ixN_nat, if_pos (by simp only [intsT, List.length_map]; exact hd)]
        show (intsT cells)[e]? = _
        simp only [intsT, List.getElem?_map, List.getElem?_eq_getElem hd]
        rfl
      refine ⟨_, hat, ?_⟩
      exact take_refill (o := false) (x := cells[e]) k1 k2 k3 k4 k5 k6 (k6 _ (List.getElem_mem hd)) hD
    · (conv => whnf)
      have hfz : frz (.node o .lst (intsT cells)) = .node false .lst (intsT cells) := by
        show T.node false .lst (frzL (intsT cells)) = _
        rw [intsT_frz]
      simp only [frz_frz, hfz, frz_lints]
      exact take_refill (o := false) (x := 0) k1 k2 k3 k4 k5 k6 (by decide) hD
  · (repeat (first | (refine Nx.mk ?_; (try (dsimp only [nr_none, nr_some, nr_nil, nf_leaf, nf_pin, nf_node, nf_nil, nf_cons, ni_f, ni_t, nw_nil, nw_cons, ns_0, ns_s]))) | (refine And.intro ?_ ?_; focus (first | exact rfl | exact frz_frz _ | exact frz_nf _ _ | exact (show frz _ = _ by assumption) | (show frz _ = _; simp only [nf_node, nf_cons, nf_nil, nf_leaf, frzL_frzL, intsT_frz]; done) | exact frz_ints _ _ | exact Nat.le_of_ble_eq_true rfl | exact (show (0 : Int) < _ by decide) | exact (show (0 : Int) ≤ _ by decide) | exact ⟨show (0 : Int) < _ by decide, show Nat.log2 _ < _ by decide⟩ | exact Or.inl (Or.inr ⟨show (_ : Int) < _ by decide, show (_ : Int) < _ by decide⟩) | exact Or.inl (Or.inl ⟨show (_ : Int) < _ by decide, show (_ : Int) < _ by decide⟩) | exact ⟨show (0 : Int) ≤ _ by decide, show (_ : Int) ≤ _ by decide, show Int.natAbs _ < _ by decide⟩)) | refine Exists.intro _ (Exists.intro _ (And.intro rfl (And.intro rfl ?_))) | refine Exists.intro _ (And.intro (Le.rf _) ?_) | refine Exists.intro _ (And.intro rfl ?_)))
    exact hD _ none none ⟨a, c, d, o, cells, rfl, k1, k2, k3, k4, k5, k6⟩
theorem rd__law_take {ts : List T} {Q : T → List T → Prop} {E : Value → List (Str × V) → List T → Prop} (h : sp__law_take ts Q E) : t__law_take (bodyEnds [true, false] Q E) (startE 7 (frzP [true, false] ts)) := by
  obtain ⟨b, n, rfl, hb, h2, h3, q⟩ := h
  obtain ⟨a, c, d, o, cells, rfl, k1, k2, k3, k4, k5, k6⟩ := hb
  (try simp only [np_t, np_f, np_n, ne_c, ne_n, ne_0, nf_leaf, nf_pin, nf_node])
  (repeat (first | (refine Nx.mk ?_; (try (dsimp only [nr_none, nr_some, nr_nil, nf_leaf, nf_pin, nf_node, nf_nil, nf_cons, ni_f, ni_t, nw_nil, nw_cons, ns_0, ns_s]))) | (refine And.intro ?_ ?_; focus (first | exact rfl | exact frz_frz _ | exact frz_nf _ _ | exact (show frz _ = _ by assumption) | (show frz _ = _; simp only [nf_node, nf_cons, nf_nil, nf_leaf, frzL_frzL, intsT_frz]; done) | exact frz_ints _ _ | exact Nat.le_of_ble_eq_true rfl | exact (show (0 : Int) < _ by decide) | exact (show (0 : Int) ≤ _ by decide) | exact ⟨show (0 : Int) < _ by decide, show Nat.log2 _ < _ by decide⟩ | exact Or.inl (Or.inr ⟨show (_ : Int) < _ by decide, show (_ : Int) < _ by decide⟩) | exact Or.inl (Or.inl ⟨show (_ : Int) < _ by decide, show (_ : Int) < _ by decide⟩) | exact ⟨show (0 : Int) ≤ _ by decide, show (_ : Int) ≤ _ by decide, show Int.natAbs _ < _ by decide⟩)) | refine Exists.intro _ (Exists.intro _ (And.intro rfl (And.intro rfl ?_))) | refine Exists.intro _ (And.intro (Le.rf _) ?_) | refine Exists.intro _ (And.intro rfl ?_)))
  (conv => whnf)
  have hlay : ∀ ns : List Int, PyData.canLayAll0 (ns.map PyData.int) = true := fun ns => by
    induction ns with
    | nil => rfl
    | cons n ns ih => simp only [List.map_cons, PyData.canLayAll0, PyData.canLay0, ih, Bool.true_and]
  have hsh : SeqAt.shaped (.list (cells.map .int)) = true := by
    unfold SeqAt.shaped
    rw [Bool.and_eq_true, decide_eq_true_eq]
    exact ⟨hlay cells, by simp [PyData.depth, depthAll_ints]⟩
  refine ⟨.list (cells.map .int), [.list [], .list [.int 1]], ?_, rfl, hsh, by decide +kernel, ?_⟩
  · rw [toP_frz]
    exact toP_lints _ _
  have ev : ∀ l : List Int, PyData.eqv (.list (l.map .int)) (.list (cells.map .int)) = decide (l = cells) := fun l => by
    rw [← eqv_tupD]
    rfl
  have e1 := ev []
  have e2 := ev [1]
  have hn9 : n.natAbs < 2 ^ 9000 := by
    rcases h3 with h3 | h3
    · exact Nat.lt_of_lt_of_le (show n.natAbs < 2 ^ 62 by omega) (Nat.pow_le_pow_right (by decide) (by decide))
    · exact (Nat.log2_lt (by omega)).mp h3
  rw [if_neg (by decide), List.any_cons, List.any_cons, List.any_nil]
  rw [show PyData.eqv (.list []) (.list (cells.map .int)) = _ from e1, show PyData.eqv (.list [.int 1]) (.list (cells.map .int)) = _ from e2]
  have hfz : frz (.node o .lst (intsT cells)) = .node false .lst (intsT cells) := by
    show T.node false .lst (frzL (intsT cells)) = _
    rw [intsT_frz]
  simp only [hfz, frz_lints, Bool.or_false]
  (conv => whnf)
  refine ifB_of (fun hc => ?_) (fun hc => ?_)
  · (repeat (first | (refine Nx.mk ?_; (try (dsimp only [nr_none, nr_some, nr_nil, nf_leaf, nf_pin, nf_node, nf_nil, nf_cons, ni_f, ni_t, nw_nil, nw_cons, ns_0, ns_s]))) | (refine And.intro ?_ ?_; focus (first | exact rfl | exact frz_frz _ | exact frz_nf _ _ | exact (show frz _ = _ by assumption) | (show frz _ = _; simp only [nf_node, nf_cons, nf_nil, nf_leaf, frzL_frzL, intsT_frz]; done) | exact frz_ints _ _ | exact Nat.le_of_ble_eq_true rfl | exact (show (0 : Int) < _ by decide) | exact (show (0 : Int) ≤ _ by decide) | exact ⟨show (0 : Int) < _ by decide, show Nat.log2 _ < _ by decide⟩ | exact Or.inl (Or.inr ⟨show (_ : Int) < _ by decide, show (_ : Int) < _ by decide⟩) | exact Or.inl (Or.inl ⟨show (_ : Int) < _ by decide, show (_ : Int) < _ by decide⟩) | exact ⟨show (0 : Int) ≤ _ by decide, show (_ : Int) ≤ _ by decide, show Int.natAbs _ < _ by decide⟩)) | refine Exists.intro _ (Exists.intro _ (And.intro rfl (And.intro rfl ?_))) | refine Exists.intro _ (And.intro (Le.rf _) ?_) | refine Exists.intro _ (And.intro rfl ?_)))
    simp only [frz_frz, hfz, frz_lints]
    have hlen : (intsT cells).length = cells.length := by simp only [intsT, List.length_map]
    have hc2 : cells.length ≤ 1 := by
      rw [Bool.or_eq_true, decide_eq_true_eq, decide_eq_true_eq] at hc
      rcases hc with hc | hc
      · rw [← hc]; decide
      · rw [← hc]; decide
    have hlog : ∀ m : Nat, m < 2 ^ 9000 → m.log2 < 9000 := fun m hm => by
      by_cases h0 : m = 0
      · rw [h0]; decide
      · exact (Nat.log2_lt h0).mpr hm
    (conv => whnf)
    rw [hlen]
    refine And.intro (.inr ?_) ?_
    · have a1 := hlog (n - 1).natAbs (by omega)
      have a2 := hlog ((cells.length : Int)).natAbs (Nat.lt_of_le_of_lt (show _ ≤ 1 by omega) (by decide +kernel))
      show (n - 1).natAbs.log2 + ((cells.length : Int)).natAbs.log2 < 1000000
      omega
    have r0 : 0 ≤ (n - 1) * (cells.length : Int) ∧ (n - 1) * (cells.length : Int) < n := by
      have : cells.length = 0 ∨ cells.length = 1 := by omega
      rcases this with h | h
      · rw [h]
        simp
        exact h2
      · rw [h]
        simp
        omega
    have hfz2 : frz (.node false .lst (intsT cells)) = .node false .lst (intsT cells) := by
      show T.node false .lst (frzL (intsT cells)) = _
      rw [intsT_frz]
    exact q _ (.node true .lst [.leaf (.int a), .leaf (.int c), .leaf (.int d), .node false .lst (intsT cells)]) r0.1 r0.2 ⟨a, c, d, false, cells, rfl, k1, k2, k3, k4, k5, k6⟩
  · (conv => whnf)
    refine Nx.mk ?_
    exact take_high (D := seqE t__law_take_15 (bodyEnds [true, false] Q E)) (n := n) ⟨a, c, d, false, cells, rfl, k1, k2, k3, k4, k5, k6⟩ fun bag' g4 g5 hb' => ⟨take_low hb' h2 h3 q⟩
theorem rd__law_alike {ts : List T} {Q : T → List T → Prop} {E : Value → List (Str × V) → List T → Prop} (h : sp__law_alike ts Q E) : t__law_alike (bodyEnds [false, false] Q E) (startE 2 (frzP [false, false] ts)) := by
  obtain ⟨a, b, d, rfl, ha, hb, hd, q⟩ := h
  (try simp only [np_t, np_f, np_n, ne_c, ne_n, ne_0, nf_leaf, nf_pin, nf_node])
  (repeat (first | (refine Nx.mk ?_; (try (dsimp only [nr_none, nr_some, nr_nil, nf_leaf, nf_pin, nf_node, nf_nil, nf_cons, ni_f, ni_t, nw_nil, nw_cons, ns_0, ns_s]))) | (refine And.intro ?_ ?_; focus (first | exact rfl | exact frz_frz _ | exact frz_nf _ _ | exact (show frz _ = _ by assumption) | (show frz _ = _; simp only [nf_node, nf_cons, nf_nil, nf_leaf, frzL_frzL, intsT_frz]; done) | exact frz_ints _ _ | exact Nat.le_of_ble_eq_true rfl | exact (show (0 : Int) < _ by decide) | exact (show (0 : Int) ≤ _ by decide) | exact ⟨show (0 : Int) < _ by decide, show Nat.log2 _ < _ by decide⟩ | exact Or.inl (Or.inr ⟨show (_ : Int) < _ by decide, show (_ : Int) < _ by decide⟩) | exact Or.inl (Or.inl ⟨show (_ : Int) < _ by decide, show (_ : Int) < _ by decide⟩) | exact ⟨show (0 : Int) ≤ _ by decide, show (_ : Int) ≤ _ by decide, show Int.natAbs _ < _ by decide⟩)) | refine Exists.intro _ (Exists.intro _ (And.intro rfl (And.intro rfl ?_))) | refine Exists.intro _ (And.intro (Le.rf _) ?_) | refine Exists.intro _ (And.intro rfl ?_)))
  refine rtEq_same (d := d) (by rw [toP_frz]; exact ha) (by rw [toP_frz]; exact hb) hd ?_
  (repeat (first | (refine Nx.mk ?_; (try (dsimp only [nr_none, nr_some, nr_nil, nf_leaf, nf_pin, nf_node, nf_nil, nf_cons, ni_f, ni_t, nw_nil, nw_cons, ns_0, ns_s]))) | (refine And.intro ?_ ?_; focus (first | exact rfl | exact frz_frz _ | exact frz_nf _ _ | exact (show frz _ = _ by assumption) | (show frz _ = _; simp only [nf_node, nf_cons, nf_nil, nf_leaf, frzL_frzL, intsT_frz]; done) | exact frz_ints _ _ | exact Nat.le_of_ble_eq_true rfl | exact (show (0 : Int) < _ by decide) | exact (show (0 : Int) ≤ _ by decide) | exact ⟨show (0 : Int) < _ by decide, show Nat.log2 _ < _ by decide⟩ | exact Or.inl (Or.inr ⟨show (_ : Int) < _ by decide, show (_ : Int) < _ by decide⟩) | exact Or.inl (Or.inl ⟨show (_ : Int) < _ by decide, show (_ : Int) < _ by decide⟩) | exact ⟨show (0 : Int) ≤ _ by decide, show (_ : Int) ≤ _ by decide, show Int.natAbs _ < _ by decide⟩)) | refine Exists.intro _ (Exists.intro _ (And.intro rfl (And.intro rfl ?_))) | refine Exists.intro _ (And.intro (Le.rf _) ?_) | refine Exists.intro _ (And.intro rfl ?_)))
  refine ⟨_, ReprS.of (by rw [toP_frz]; exact ha) hd, ?_⟩
  (repeat (first | (refine Nx.mk ?_; (try (dsimp only [nr_none, nr_some, nr_nil, nf_leaf, nf_pin, nf_node, nf_nil, nf_cons, ni_f, ni_t, nw_nil, nw_cons, ns_0, ns_s]))) | (refine And.intro ?_ ?_; focus (first | exact rfl | exact frz_frz _ | exact frz_nf _ _ | exact (show frz _ = _ by assumption) | (show frz _ = _; simp only [nf_node, nf_cons, nf_nil, nf_leaf, frzL_frzL, intsT_frz]; done) | exact frz_ints _ _ | exact Nat.le_of_ble_eq_true rfl | exact (show (0 : Int) < _ by decide) | exact (show (0 : Int) ≤ _ by decide) | exact ⟨show (0 : Int) < _ by decide, show Nat.log2 _ < _ by decide⟩ | exact Or.inl (Or.inr ⟨show (_ : Int) < _ by decide, show (_ : Int) < _ by decide⟩) | exact Or.inl (Or.inl ⟨show (_ : Int) < _ by decide, show (_ : Int) < _ by decide⟩) | exact ⟨show (0 : Int) ≤ _ by decide, show (_ : Int) ≤ _ by decide, show Int.natAbs _ < _ by decide⟩)) | refine Exists.intro _ (Exists.intro _ (And.intro rfl (And.intro rfl ?_))) | refine Exists.intro _ (And.intro (Le.rf _) ?_) | refine Exists.intro _ (And.intro rfl ?_)))
  refine ⟨_, ReprS.of (by rw [toP_frz]; exact hb) hd, ?_⟩
  show Q (.leaf (.bl (decide (d.shown = d.shown)))) []
  rw [decide_eq_true rfl]
  exact q
theorem rd__law_one {ts : List T} {Q : T → List T → Prop} {E : Value → List (Str × V) → List T → Prop} (h : sp__law_one ts Q E) : t__law_one (bodyEnds [true, false] Q E) (startE 2 (frzP [true, false] ts)) := by
  obtain ⟨b, o, its, rfl, hb, h2, h3, q⟩ := h
  have hpos : 0 < its.length := by
    cases its with
    | nil => exact absurd rfl h2
    | cons => simp
  (try simp only [np_t, np_f, np_n, ne_c, ne_n, ne_0, nf_leaf, nf_pin, nf_node])
  (repeat (first | (refine Nx.mk ?_; (try (dsimp only [nr_none, nr_some, nr_nil, nf_leaf, nf_pin, nf_node, nf_nil, nf_cons, ni_f, ni_t, nw_nil, nw_cons, ns_0, ns_s]))) | (refine And.intro ?_ ?_; focus (first | exact rfl | exact frz_frz _ | exact frz_nf _ _ | exact (show frz _ = _ by assumption) | (show frz _ = _; simp only [nf_node, nf_cons, nf_nil, nf_leaf, frzL_frzL, intsT_frz]; done) | exact frz_ints _ _ | exact Nat.le_of_ble_eq_true rfl | exact (show (0 : Int) < _ by decide) | exact (show (0 : Int) ≤ _ by decide) | exact ⟨show (0 : Int) < _ by decide, show Nat.log2 _ < _ by decide⟩ | exact Or.inl (Or.inr ⟨show (_ : Int) < _ by decide, show (_ : Int) < _ by decide⟩) | exact Or.inl (Or.inl ⟨show (_ : Int) < _ by decide, show (_ : Int) < _ by decide⟩) | exact ⟨show (0 : Int) ≤ _ by decide, show (_ : Int) ≤ _ by decide, show Int.natAbs _ < _ by decide⟩)) | refine Exists.intro _ (Exists.intro _ (And.intro rfl (And.intro rfl ?_))) | refine Exists.intro _ (And.intro (Le.rf _) ?_) | refine Exists.intro _ (And.intro rfl ?_)))
  have e : (frzL its).length = its.length := by rw [frzL_map, List.length_map]
  refine ⟨b, ((frzL its).length : Int), rfl, hb, by omega, by omega, fun r bag' r0 r1 hb' => ?_⟩
  (repeat (first | (refine Nx.mk ?_; (try (dsimp only [nr_none, nr_some, nr_nil, nf_leaf, nf_pin, nf_node, nf_nil, nf_cons, ni_f, ni_t, nw_nil, nw_cons, ns_0, ns_s]))) | (refine And.intro ?_ ?_; focus (first | exact rfl | exact frz_frz _ | exact frz_nf _ _ | exact (show frz _ = _ by assumption) | (show frz _ = _; simp only [nf_node, nf_cons, nf_nil, nf_leaf, frzL_frzL, intsT_frz]; done) | exact frz_ints _ _ | exact Nat.le_of_ble_eq_true rfl | exact (show (0 : Int) < _ by decide) | exact (show (0 : Int) ≤ _ by decide) | exact ⟨show (0 : Int) < _ by decide, show Nat.log2 _ < _ by decide⟩ | exact Or.inl (Or.inr ⟨show (_ : Int) < _ by decide, show (_ : Int) < _ by decide⟩) | exact Or.inl (Or.inl ⟨show (_ : Int) < _ by decide, show (_ : Int) < _ by decide⟩) | exact ⟨show (0 : Int) ≤ _ by decide, show (_ : Int) ≤ _ by decide, show Int.natAbs _ < _ by decide⟩)) | refine Exists.intro _ (Exists.intro _ (And.intro rfl (And.intro rfl ?_))) | refine Exists.intro _ (And.intro (Le.rf _) ?_) | refine Exists.intro _ (And.intro rfl ?_)))
  obtain ⟨k, rfl⟩ := Int.eq_ofNat_of_zero_le r0
  have hk : k < (frzL its).length := by omega
  have hk2 : k < its.length := by omega
  have ha : atI (frzL its) (k : Int) = some (frz its[k]) := by
    unfold atI
    rw [ixN_nat, if_pos hk]
    show (frzL its)[k]? = _
    simp only [frzL_map, List.getElem?_map, List.getElem?_eq_getElem hk2]
    rfl
  refine Exists.intro _ (And.intro ha ?_)
  have := q its[k] bag' (List.getElem_mem hk2) hb'
  rw [← frz_frz] at this
  exact this
theorem rd_is_whole {ts : List T} {Q : T → List T → Prop} {E : Value → List (Str × V) → List T → Prop} (h : sp_is_whole ts Q E) : t_is_whole (bodyEnds [false] Q E) (startE 1 (frzP [false] ts)) := by
  obtain ⟨τ, b, rfl, h, q⟩ := h
  unfold wholeQ at h
  cases e : tyT (frz τ) with
  | none => rw [e] at h; cases h
  | some ty =>
    rw [e] at h
    cases h
    have q' : Q (.leaf (.bl (ty.isa .int && !ty.isa .bl))) [] := q
    (try simp only [np_t, np_f, np_n, ne_c, ne_n, ne_0, nf_leaf, nf_pin, nf_node])
    (repeat (first | (refine Nx.mk ?_; (try (dsimp only [nr_none, nr_some, nr_nil, nf_leaf, nf_pin, nf_node, nf_nil, nf_cons, ni_f, ni_t, nw_nil, nw_cons, ns_0, ns_s]))) | (refine And.intro ?_ ?_; focus (first | exact rfl | exact frz_frz _ | exact frz_nf _ _ | exact (show frz _ = _ by assumption) | (show frz _ = _; simp only [nf_node, nf_cons, nf_nil, nf_leaf, frzL_frzL, intsT_frz]; done) | exact frz_ints _ _ | exact Nat.le_of_ble_eq_true rfl | exact (show (0 : Int) < _ by decide) | exact (show (0 : Int) ≤ _ by decide) | exact ⟨show (0 : Int) < _ by decide, show Nat.log2 _ < _ by decide⟩ | exact Or.inl (Or.inr ⟨show (_ : Int) < _ by decide, show (_ : Int) < _ by decide⟩) | exact Or.inl (Or.inl ⟨show (_ : Int) < _ by decide, show (_ : Int) < _ by decide⟩) | exact ⟨show (0 : Int) ≤ _ by decide, show (_ : Int) ≤ _ by decide, show Int.natAbs _ < _ by decide⟩)) | refine Exists.intro _ (Exists.intro _ (And.intro rfl (And.intro rfl ?_))) | refine Exists.intro _ (And.intro (Le.rf _) ?_) | refine Exists.intro _ (And.intro rfl ?_)))
    unfold tyQ
    rw [e]
    (conv => whnf)
    cases hi : ty.isa .int with
    | false =>
      rw [hi] at q'
      exact q'
    | true =>
      rw [hi] at q'
      (repeat (first | (refine Nx.mk ?_; (try (dsimp only [nr_none, nr_some, nr_nil, nf_leaf, nf_pin, nf_node, nf_nil, nf_cons, ni_f, ni_t, nw_nil, nw_cons, ns_0, ns_s]))) | (refine And.intro ?_ ?_; focus (first | exact rfl | exact frz_frz _ | exact frz_nf _ _ | exact (show frz _ = _ by assumption) | (show frz _ = _; simp only [nf_node, nf_cons, nf_nil, nf_leaf, frzL_frzL, intsT_frz]; done) | exact frz_ints _ _ | exact Nat.le_of_ble_eq_true rfl | exact (show (0 : Int) < _ by decide) | exact (show (0 : Int) ≤ _ by decide) | exact ⟨show (0 : Int) < _ by decide, show Nat.log2 _ < _ by decide⟩ | exact Or.inl (Or.inr ⟨show (_ : Int) < _ by decide, show (_ : Int) < _ by decide⟩) | exact Or.inl (Or.inl ⟨show (_ : Int) < _ by decide, show (_ : Int) < _ by decide⟩) | exact ⟨show (0 : Int) ≤ _ by decide, show (_ : Int) ≤ _ by decide, show Int.natAbs _ < _ by decide⟩)) | refine Exists.intro _ (Exists.intro _ (And.intro rfl (And.intro rfl ?_))) | refine Exists.intro _ (And.intro (Le.rf _) ?_) | refine Exists.intro _ (And.intro rfl ?_)))
      unfold tyQ
      rw [e]
      exact q'
theorem rd_divisor {ts : List T} {Q : T → List T → Prop} {E : Value → List (Str × V) → List T → Prop} (h : sp_divisor ts Q E) : t_divisor (bodyEnds [false, false] Q E) (startE 3 (frzP [false, false] ts)) := by
  obtain ⟨a, b, rfl, q⟩ := h
  (try simp only [np_t, np_f, np_n, ne_c, ne_n, ne_0, nf_leaf, nf_pin, nf_node])
  (repeat (first | (refine Nx.mk ?_; (try (dsimp only [nr_none, nr_some, nr_nil, nf_leaf, nf_pin, nf_node, nf_nil, nf_cons, ni_f, ni_t, nw_nil, nw_cons, ns_0, ns_s]))) | (refine And.intro ?_ ?_; focus (first | exact rfl | exact frz_frz _ | exact frz_nf _ _ | exact (show frz _ = _ by assumption) | (show frz _ = _; simp only [nf_node, nf_cons, nf_nil, nf_leaf, frzL_frzL, intsT_frz]; done) | exact frz_ints _ _ | exact Nat.le_of_ble_eq_true rfl | exact (show (0 : Int) < _ by decide) | exact (show (0 : Int) ≤ _ by decide) | exact ⟨show (0 : Int) < _ by decide, show Nat.log2 _ < _ by decide⟩ | exact Or.inl (Or.inr ⟨show (_ : Int) < _ by decide, show (_ : Int) < _ by decide⟩) | exact Or.inl (Or.inl ⟨show (_ : Int) < _ by decide, show (_ : Int) < _ by decide⟩) | exact ⟨show (0 : Int) ≤ _ by decide, show (_ : Int) ≤ _ by decide, show Int.natAbs _ < _ by decide⟩)) | refine Exists.intro _ (Exists.intro _ (And.intro rfl (And.intro rfl ?_))) | refine Exists.intro _ (And.intro (Le.rf _) ?_) | refine Exists.intro _ (And.intro rfl ?_)))
  have key : ∀ D : DEnds, (∀ x z, D.nx [some (.leaf (.int (Int.gcd a b))), x, z] ) → t_divisor_4 D [some (.leaf (.int (if a < 0 then -a else a))), some (.leaf (.int (if b < 0 then -b else b))), none] := by
    intro D hD
    refine While.ind (fun n g => ∃ (x y : Int) (z : Option T), g = [some (.leaf (.int x)), some (.leaf (.int y)), z] ∧ 0 ≤ x ∧ 0 ≤ y ∧ y.toNat ≤ n ∧ Int.gcd x y = Int.gcd a b) (if b < 0 then -b else b).toNat ⟨_, _, _, rfl, ?_, ?_, Nat.le_refl _, ?_⟩ ?_
    · split <;> omega
    · split <;> omega
    · split <;> split <;> simp [Int.gcd_neg, Int.neg_gcd]
    · rintro n g ⟨x, y, z, rfl, h1, h2, h3, h4⟩ R hR
      (repeat (first | (refine Nx.mk ?_; (try (dsimp only [nr_none, nr_some, nr_nil, nf_leaf, nf_pin, nf_node, nf_nil, nf_cons, ni_f, ni_t, nw_nil, nw_cons, ns_0, ns_s]))) | (refine And.intro ?_ ?_; focus (first | exact rfl | exact frz_frz _ | exact frz_nf _ _ | exact (show frz _ = _ by assumption) | (show frz _ = _; simp only [nf_node, nf_cons, nf_nil, nf_leaf, frzL_frzL, intsT_frz]; done) | exact frz_ints _ _ | exact Nat.le_of_ble_eq_true rfl | exact (show (0 : Int) < _ by decide) | exact (show (0 : Int) ≤ _ by decide) | exact ⟨show (0 : Int) < _ by decide, show Nat.log2 _ < _ by decide⟩ | exact Or.inl (Or.inr ⟨show (_ : Int) < _ by decide, show (_ : Int) < _ by decide⟩) | exact Or.inl (Or.inl ⟨show (_ : Int) < _ by decide, show (_ : Int) < _ by decide⟩) | exact ⟨show (0 : Int) ≤ _ by decide, show (_ : Int) ≤ _ by decide, show Int.natAbs _ < _ by decide⟩)) | refine Exists.intro _ (Exists.intro _ (And.intro rfl (And.intro rfl ?_))) | refine Exists.intro _ (And.intro (Le.rf _) ?_) | refine Exists.intro _ (And.intro rfl ?_)))
      refine ifB_dec (fun hb => ?_) (fun hb => ?_)
      · (repeat (first | (refine Nx.mk ?_; (try (dsimp only [nr_none, nr_some, nr_nil, nf_leaf, nf_pin, nf_node, nf_nil, nf_cons, ni_f, ni_t, nw_nil, nw_cons, ns_0, ns_s]))) | (refine And.intro ?_ ?_; focus (first | exact rfl | exact frz_frz _ | exact frz_nf _ _ | exact (show frz _ = _ by assumption) | (show frz _ = _; simp only [nf_node, nf_cons, nf_nil, nf_leaf, frzL_frzL, intsT_frz]; done) | exact frz_ints _ _ | exact Nat.le_of_ble_eq_true rfl | exact (show (0 : Int) < _ by decide) | exact (show (0 : Int) ≤ _ by decide) | exact ⟨show (0 : Int) < _ by decide, show Nat.log2 _ < _ by decide⟩ | exact Or.inl (Or.inr ⟨show (_ : Int) < _ by decide, show (_ : Int) < _ by decide⟩) | exact Or.inl (Or.inl ⟨show (_ : Int) < _ by decide, show (_ : Int) < _ by decide⟩) | exact ⟨show (0 : Int) ≤ _ by decide, show (_ : Int) ≤ _ by decide, show Int.natAbs _ < _ by decide⟩)) | refine Exists.intro _ (Exists.intro _ (And.intro rfl (And.intro rfl ?_))) | refine Exists.intro _ (And.intro (Le.rf _) ?_) | refine Exists.intro _ (And.intro rfl ?_)))
        refine And.intro hb ?_
        (repeat (first | (refine Nx.mk ?_; (try (dsimp only [nr_none, nr_some, nr_nil, nf_leaf, nf_pin, nf_node, nf_nil, nf_cons, ni_f, ni_t, nw_nil, nw_cons, ns_0, ns_s]))) | (refine And.intro ?_ ?_; focus (first | exact rfl | exact frz_frz _ | exact frz_nf _ _ | exact (show frz _ = _ by assumption) | (show frz _ = _; simp only [nf_node, nf_cons, nf_nil, nf_leaf, frzL_frzL, intsT_frz]; done) | exact frz_ints _ _ | exact Nat.le_of_ble_eq_true rfl | exact (show (0 : Int) < _ by decide) | exact (show (0 : Int) ≤ _ by decide) | exact ⟨show (0 : Int) < _ by decide, show Nat.log2 _ < _ by decide⟩ | exact Or.inl (Or.inr ⟨show (_ : Int) < _ by decide, show (_ : Int) < _ by decide⟩) | exact Or.inl (Or.inl ⟨show (_ : Int) < _ by decide, show (_ : Int) < _ by decide⟩) | exact ⟨show (0 : Int) ≤ _ by decide, show (_ : Int) ≤ _ by decide, show Int.natAbs _ < _ by decide⟩)) | refine Exists.intro _ (Exists.intro _ (And.intro rfl (And.intro rfl ?_))) | refine Exists.intro _ (And.intro (Le.rf _) ?_) | refine Exists.intro _ (And.intro rfl ?_)))
        have hm := Int.emod_lt_of_pos x hb
        have hm0 := Int.emod_nonneg x (show y ≠ 0 by omega)
        refine hR (n - 1) _ (by omega) ⟨y, x % y, _, rfl, h2, hm0, by omega, (gcd_step h1 hb).trans h4⟩
      · have : y = 0 := by omega
        subst this
        have e : x = Int.gcd a b := by
          rw [← h4, Int.gcd_zero]
          omega
        rw [e]
        exact hD _ _
  exact key _ fun x z => by
    (repeat (first | (refine Nx.mk ?_; (try (dsimp only [nr_none, nr_some, nr_nil, nf_leaf, nf_pin, nf_node, nf_nil, nf_cons, ni_f, ni_t, nw_nil, nw_cons, ns_0, ns_s]))) | (refine And.intro ?_ ?_; focus (first | exact rfl | exact frz_frz _ | exact frz_nf _ _ | exact (show frz _ = _ by assumption) | (show frz _ = _; simp only [nf_node, nf_cons, nf_nil, nf_leaf, frzL_frzL, intsT_frz]; done) | exact frz_ints _ _ | exact Nat.le_of_ble_eq_true rfl | exact (show (0 : Int) < _ by decide) | exact (show (0 : Int) ≤ _ by decide) | exact ⟨show (0 : Int) < _ by decide, show Nat.log2 _ < _ by decide⟩ | exact Or.inl (Or.inr ⟨show (_ : Int) < _ by decide, show (_ : Int) < _ by decide⟩) | exact Or.inl (Or.inl ⟨show (_ : Int) < _ by decide, show (_ : Int) < _ by decide⟩) | exact ⟨show (0 : Int) ≤ _ by decide, show (_ : Int) ≤ _ by decide, show Int.natAbs _ < _ by decide⟩)) | refine Exists.intro _ (Exists.intro _ (And.intro rfl (And.intro rfl ?_))) | refine Exists.intro _ (And.intro (Le.rf _) ?_) | refine Exists.intro _ (And.intro rfl ?_)))
    exact q
theorem rd_fraction_low {ts : List T} {Q : T → List T → Prop} {E : Value → List (Str × V) → List T → Prop} (h : ∃ (a b : Int) (k : Nat), ts = [.leaf (.int a), .leaf (.int b)] ∧ b ≠ 0 ∧ b.natAbs < 2 ^ k ∧ k ≤ 9000 ∧ Q (.node true .tup (qT (Rat.divInt a b))) []) : t_fraction (bodyEnds [false, false] Q E) (startE 3 (frzP [false, false] ts)) := by
  obtain ⟨a, b, k, rfl, h0, h1, h2, q⟩ := h
  have hg := gcd_size (a := a) h0
  have hl : (Int.gcd a b).log2 < 9000 := by
    have k0 : 0 < k := by
      cases k with
      | zero => omega
      | succ k => omega
    exact Nat.lt_of_lt_of_le (PySem.Flt.log2_lt_of k0 (by omega)) h2
  (try simp only [np_t, np_f, np_n, ne_c, ne_n, ne_0, nf_leaf, nf_pin, nf_node])
  (repeat (first | (refine Nx.mk ?_; (try (dsimp only [nr_none, nr_some, nr_nil, nf_leaf, nf_pin, nf_node, nf_nil, nf_cons, ni_f, ni_t, nw_nil, nw_cons, ns_0, ns_s]))) | (refine And.intro ?_ ?_; focus (first | exact rfl | exact frz_frz _ | exact frz_nf _ _ | exact (show frz _ = _ by assumption) | (show frz _ = _; simp only [nf_node, nf_cons, nf_nil, nf_leaf, frzL_frzL, intsT_frz]; done) | exact frz_ints _ _ | exact Nat.le_of_ble_eq_true rfl | exact (show (0 : Int) < _ by decide) | exact (show (0 : Int) ≤ _ by decide) | exact ⟨show (0 : Int) < _ by decide, show Nat.log2 _ < _ by decide⟩ | exact Or.inl (Or.inr ⟨show (_ : Int) < _ by decide, show (_ : Int) < _ by decide⟩) | exact Or.inl (Or.inl ⟨show (_ : Int) < _ by decide, show (_ : Int) < _ by decide⟩) | exact ⟨show (0 : Int) ≤ _ by decide, show (_ : Int) ≤ _ by decide, show Int.natAbs _ < _ by decide⟩)) | refine Exists.intro _ (Exists.intro _ (And.intro rfl (And.intro rfl ?_))) | refine Exists.intro _ (And.intro (Le.rf _) ?_) | refine Exists.intro _ (And.intro rfl ?_)))
  refine ifB_dec (fun hb => absurd hb h0) (fun _ => ?_)
  (repeat (first | (refine Nx.mk ?_; (try (dsimp only [nr_none, nr_some, nr_nil, nf_leaf, nf_pin, nf_node, nf_nil, nf_cons, ni_f, ni_t, nw_nil, nw_cons, ns_0, ns_s]))) | (refine And.intro ?_ ?_; focus (first | exact rfl | exact frz_frz _ | exact frz_nf _ _ | exact (show frz _ = _ by assumption) | (show frz _ = _; simp only [nf_node, nf_cons, nf_nil, nf_leaf, frzL_frzL, intsT_frz]; done) | exact frz_ints _ _ | exact Nat.le_of_ble_eq_true rfl | exact (show (0 : Int) < _ by decide) | exact (show (0 : Int) ≤ _ by decide) | exact ⟨show (0 : Int) < _ by decide, show Nat.log2 _ < _ by decide⟩ | exact Or.inl (Or.inr ⟨show (_ : Int) < _ by decide, show (_ : Int) < _ by decide⟩) | exact Or.inl (Or.inl ⟨show (_ : Int) < _ by decide, show (_ : Int) < _ by decide⟩) | exact ⟨show (0 : Int) ≤ _ by decide, show (_ : Int) ≤ _ by decide, show Int.natAbs _ < _ by decide⟩)) | refine Exists.intro _ (Exists.intro _ (And.intro rfl (And.intro rfl ?_))) | refine Exists.intro _ (And.intro (Le.rf _) ?_) | refine Exists.intro _ (And.intro rfl ?_)))
  refine ⟨a, b, rfl, ?_⟩
  (repeat (first | (refine Nx.mk ?_; (try (dsimp only [nr_none, nr_some, nr_nil, nf_leaf, nf_pin, nf_node, nf_nil, nf_cons, ni_f, ni_t, nw_nil, nw_cons, ns_0, ns_s]))) | (refine And.intro ?_ ?_; focus (first | exact rfl | exact frz_frz _ | exact frz_nf _ _ | exact (show frz _ = _ by assumption) | (show frz _ = _; simp only [nf_node, nf_cons, nf_nil, nf_leaf, frzL_frzL, intsT_frz]; done) | exact frz_ints _ _ | exact Nat.le_of_ble_eq_true rfl | exact (show (0 : Int) < _ by decide) | exact (show (0 : Int) ≤ _ by decide) | exact ⟨show (0 : Int) < _ by decide, show Nat.log2 _ < _ by decide⟩ | exact Or.inl (Or.inr ⟨show (_ : Int) < _ by decide, show (_ : Int) < _ by decide⟩) | exact Or.inl (Or.inl ⟨show (_ : Int) < _ by decide, show (_ : Int) < _ by decide⟩) | exact ⟨show (0 : Int) ≤ _ by decide, show (_ : Int) ≤ _ by decide, show Int.natAbs _ < _ by decide⟩)) | refine Exists.intro _ (Exists.intro _ (And.intro rfl (And.intro rfl ?_))) | refine Exists.intro _ (And.intro (Le.rf _) ?_) | refine Exists.intro _ (And.intro rfl ?_)))
  refine ifB_dec (fun hb => ?_) (fun hb => ?_)
  · (repeat (first | (refine Nx.mk ?_; (try (dsimp only [nr_none, nr_some, nr_nil, nf_leaf, nf_pin, nf_node, nf_nil, nf_cons, ni_f, ni_t, nw_nil, nw_cons, ns_0, ns_s]))) | (refine And.intro ?_ ?_; focus (first | exact rfl | exact frz_frz _ | exact frz_nf _ _ | exact (show frz _ = _ by assumption) | (show frz _ = _; simp only [nf_node, nf_cons, nf_nil, nf_leaf, frzL_frzL, intsT_frz]; done) | exact frz_ints _ _ | exact Nat.le_of_ble_eq_true rfl | exact (show (0 : Int) < _ by decide) | exact (show (0 : Int) ≤ _ by decide) | exact ⟨show (0 : Int) < _ by decide, show Nat.log2 _ < _ by decide⟩ | exact Or.inl (Or.inr ⟨show (_ : Int) < _ by decide, show (_ : Int) < _ by decide⟩) | exact Or.inl (Or.inl ⟨show (_ : Int) < _ by decide, show (_ : Int) < _ by decide⟩) | exact ⟨show (0 : Int) ≤ _ by decide, show (_ : Int) ≤ _ by decide, show Int.natAbs _ < _ by decide⟩)) | refine Exists.intro _ (Exists.intro _ (And.intro rfl (And.intro rfl ?_))) | refine Exists.intro _ (And.intro (Le.rf _) ?_) | refine Exists.intro _ (And.intro rfl ?_)))
    refine And.intro ⟨by omega, by rw [Int.natAbs_neg]; exact hl⟩ ?_
    (repeat (first | (refine Nx.mk ?_; (try (dsimp only [nr_none, nr_some, nr_nil, nf_leaf, nf_pin, nf_node, nf_nil, nf_cons, ni_f, ni_t, nw_nil, nw_cons, ns_0, ns_s]))) | (refine And.intro ?_ ?_; focus (first | exact rfl | exact frz_frz _ | exact frz_nf _ _ | exact (show frz _ = _ by assumption) | (show frz _ = _; simp only [nf_node, nf_cons, nf_nil, nf_leaf, frzL_frzL, intsT_frz]; done) | exact frz_ints _ _ | exact Nat.le_of_ble_eq_true rfl | exact (show (0 : Int) < _ by decide) | exact (show (0 : Int) ≤ _ by decide) | exact ⟨show (0 : Int) < _ by decide, show Nat.log2 _ < _ by decide⟩ | exact Or.inl (Or.inr ⟨show (_ : Int) < _ by decide, show (_ : Int) < _ by decide⟩) | exact Or.inl (Or.inl ⟨show (_ : Int) < _ by decide, show (_ : Int) < _ by decide⟩) | exact ⟨show (0 : Int) ≤ _ by decide, show (_ : Int) ≤ _ by decide, show Int.natAbs _ < _ by decide⟩)) | refine Exists.intro _ (Exists.intro _ (And.intro rfl (And.intro rfl ?_))) | refine Exists.intro _ (And.intro (Le.rf _) ?_) | refine Exists.intro _ (And.intro rfl ?_)))
    refine And.intro ⟨by omega, by rw [Int.natAbs_neg]; exact hl⟩ ?_
    (repeat (first | (refine Nx.mk ?_; (try (dsimp only [nr_none, nr_some, nr_nil, nf_leaf, nf_pin, nf_node, nf_nil, nf_cons, ni_f, ni_t, nw_nil, nw_cons, ns_0, ns_s]))) | (refine And.intro ?_ ?_; focus (first | exact rfl | exact frz_frz _ | exact frz_nf _ _ | exact (show frz _ = _ by assumption) | (show frz _ = _; simp only [nf_node, nf_cons, nf_nil, nf_leaf, frzL_frzL, intsT_frz]; done) | exact frz_ints _ _ | exact Nat.le_of_ble_eq_true rfl | exact (show (0 : Int) < _ by decide) | exact (show (0 : Int) ≤ _ by decide) | exact ⟨show (0 : Int) < _ by decide, show Nat.log2 _ < _ by decide⟩ | exact Or.inl (Or.inr ⟨show (_ : Int) < _ by decide, show (_ : Int) < _ by decide⟩) | exact Or.inl (Or.inl ⟨show (_ : Int) < _ by decide, show (_ : Int) < _ by decide⟩) | exact ⟨show (0 : Int) ≤ _ by decide, show (_ : Int) ≤ _ by decide, show Int.natAbs _ < _ by decide⟩)) | refine Exists.intro _ (Exists.intro _ (And.intro rfl (And.intro rfl ?_))) | refine Exists.intro _ (And.intro (Le.rf _) ?_) | refine Exists.intro _ (And.intro rfl ?_)))
    show Q (.node true .tup [.leaf (.int (a.fdiv (-(Int.gcd a b : Int)))), .leaf (.int (b.fdiv (-(Int.gcd a b : Int))))]) []
    rw [(red_neg hb).1, (red_neg hb).2]
    exact q
  · (repeat (first | (refine Nx.mk ?_; (try (dsimp only [nr_none, nr_some, nr_nil, nf_leaf, nf_pin, nf_node, nf_nil, nf_cons, ni_f, ni_t, nw_nil, nw_cons, ns_0, ns_s]))) | (refine And.intro ?_ ?_; focus (first | exact rfl | exact frz_frz _ | exact frz_nf _ _ | exact (show frz _ = _ by assumption) | (show frz _ = _; simp only [nf_node, nf_cons, nf_nil, nf_leaf, frzL_frzL, intsT_frz]; done) | exact frz_ints _ _ | exact Nat.le_of_ble_eq_true rfl | exact (show (0 : Int) < _ by decide) | exact (show (0 : Int) ≤ _ by decide) | exact ⟨show (0 : Int) < _ by decide, show Nat.log2 _ < _ by decide⟩ | exact Or.inl (Or.inr ⟨show (_ : Int) < _ by decide, show (_ : Int) < _ by decide⟩) | exact Or.inl (Or.inl ⟨show (_ : Int) < _ by decide, show (_ : Int) < _ by decide⟩) | exact ⟨show (0 : Int) ≤ _ by decide, show (_ : Int) ≤ _ by decide, show Int.natAbs _ < _ by decide⟩)) | refine Exists.intro _ (Exists.intro _ (And.intro rfl (And.intro rfl ?_))) | refine Exists.intro _ (And.intro (Le.rf _) ?_) | refine Exists.intro _ (And.intro rfl ?_)))
    refine And.intro ⟨by omega, hl⟩ ?_
    (repeat (first | (refine Nx.mk ?_; (try (dsimp only [nr_none, nr_some, nr_nil, nf_leaf, nf_pin, nf_node, nf_nil, nf_cons, ni_f, ni_t, nw_nil, nw_cons, ns_0, ns_s]))) | (refine And.intro ?_ ?_; focus (first | exact rfl | exact frz_frz _ | exact frz_nf _ _ | exact (show frz _ = _ by assumption) | (show frz _ = _; simp only [nf_node, nf_cons, nf_nil, nf_leaf, frzL_frzL, intsT_frz]; done) | exact frz_ints _ _ | exact Nat.le_of_ble_eq_true rfl | exact (show (0 : Int) < _ by decide) | exact (show (0 : Int) ≤ _ by decide) | exact ⟨show (0 : Int) < _ by decide, show Nat.log2 _ < _ by decide⟩ | exact Or.inl (Or.inr ⟨show (_ : Int) < _ by decide, show (_ : Int) < _ by decide⟩) | exact Or.inl (Or.inl ⟨show (_ : Int) < _ by decide, show (_ : Int) < _ by decide⟩) | exact ⟨show (0 : Int) ≤ _ by decide, show (_ : Int) ≤ _ by decide, show Int.natAbs _ < _ by decide⟩)) | refine Exists.intro _ (Exists.intro _ (And.intro rfl (And.intro rfl ?_))) | refine Exists.intro _ (And.intro (Le.rf _) ?_) | refine Exists.intro _ (And.intro rfl ?_)))
    refine And.intro ⟨by omega, hl⟩ ?_
    (repeat (first | (refine Nx.mk ?_; (try (dsimp only [nr_none, nr_some, nr_nil, nf_leaf, nf_pin, nf_node, nf_nil, nf_cons, ni_f, ni_t, nw_nil, nw_cons, ns_0, ns_s]))) | (refine And.intro ?_ ?_; focus (first | exact rfl | exact frz_frz _ | exact frz_nf _ _ | exact (show frz _ = _ by assumption) | (show frz _ = _; simp only [nf_node, nf_cons, nf_nil, nf_leaf, frzL_frzL, intsT_frz]; done) | exact frz_ints _ _ | exact Nat.le_of_ble_eq_true rfl | exact (show (0 : Int) < _ by decide) | exact (show (0 : Int) ≤ _ by decide) | exact ⟨show (0 : Int) < _ by decide, show Nat.log2 _ < _ by decide⟩ | exact Or.inl (Or.inr ⟨show (_ : Int) < _ by decide, show (_ : Int) < _ by decide⟩) | exact Or.inl (Or.inl ⟨show (_ : Int) < _ by decide, show (_ : Int) < _ by decide⟩) | exact ⟨show (0 : Int) ≤ _ by decide, show (_ : Int) ≤ _ by decide, show Int.natAbs _ < _ by decide⟩)) | refine Exists.intro _ (Exists.intro _ (And.intro rfl (And.intro rfl ?_))) | refine Exists.intro _ (And.intro (Le.rf _) ?_) | refine Exists.intro _ (And.intro rfl ?_)))
    show Q (.node true .tup [.leaf (.int (a.fdiv (Int.gcd a b : Int))), .leaf (.int (b.fdiv (Int.gcd a b : Int)))]) []
    rw [(red_pos (show 0 < b by omega)).1, (red_pos (show 0 < b by omega)).2]
    exact q
theorem rd_fraction {ts : List T} {Q : T → List T → Prop} {E : Value → List (Str × V) → List T → Prop} (h : sp_fraction ts Q E) : t_fraction (bodyEnds [false, false] Q E) (startE 3 (frzP [false, false] ts)) := by
  rcases h with h | ⟨τ1, τ2, b1, b2, rfl, w1, w2, h0, q⟩
  · exact rd_fraction_low h
  refine And.intro (frz_frz _) ?_
  refine ⟨_, _, rfl, (by rw [frz_frz]; exact w1), ?_⟩
  cases b1 with
  | false => exact q
  | true =>
    (try simp only [np_t, np_f, np_n, ne_c, ne_n, ne_0, nf_leaf, nf_pin, nf_node])
    (repeat (first | (refine Nx.mk ?_; (try (dsimp only [nr_none, nr_some, nr_nil, nf_leaf, nf_pin, nf_node, nf_nil, nf_cons, ni_f, ni_t, nw_nil, nw_cons, ns_0, ns_s]))) | (refine And.intro ?_ ?_; focus (first | exact rfl | exact frz_frz _ | exact frz_nf _ _ | exact (show frz _ = _ by assumption) | (show frz _ = _; simp only [nf_node, nf_cons, nf_nil, nf_leaf, frzL_frzL, intsT_frz]; done) | exact frz_ints _ _ | exact Nat.le_of_ble_eq_true rfl | exact (show (0 : Int) < _ by decide) | exact (show (0 : Int) ≤ _ by decide) | exact ⟨show (0 : Int) < _ by decide, show Nat.log2 _ < _ by decide⟩ | exact Or.inl (Or.inr ⟨show (_ : Int) < _ by decide, show (_ : Int) < _ by decide⟩) | exact Or.inl (Or.inl ⟨show (_ : Int) < _ by decide, show (_ : Int) < _ by decide⟩) | exact ⟨show (0 : Int) ≤ _ by decide, show (_ : Int) ≤ _ by decide, show Int.natAbs _ < _ by decide⟩)) | refine Exists.intro _ (Exists.intro _ (And.intro rfl (And.intro rfl ?_))) | refine Exists.intro _ (And.intro (Le.rf _) ?_) | refine Exists.intro _ (And.intro rfl ?_)))
    refine ⟨_, _, rfl, (by rw [frz_frz]; exact w2), ?_⟩
    cases b2 with
    | false => exact q
    | true =>
      (repeat (first | (refine Nx.mk ?_; (try (dsimp only [nr_none, nr_some, nr_nil, nf_leaf, nf_pin, nf_node, nf_nil, nf_cons, ni_f, ni_t, nw_nil, nw_cons, ns_0, ns_s]))) | (refine And.intro ?_ ?_; focus (first | exact rfl | exact frz_frz _ | exact frz_nf _ _ | exact (show frz _ = _ by assumption) | (show frz _ = _; simp only [nf_node, nf_cons, nf_nil, nf_leaf, frzL_frzL, intsT_frz]; done) | exact frz_ints _ _ | exact Nat.le_of_ble_eq_true rfl | exact (show (0 : Int) < _ by decide) | exact (show (0 : Int) ≤ _ by decide) | exact ⟨show (0 : Int) < _ by decide, show Nat.log2 _ < _ by decide⟩ | exact Or.inl (Or.inr ⟨show (_ : Int) < _ by decide, show (_ : Int) < _ by decide⟩) | exact Or.inl (Or.inl ⟨show (_ : Int) < _ by decide, show (_ : Int) < _ by decide⟩) | exact ⟨show (0 : Int) ≤ _ by decide, show (_ : Int) ≤ _ by decide, show Int.natAbs _ < _ by decide⟩)) | refine Exists.intro _ (Exists.intro _ (And.intro rfl (And.intro rfl ?_))) | refine Exists.intro _ (And.intro (Le.rf _) ?_) | refine Exists.intro _ (And.intro rfl ?_)))
      rw [h0 rfl]
      (repeat (first | (refine Nx.mk ?_; (try (dsimp only [nr_none, nr_some, nr_nil, nf_leaf, nf_pin, nf_node, nf_nil, nf_cons, ni_f, ni_t, nw_nil, nw_cons, ns_0, ns_s]))) | (refine And.intro ?_ ?_; focus (first | exact rfl | exact frz_frz _ | exact frz_nf _ _ | exact (show frz _ = _ by assumption) | (show frz _ = _; simp only [nf_node, nf_cons, nf_nil, nf_leaf, frzL_frzL, intsT_frz]; done) | exact frz_ints _ _ | exact Nat.le_of_ble_eq_true rfl | exact (show (0 : Int) < _ by decide) | exact (show (0 : Int) ≤ _ by decide) | exact ⟨show (0 : Int) < _ by decide, show Nat.log2 _ < _ by decide⟩ | exact Or.inl (Or.inr ⟨show (_ : Int) < _ by decide, show (_ : Int) < _ by decide⟩) | exact Or.inl (Or.inl ⟨show (_ : Int) < _ by decide, show (_ : Int) < _ by decide⟩) | exact ⟨show (0 : Int) ≤ _ by decide, show (_ : Int) ≤ _ by decide, show Int.natAbs _ < _ by decide⟩)) | refine Exists.intro _ (Exists.intro _ (And.intro rfl (And.intro rfl ?_))) | refine Exists.intro _ (And.intro (Le.rf _) ?_) | refine Exists.intro _ (And.intro rfl ?_)))
      exact q
theorem mulA {x y : Int} {k j : Nat} (h1 : x.natAbs < 2 ^ (k + 1)) (h2 : y.natAbs < 2 ^ (j + 1)) (h : k + j ≤ 8000) : CMulA x y := .inr (wide_mul h1 h2 (by omega) (by omega) (by omega))
theorem Lim.dn {r : Rat} {k : Nat} (h : Lim k r) : (r.den : Int).natAbs < 2 ^ (k + 1) := h.den
theorem rd_under {ts : List T} {Q : T → List T → Prop} {E : Value → List (Str × V) → List T → Prop} (h : sp_under ts Q E) : t_under (bodyEnds [false, false] Q E) (startE 2 (frzP [false, false] ts)) := by
  obtain ⟨a, b, o, p, k, j, rfl, h1, h2, h3, q⟩ := h
  (try simp only [np_t, np_f, np_n, ne_c, ne_n, ne_0, nf_leaf, nf_pin, nf_node])
  (repeat (first | (refine Nx.mk ?_; (try (dsimp only [nr_none, nr_some, nr_nil, nf_leaf, nf_pin, nf_node, nf_nil, nf_cons, ni_f, ni_t, nw_nil, nw_cons, ns_0, ns_s]))) | (refine And.intro ?_ ?_; focus (first | exact rfl | exact frz_frz _ | exact frz_nf _ _ | exact (show frz _ = _ by assumption) | (show frz _ = _; simp only [nf_node, nf_cons, nf_nil, nf_leaf, frzL_frzL, intsT_frz]; done) | exact frz_ints _ _ | exact Nat.le_of_ble_eq_true rfl | exact (show (0 : Int) < _ by decide) | exact (show (0 : Int) ≤ _ by decide) | exact ⟨show (0 : Int) < _ by decide, show Nat.log2 _ < _ by decide⟩ | exact Or.inl (Or.inr ⟨show (_ : Int) < _ by decide, show (_ : Int) < _ by decide⟩) | exact Or.inl (Or.inl ⟨show (_ : Int) < _ by decide, show (_ : Int) < _ by decide⟩) | exact ⟨show (0 : Int) ≤ _ by decide, show (_ : Int) ≤ _ by decide, show Int.natAbs _ < _ by decide⟩)) | refine Exists.intro _ (Exists.intro _ (And.intro rfl (And.intro rfl ?_))) | refine Exists.intro _ (And.intro (Le.rf _) ?_) | refine Exists.intro _ (And.intro rfl ?_)))
  refine And.intro (mulA h1.num h2.dn h3) ?_
  (repeat (first | (refine Nx.mk ?_; (try (dsimp only [nr_none, nr_some, nr_nil, nf_leaf, nf_pin, nf_node, nf_nil, nf_cons, ni_f, ni_t, nw_nil, nw_cons, ns_0, ns_s]))) | (refine And.intro ?_ ?_; focus (first | exact rfl | exact frz_frz _ | exact frz_nf _ _ | exact (show frz _ = _ by assumption) | (show frz _ = _; simp only [nf_node, nf_cons, nf_nil, nf_leaf, frzL_frzL, intsT_frz]; done) | exact frz_ints _ _ | exact Nat.le_of_ble_eq_true rfl | exact (show (0 : Int) < _ by decide) | exact (show (0 : Int) ≤ _ by decide) | exact ⟨show (0 : Int) < _ by decide, show Nat.log2 _ < _ by decide⟩ | exact Or.inl (Or.inr ⟨show (_ : Int) < _ by decide, show (_ : Int) < _ by decide⟩) | exact Or.inl (Or.inl ⟨show (_ : Int) < _ by decide, show (_ : Int) < _ by decide⟩) | exact ⟨show (0 : Int) ≤ _ by decide, show (_ : Int) ≤ _ by decide, show Int.natAbs _ < _ by decide⟩)) | refine Exists.intro _ (Exists.intro _ (And.intro rfl (And.intro rfl ?_))) | refine Exists.intro _ (And.intro (Le.rf _) ?_) | refine Exists.intro _ (And.intro rfl ?_)))
  refine And.intro (mulA h2.num h1.dn (by omega)) ?_
  show Q (.leaf (.bl (decide (a.num * b.den < b.num * a.den)))) []
  rw [decide_eq_decide.mpr (lt_q a b)]
  exact q
theorem rd__law_mixed {ts : List T} {Q : T → List T → Prop} {E : Value → List (Str × V) → List T → Prop} (h : sp__law_mixed ts Q E) : t__law_mixed (bodyEnds [true, false] Q E) (startE 4 (frzP [true, false] ts)) := by
  obtain ⟨bag, o, its, rfl, hb, hl, q⟩ := h
  (try simp only [np_t, np_f, np_n, ne_c, ne_n, ne_0, nf_leaf, nf_pin, nf_node])
  (repeat (first | (refine Nx.mk ?_; (try (dsimp only [nr_none, nr_some, nr_nil, nf_leaf, nf_pin, nf_node, nf_nil, nf_cons, ni_f, ni_t, nw_nil, nw_cons, ns_0, ns_s]))) | (refine And.intro ?_ ?_; focus (first | exact rfl | exact frz_frz _ | exact frz_nf _ _ | exact (show frz _ = _ by assumption) | (show frz _ = _; simp only [nf_node, nf_cons, nf_nil, nf_leaf, frzL_frzL, intsT_frz]; done) | exact frz_ints _ _ | exact Nat.le_of_ble_eq_true rfl | exact (show (0 : Int) < _ by decide) | exact (show (0 : Int) ≤ _ by decide) | exact ⟨show (0 : Int) < _ by decide, show Nat.log2 _ < _ by decide⟩ | exact Or.inl (Or.inr ⟨show (_ : Int) < _ by decide, show (_ : Int) < _ by decide⟩) | exact Or.inl (Or.inl ⟨show (_ : Int) < _ by decide, show (_ : Int) < _ by decide⟩) | exact ⟨show (0 : Int) ≤ _ by decide, show (_ : Int) ≤ _ by decide, show Int.natAbs _ < _ by decide⟩)) | refine Exists.intro _ (Exists.intro _ (And.intro rfl (And.intro rfl ?_))) | refine Exists.intro _ (And.intro (Le.rf _) ?_) | refine Exists.intro _ (And.intro rfl ?_)))
  (conv => whnf)
  rw [frzL_frzL]
  refine Loop.fit (frzL its) id (List.map_id _).symm (fun z : T × List T => [some (some z.1), some (some (.node false .lst (frzL its))), some (some (.node true .lst z.2)), none]) (fun i z => IsBag z.1 ∧ z.2.Perm ((frzL its).take i)) (bag, []) ⟨hb, .refl _⟩ (by repeat' (first | exact Fits.e | refine Fits.n ?_ | refine Fits.s rfl ?_)) (fun i t z g ht hI hF R hR => ?_) fun z g hI hF => ?_
  · (repeat (first | (obtain ⟨_, rfl, hF⟩ := hF) | (obtain ⟨_, _, rfl, hF⟩ := hF))); (try cases hF)
    obtain ⟨hb', hp⟩ := hI
    have hl2 : z.2.length ≤ 10000 := by rw [hp.length_eq, List.length_take, frzL_length]; omega
    have ft : frz t = t := frzL_get ht
    (repeat (first | (refine Nx.mk ?_; (try (dsimp only [nr_none, nr_some, nr_nil, nf_leaf, nf_pin, nf_node, nf_nil, nf_cons, ni_f, ni_t, nw_nil, nw_cons, ns_0, ns_s]))) | (refine And.intro ?_ ?_; focus (first | exact rfl | exact frz_frz _ | exact frz_nf _ _ | exact (show frz _ = _ by assumption) | (show frz _ = _; simp only [nf_node, nf_cons, nf_nil, nf_leaf, frzL_frzL, intsT_frz]; done) | exact frz_ints _ _ | exact Nat.le_of_ble_eq_true rfl | exact (show (0 : Int) < _ by decide) | exact (show (0 : Int) ≤ _ by decide) | exact ⟨show (0 : Int) < _ by decide, show Nat.log2 _ < _ by decide⟩ | exact Or.inl (Or.inr ⟨show (_ : Int) < _ by decide, show (_ : Int) < _ by decide⟩) | exact Or.inl (Or.inl ⟨show (_ : Int) < _ by decide, show (_ : Int) < _ by decide⟩) | exact ⟨show (0 : Int) ≤ _ by decide, show (_ : Int) ≤ _ by decide, show Int.natAbs _ < _ by decide⟩)) | refine Exists.intro _ (Exists.intro _ (And.intro rfl (And.intro rfl ?_))) | refine Exists.intro _ (And.intro (Le.rf _) ?_) | refine Exists.intro _ (And.intro rfl ?_)))
    refine ⟨z.1, _, rfl, hb', by omega, .inl (by rw [frzL_length]; omega), fun r bag' r0 r1 hb2 => ?_⟩
    rw [frzL_length] at r1
    (repeat (first | (refine Nx.mk ?_; (try (dsimp only [nr_none, nr_some, nr_nil, nf_leaf, nf_pin, nf_node, nf_nil, nf_cons, ni_f, ni_t, nw_nil, nw_cons, ns_0, ns_s]))) | (refine And.intro ?_ ?_; focus (first | exact rfl | exact frz_frz _ | exact frz_nf _ _ | exact (show frz _ = _ by assumption) | (show frz _ = _; simp only [nf_node, nf_cons, nf_nil, nf_leaf, frzL_frzL, intsT_frz]; done) | exact frz_ints _ _ | exact Nat.le_of_ble_eq_true rfl | exact (show (0 : Int) < _ by decide) | exact (show (0 : Int) ≤ _ by decide) | exact ⟨show (0 : Int) < _ by decide, show Nat.log2 _ < _ by decide⟩ | exact Or.inl (Or.inr ⟨show (_ : Int) < _ by decide, show (_ : Int) < _ by decide⟩) | exact Or.inl (Or.inl ⟨show (_ : Int) < _ by decide, show (_ : Int) < _ by decide⟩) | exact ⟨show (0 : Int) ≤ _ by decide, show (_ : Int) ≤ _ by decide, show Int.natAbs _ < _ by decide⟩)) | refine Exists.intro _ (Exists.intro _ (And.intro rfl (And.intro rfl ?_))) | refine Exists.intro _ (And.intro (Le.rf _) ?_) | refine Exists.intro _ (And.intro rfl ?_)))
    refine And.intro ⟨(show z.2.length < 16777216 by omega), r0, by omega⟩ ?_
    have eft : (if false = true then id t else frz (id t)) = t := ft
    simp only [eft]
    refine hR (bag', z.2.take r.toNat ++ [t] ++ z.2.drop r.toNat) _ ⟨hb2, ?_⟩ (by repeat' (first | exact Fits.e | refine Fits.n ?_ | refine Fits.s rfl ?_))
    rw [List.take_add_one, ht]
    have p1 : (z.2.take r.toNat ++ [t] ++ z.2.drop r.toNat).Perm (t :: z.2) := by
      rw [List.append_assoc]
      refine List.perm_middle.trans (List.Perm.cons _ ?_)
      exact List.Perm.of_eq (List.take_append_drop _ _)
    refine p1.trans ((List.Perm.cons _ hp).trans ?_)
    exact (List.perm_append_comm (l₁ := [t]))
  · (repeat (first | (obtain ⟨_, rfl, hF⟩ := hF) | (obtain ⟨_, _, rfl, hF⟩ := hF))); (try cases hF)
    (repeat (first | (refine Nx.mk ?_; (try (dsimp only [nr_none, nr_some, nr_nil, nf_leaf, nf_pin, nf_node, nf_nil, nf_cons, ni_f, ni_t, nw_nil, nw_cons, ns_0, ns_s]))) | (refine And.intro ?_ ?_; focus (first | exact rfl | exact frz_frz _ | exact frz_nf _ _ | exact (show frz _ = _ by assumption) | (show frz _ = _; simp only [nf_node, nf_cons, nf_nil, nf_leaf, frzL_frzL, intsT_frz]; done) | exact frz_ints _ _ | exact Nat.le_of_ble_eq_true rfl | exact (show (0 : Int) < _ by decide) | exact (show (0 : Int) ≤ _ by decide) | exact ⟨show (0 : Int) < _ by decide, show Nat.log2 _ < _ by decide⟩ | exact Or.inl (Or.inr ⟨show (_ : Int) < _ by decide, show (_ : Int) < _ by decide⟩) | exact Or.inl (Or.inl ⟨show (_ : Int) < _ by decide, show (_ : Int) < _ by decide⟩) | exact ⟨show (0 : Int) ≤ _ by decide, show (_ : Int) ≤ _ by decide, show Int.natAbs _ < _ by decide⟩)) | refine Exists.intro _ (Exists.intro _ (And.intro rfl (And.intro rfl ?_))) | refine Exists.intro _ (And.intro (Le.rf _) ?_) | refine Exists.intro _ (And.intro rfl ?_)))
    rw [List.take_of_length_le (Nat.le_refl _)] at hI
    exact q _ _ hI.2 hI.1
end L72
set_option Elab.async false
set_option linter.all false
set_option maxRecDepth 100000
set_option maxHeartbeats 4000000
namespace L72
open PySem L2 DL
local macro_rules | `(tactic| walk_at "go") => `(tactic| ((try (conv => whnf)); (repeat (first | (refine Nx.mk ?_; ((try (dsimp only [nr_none, nr_some, nr_nil, nf_leaf, nf_pin, nf_node, nf_nil, nf_cons, ni_f, ni_t, nw_nil, nw_cons, ns_0, ns_s])); (try simp only [intsT_frz, frzL_frzL])); (try (conv => whnf))) | (refine And.intro ?_ ?_; (focus (first | exact rfl | exact frz_frz _ | exact frz_nf _ _ | exact (show frz _ = _ by assumption) | (show frz _ = _; simp only [nf_node, nf_cons, nf_nil, nf_leaf, frzL_frzL, intsT_frz]; done) | exact frz_ints _ _ | (with_reducible assumption) | (rw [nf_node, intsT_frz]; done) | (walk_at "cl") | (omega) | (exact ⟨by omega, by omega⟩) | (show _ ≤ sizeLine; refine Nat.le_trans (m := 10000) ?_ (by decide); simp only [frzL_ln, List.length_append, List.length_map, List.length_reverse, List.length_cons, List.length_nil, List.length_range, Int.toNat_natCast]; omega) | (exact ⟨by omega, by omega, by refine Nat.le_trans (m := 10000) ?_ (by decide); simp only [frzL_ln, List.length_append, List.length_map, List.length_reverse, List.length_cons, List.length_nil, List.length_range, Int.toNat_natCast]; omega⟩) | (show (_ : Nat) ≤ _; exact Nat.le_of_ble_eq_true rfl) | exact (show (0 : Int) < _ by decide) | exact (show (0 : Int) ≤ _ by decide) | exact ⟨show (0 : Int) < _ by decide, show Nat.log2 _ < _ by decide⟩ | exact Or.inl (Or.inr ⟨show (_ : Int) < _ by decide, show (_ : Int) < _ by decide⟩) | exact Or.inl (Or.inl ⟨show (_ : Int) < _ by decide, show (_ : Int) < _ by decide⟩) | exact ⟨show (0 : Int) ≤ _ by decide, show (_ : Int) ≤ _ by decide, show Int.natAbs _ < _ by decide⟩)); (try (conv => whnf))) | (refine Exists.intro _ (Exists.intro _ (And.intro rfl (And.intro rfl ?_))); (try (conv => whnf))) | (refine Exists.intro _ (And.intro (Le.rf _) ?_); (try (conv => whnf))) | (refine Exists.intro _ (And.intro rfl ?_); (try (conv => whnf)))))))
local macro_rules | `(tactic| walk_at "gn") => `(tactic| ((try (conv => whnf)); (repeat (first | (refine And.intro ?_ ?_; (focus (first | exact rfl | exact frz_frz _ | exact frz_nf _ _ | exact (show frz _ = _ by assumption) | (show frz _ = _; simp only [nf_node, nf_cons, nf_nil, nf_leaf, frzL_frzL, intsT_frz]; done) | exact frz_ints _ _ | (with_reducible assumption) | (rw [nf_node, intsT_frz]; done) | (walk_at "cl") | (omega) | (exact ⟨by omega, by omega⟩) | (show _ ≤ sizeLine; refine Nat.le_trans (m := 10000) ?_ (by decide); simp only [frzL_ln, List.length_append, List.length_map, List.length_reverse, List.length_cons, List.length_nil, List.length_range, Int.toNat_natCast]; omega) | (exact ⟨by omega, by omega, by refine Nat.le_trans (m := 10000) ?_ (by decide); simp only [frzL_ln, List.length_append, List.length_map, List.length_reverse, List.length_cons, List.length_nil, List.length_range, Int.toNat_natCast]; omega⟩) | (show (_ : Nat) ≤ _; exact Nat.le_of_ble_eq_true rfl) | exact (show (0 : Int) < _ by decide) | exact (show (0 : Int) ≤ _ by decide) | exact ⟨show (0 : Int) < _ by decide, show Nat.log2 _ < _ by decide⟩ | exact Or.inl (Or.inr ⟨show (_ : Int) < _ by decide, show (_ : Int) < _ by decide⟩) | exact Or.inl (Or.inl ⟨show (_ : Int) < _ by decide, show (_ : Int) < _ by decide⟩) | exact ⟨show (0 : Int) ≤ _ by decide, show (_ : Int) ≤ _ by decide, show Int.natAbs _ < _ by decide⟩)); (try (conv => whnf))) | (refine Exists.intro _ (Exists.intro _ (And.intro rfl (And.intro rfl ?_))); (try (conv => whnf))) | (refine Exists.intro _ (And.intro (Le.rf _) ?_); (try (conv => whnf))) | (refine Exists.intro _ (And.intro rfl ?_); (try (conv => whnf)))))))
local macro_rules | `(tactic| walk_at "cl") => `(tactic| (first | (fail) | (exact frz_frz _; done)))
variable [Kls]
def fillQ : List (Option (Option T)) → Nat → (Nat → Option T) → Ev
  | [], _, _ => []
  | some x :: ps, k, ws => x :: fillQ ps (k + 1) ws
  | none :: ps, k, ws => ws k :: fillQ ps (k + 1) ws
theorem fillQ_eq : ∀ {ps : List (Option (Option T))} {k : Nat} {ws vs : Nat → Option T}, (∀ i, k ≤ i → ws i = vs i) → fillQ ps k ws = fillQ ps k vs
  | [], _, _, _, _ => rfl
  | some x :: ps, k, ws, vs, h => by
    show x :: fillQ ps (k + 1) ws = x :: fillQ ps (k + 1) vs
    rw [fillQ_eq (ps := ps) (k := k + 1) fun i hi => h i (by omega)]
  | none :: ps, k, ws, vs, h => by
    show ws k :: fillQ ps (k + 1) ws = vs k :: fillQ ps (k + 1) vs
    rw [fillQ_eq (ps := ps) (k := k + 1) fun i hi => h i (by omega), h k (Nat.le_refl _)]
theorem Fits.fill : ∀ {ps : List (Option (Option T))} {k : Nat} {g : Ev}, Fits ps g → ∃ ws, g = fillQ ps k ws
  | [], _, _, h => ⟨fun _ => none, h⟩
  | some x :: ps, k, g, h => by
    obtain ⟨r, rfl, h⟩ := h
    obtain ⟨ws, rfl⟩ := Fits.fill (k := k + 1) h
    exact ⟨ws, rfl⟩
  | none :: ps, k, g, h => by
    obtain ⟨y, r, rfl, h⟩ := h
    obtain ⟨ws, rfl⟩ := Fits.fill (k := k + 1) h
    refine ⟨fun i => if i = k then y else ws i, ?_⟩
    show _ = (if k = k then y else ws k) :: fillQ ps (k + 1) (fun i => if i = k then y else ws i)
    rw [if_pos rfl, fillQ_eq (ps := ps) (k := k + 1) (ws := ws) (vs := fun i => if i = k then y else ws i) fun i hi => by rw [if_neg (by omega)]]
theorem ifN_dec {p : Prop} [Decidable p] {a b : Prop} (h1 : p → b) (h2 : ¬ p → a) : ifB (!decide p) a b := by
  by_cases h : p
  · rw [decide_eq_true h]
    exact h1 h
  · rw [decide_eq_false h]
    exact h2 h
theorem rd_up {ts : List T} {Q : T → List T → Prop} {E : Value → List (Str × V) → List T → Prop} (h : sp_up ts Q E) : t_up (bodyEnds [false, false] Q E) (startE 4 (frzP [false, false] ts)) := by
  obtain ⟨n, d, rfl, h1, h2, q⟩ := h
  (try simp only [np_t, np_f, np_n, ne_c, ne_n, ne_0, nf_leaf, nf_pin, nf_node])
  (repeat (first | (refine Nx.mk ?_; ((try (dsimp only [nr_none, nr_some, nr_nil, nf_leaf, nf_pin, nf_node, nf_nil, nf_cons, ni_f, ni_t, nw_nil, nw_cons, ns_0, ns_s])); (try simp only [intsT_frz, frzL_frzL]))) | (refine And.intro ?_ ?_; focus (first | exact rfl | exact frz_frz _ | exact frz_nf _ _ | exact (show frz _ = _ by assumption) | (show frz _ = _; simp only [nf_node, nf_cons, nf_nil, nf_leaf, frzL_frzL, intsT_frz]; done) | exact frz_ints _ _ | exact Nat.le_of_ble_eq_true rfl | exact (show (0 : Int) < _ by decide) | exact (show (0 : Int) ≤ _ by decide) | exact ⟨show (0 : Int) < _ by decide, show Nat.log2 _ < _ by decide⟩ | exact Or.inl (Or.inr ⟨show (_ : Int) < _ by decide, show (_ : Int) < _ by decide⟩) | exact Or.inl (Or.inl ⟨show (_ : Int) < _ by decide, show (_ : Int) < _ by decide⟩) | exact ⟨show (0 : Int) ≤ _ by decide, show (_ : Int) ≤ _ by decide, show Int.natAbs _ < _ by decide⟩)) | refine Exists.intro _ (Exists.intro _ (And.intro rfl (And.intro rfl ?_))) | refine Exists.intro _ (And.intro (Le.rf _) ?_) | refine Exists.intro _ (And.intro rfl ?_)))
  refine And.intro ⟨h1, PyProof.noPylong_of_log2 (by have := (Nat.log2_lt (by omega : d.natAbs ≠ 0) (k := 200)).mpr (by omega); omega)⟩ ?_
  (repeat (first | (refine Nx.mk ?_; ((try (dsimp only [nr_none, nr_some, nr_nil, nf_leaf, nf_pin, nf_node, nf_nil, nf_cons, ni_f, ni_t, nw_nil, nw_cons, ns_0, ns_s])); (try simp only [intsT_frz, frzL_frzL]))) | (refine And.intro ?_ ?_; focus (first | exact rfl | exact frz_frz _ | exact frz_nf _ _ | exact (show frz _ = _ by assumption) | (show frz _ = _; simp only [nf_node, nf_cons, nf_nil, nf_leaf, frzL_frzL, intsT_frz]; done) | exact frz_ints _ _ | exact Nat.le_of_ble_eq_true rfl | exact (show (0 : Int) < _ by decide) | exact (show (0 : Int) ≤ _ by decide) | exact ⟨show (0 : Int) < _ by decide, show Nat.log2 _ < _ by decide⟩ | exact Or.inl (Or.inr ⟨show (_ : Int) < _ by decide, show (_ : Int) < _ by decide⟩) | exact Or.inl (Or.inl ⟨show (_ : Int) < _ by decide, show (_ : Int) < _ by decide⟩) | exact ⟨show (0 : Int) ≤ _ by decide, show (_ : Int) ≤ _ by decide, show Int.natAbs _ < _ by decide⟩)) | refine Exists.intro _ (Exists.intro _ (And.intro rfl (And.intro rfl ?_))) | refine Exists.intro _ (And.intro (Le.rf _) ?_) | refine Exists.intro _ (And.intro rfl ?_)))
  unfold upQ at q
  refine ifB_dec (fun hb => ?_) (fun hb => ?_)
  · rw [if_pos hb] at q
    (repeat (first | (refine Nx.mk ?_; ((try (dsimp only [nr_none, nr_some, nr_nil, nf_leaf, nf_pin, nf_node, nf_nil, nf_cons, ni_f, ni_t, nw_nil, nw_cons, ns_0, ns_s])); (try simp only [intsT_frz, frzL_frzL]))) | (refine And.intro ?_ ?_; focus (first | exact rfl | exact frz_frz _ | exact frz_nf _ _ | exact (show frz _ = _ by assumption) | (show frz _ = _; simp only [nf_node, nf_cons, nf_nil, nf_leaf, frzL_frzL, intsT_frz]; done) | exact frz_ints _ _ | exact Nat.le_of_ble_eq_true rfl | exact (show (0 : Int) < _ by decide) | exact (show (0 : Int) ≤ _ by decide) | exact ⟨show (0 : Int) < _ by decide, show Nat.log2 _ < _ by decide⟩ | exact Or.inl (Or.inr ⟨show (_ : Int) < _ by decide, show (_ : Int) < _ by decide⟩) | exact Or.inl (Or.inl ⟨show (_ : Int) < _ by decide, show (_ : Int) < _ by decide⟩) | exact ⟨show (0 : Int) ≤ _ by decide, show (_ : Int) ≤ _ by decide, show Int.natAbs _ < _ by decide⟩)) | refine Exists.intro _ (Exists.intro _ (And.intro rfl (And.intro rfl ?_))) | refine Exists.intro _ (And.intro (Le.rf _) ?_) | refine Exists.intro _ (And.intro rfl ?_)))
    exact q
  · rw [if_neg hb, Int.add_zero] at q
    (repeat (first | (refine Nx.mk ?_; ((try (dsimp only [nr_none, nr_some, nr_nil, nf_leaf, nf_pin, nf_node, nf_nil, nf_cons, ni_f, ni_t, nw_nil, nw_cons, ns_0, ns_s])); (try simp only [intsT_frz, frzL_frzL]))) | (refine And.intro ?_ ?_; focus (first | exact rfl | exact frz_frz _ | exact frz_nf _ _ | exact (show frz _ = _ by assumption) | (show frz _ = _; simp only [nf_node, nf_cons, nf_nil, nf_leaf, frzL_frzL, intsT_frz]; done) | exact frz_ints _ _ | exact Nat.le_of_ble_eq_true rfl | exact (show (0 : Int) < _ by decide) | exact (show (0 : Int) ≤ _ by decide) | exact ⟨show (0 : Int) < _ by decide, show Nat.log2 _ < _ by decide⟩ | exact Or.inl (Or.inr ⟨show (_ : Int) < _ by decide, show (_ : Int) < _ by decide⟩) | exact Or.inl (Or.inl ⟨show (_ : Int) < _ by decide, show (_ : Int) < _ by decide⟩) | exact ⟨show (0 : Int) ≤ _ by decide, show (_ : Int) ≤ _ by decide, show Int.natAbs _ < _ by decide⟩)) | refine Exists.intro _ (Exists.intro _ (And.intro rfl (And.intro rfl ?_))) | refine Exists.intro _ (And.intro (Le.rf _) ?_) | refine Exists.intro _ (And.intro rfl ?_)))
    exact q
theorem frz_way (dx : Addr) (w : Lw) : frz (T.node false (.ins C_Lists dx ns_Lists) (wayK false false w)) = T.node false (.ins C_Lists dx ns_Lists) (wayK false false w) := by
  simp only [wayK, pairI, nf_cons, nf_nil, nf_node, nf_leaf, intsT_frz]
theorem idx_ok {a : Int} : ∀ {l : List Int}, a ∈ l → l[l.idxOf a]? = some a ∧ ∀ m, m < l.idxOf a → l[m]? ≠ some a
  | b :: r, h => by
    by_cases e : b = a
    · subst e
      simp
    · have hr : a ∈ r := (List.mem_cons.mp h).resolve_left fun z => e z.symm
      obtain ⟨h1, h2⟩ := idx_ok hr
      have : (b :: r).idxOf a = r.idxOf a + 1 := by rw [List.idxOf_cons, beq_false_of_ne e]; rfl
      rw [this]
      refine ⟨by simpa using h1, fun m hm => ?_⟩
      cases m with
      | zero => simpa using e
      | succ m => simpa using h2 m (by omega)
theorem in_lots {w : Lw} (ok : LwOk w) {a : Nat} (h : a < w.h) : (a : Int) ∈ w.lots := ok.lots.mem_iff.mpr (List.mem_map.mpr ⟨a, List.mem_range.mpr h, rfl⟩)
theorem frz_marks (ms : List (Option Rat)) : frzL (ms.map (markT false)) = ms.map (markT false) := by
  rw [frzL_map, List.map_map]
  exact List.map_congr_left fun q _ => by cases q <;> simp only [Function.comp, markT, qT, nf_node, nf_cons, nf_nil, nf_leaf]
theorem due_lt {w : Lw} {ms : List (Option Rat)} {k : Nat} (h : dueL w ms = some k) : k < w.h := by
  have key : ∀ (l : List Nat) (b : Option Nat), (∀ x ∈ l, x < w.h) → (∀ x, b = some x → x < w.h) → ∀ x, l.foldl (dueStep w ms) b = some x → x < w.h := by
    intro l
    induction l with
    | nil => exact fun b _ h x e => h x e
    | cons a r ih =>
      intro b h1 h2
      refine ih _ (fun x hx => h1 x (List.mem_cons_of_mem _ hx)) fun x hx => ?_
      unfold dueStep at hx
      split at hx
      · exact h2 x hx
      · split at hx
        · cases hx
          exact h1 _ List.mem_cons_self
        · split at hx
          · cases hx
            exact h1 _ List.mem_cons_self
          · exact h2 x hx
  exact key _ none (fun x hx => List.mem_range.mp hx) (fun x e => by cases e) k h
theorem rounds_ok {w : Lw} {vs : List Int} {least : Int} : ∀ (n : Nat) (had : List Int), (roundsL w vs least n had).length ≤ n ∧ ∀ r ∈ roundsL w vs least n had, r.2 < w.h
  | 0, _ => ⟨Nat.le_refl _, fun r hr => by cases hr⟩
  | n + 1, had => by
    unfold roundsL
    split
    · exact ⟨Nat.zero_le _, fun r hr => by cases hr⟩
    · rename_i k hk
      obtain ⟨h1, h2⟩ := rounds_ok (w := w) (vs := vs) (least := least) n (addAt had k 1)
      refine ⟨by rw [List.length_cons]; omega, fun r hr => ?_⟩
      rcases List.mem_cons.mp hr with rfl | hr
      · exact due_lt hk
      · exact h2 r hr
theorem frz_round (o p : Bool) (r : List (Option Rat) × Nat) : frz (roundT o p r) = roundT false false r := by
  simp only [roundT, nf_node, nf_cons, nf_nil, nf_leaf]
  have : frzL (r.1.map (markT p)) = r.1.map (markT false) := by
    rw [frzL_map, List.map_map]
    exact List.map_congr_left fun q _ => by cases q <;> simp only [Function.comp, markT, qT, nf_node, nf_cons, nf_nil, nf_leaf]
  rw [this]
theorem eq_qd {o p : Bool} {x y : Rat} {Q : T → Prop} (q : Q (.leaf (.bl (decide (x = y))))) : rtEq false (.node o .tup (qT x)) (.node p .tup (qT y)) Q := by
  refine eq_pair ?_
  have e : decide (x.num = y.num ∧ (x.den : Int) = y.den) = decide (x = y) := decide_eq_decide.mpr ⟨fun ⟨a, b⟩ => Rat.ext a (by omega), fun z => by rw [z]; exact ⟨rfl, rfl⟩⟩
  show Q (.leaf (.bl (decide (x.num = y.num ∧ (x.den : Int) = y.den))))
  rw [e]
  exact q
theorem toP_lI (o : Bool) (ns : List Int) : toP (.node o .lst (intsT ns)) = some (.list (ns.map .int)) := by
  simp only [toP, toPL_ints]
  rfl
theorem rounds_none {w : Lw} {vs had : List Int} {least : Int} {n : Nat} (h : dueL w (marksL w vs least had) = none) : roundsL w vs least (n + 1) had = [] := by
  unfold roundsL
  rw [h]
theorem rounds_some {w : Lw} {vs had : List Int} {least : Int} {n k : Nat} (h : dueL w (marksL w vs least had) = some k) : roundsL w vs least (n + 1) had = (marksL w vs least had, k) :: roundsL w vs least n (addAt had k 1) := by
  conv => lhs; unfold roundsL
  rw [h]
theorem rangeI_sorted (h : Nat) : (rangeI h).Pairwise (fun a b => a ≤ b) := by
  unfold rangeI
  exact List.Pairwise.map _ (fun a b (hab : a < b) => by omega) List.pairwise_lt_range
theorem good_rangeI {h : Nat} (h1 : h ≤ 12) : GoodD (.list ((rangeI h).map .int)) := good_ints (fun n hn => by
  obtain ⟨k, hk, rfl⟩ := List.mem_map.mp hn
  have := List.mem_range.mp hk
  exact small62 (by omega)) (by simp [rangeI]; omega)
theorem LotsI.frz {τ : T} {h : Nat} {lots : List Int} (H : LotsI τ h lots) : LotsI (DL.frz τ) h lots := by
  rcases H with ⟨o, rfl⟩ | ⟨rfl, rfl⟩
  · exact .inl ⟨false, by rw [nf_node, intsT_frz]⟩
  · exact .inr ⟨rfl, rfl⟩
theorem rd_lots_of {ts : List T} {Q : T → List T → Prop} {E : Value → List (Str × V) → List T → Prop} (h : sp_lots_of ts Q E) : t_lots_of (bodyEnds [false, false] Q E) (startE 3 (frzP [false, false] ts)) := by
  obtain ⟨h, τ, lots, rfl, h0, h1, h2, q⟩ := h
  rcases h0 with ⟨o, rfl⟩ | ⟨rfl, rfl⟩
  case inr =>
    show t_lots_of _ [some (.leaf (.int (h : Nat))), some (.leaf .non), none]
    (try simp only [np_t, np_f, np_n, ne_c, ne_n, ne_0, nf_leaf, nf_pin, nf_node])
    (repeat (first | (refine Nx.mk ?_; ((try (dsimp only [nr_none, nr_some, nr_nil, nf_leaf, nf_pin, nf_node, nf_nil, nf_cons, ni_f, ni_t, nw_nil, nw_cons, ns_0, ns_s])); (try simp only [intsT_frz, frzL_frzL]))) | (refine And.intro ?_ ?_; focus (first | exact rfl | exact frz_frz _ | exact frz_nf _ _ | exact (show frz _ = _ by assumption) | (show frz _ = _; simp only [nf_node, nf_cons, nf_nil, nf_leaf, frzL_frzL, intsT_frz]; done) | exact frz_ints _ _ | exact Nat.le_of_ble_eq_true rfl | exact (show (0 : Int) < _ by decide) | exact (show (0 : Int) ≤ _ by decide) | exact ⟨show (0 : Int) < _ by decide, show Nat.log2 _ < _ by decide⟩ | exact Or.inl (Or.inr ⟨show (_ : Int) < _ by decide, show (_ : Int) < _ by decide⟩) | exact Or.inl (Or.inl ⟨show (_ : Int) < _ by decide, show (_ : Int) < _ by decide⟩) | exact ⟨show (0 : Int) ≤ _ by decide, show (_ : Int) ≤ _ by decide, show Int.natAbs _ < _ by decide⟩)) | refine Exists.intro _ (Exists.intro _ (And.intro rfl (And.intro rfl ?_))) | refine Exists.intro _ (And.intro (Le.rf _) ?_) | refine Exists.intro _ (And.intro rfl ?_)))
    (conv => whnf)
    refine And.intro (⟨by omega, by omega, by omega, by omega, by omega⟩) ?_
    rw [show (rgV 0 (h : Int)).map T.leaf = intsT (rangeI h) by unfold rgV rangeI; simp [intsT_eq, List.map_map, Function.comp_def]]
    exact q
  have hl : lots.length = h := by rw [h2.length_eq]; simp [rangeI]
  show t_lots_of _ [some (.leaf (.int (h : Nat))), some (.node false .lst (frzL (intsT lots))), none]
  rw [intsT_frz]
  (repeat (first | (refine Nx.mk ?_; ((try (dsimp only [nr_none, nr_some, nr_nil, nf_leaf, nf_pin, nf_node, nf_nil, nf_cons, ni_f, ni_t, nw_nil, nw_cons, ns_0, ns_s])); (try simp only [intsT_frz, frzL_frzL]))) | (refine And.intro ?_ ?_; focus (first | exact rfl | exact frz_frz _ | exact frz_nf _ _ | exact (show frz _ = _ by assumption) | (show frz _ = _; simp only [nf_node, nf_cons, nf_nil, nf_leaf, frzL_frzL, intsT_frz]; done) | exact frz_ints _ _ | exact Nat.le_of_ble_eq_true rfl | exact (show (0 : Int) < _ by decide) | exact (show (0 : Int) ≤ _ by decide) | exact ⟨show (0 : Int) < _ by decide, show Nat.log2 _ < _ by decide⟩ | exact Or.inl (Or.inr ⟨show (_ : Int) < _ by decide, show (_ : Int) < _ by decide⟩) | exact Or.inl (Or.inl ⟨show (_ : Int) < _ by decide, show (_ : Int) < _ by decide⟩) | exact ⟨show (0 : Int) ≤ _ by decide, show (_ : Int) ≤ _ by decide, show Int.natAbs _ < _ by decide⟩)) | refine Exists.intro _ (Exists.intro _ (And.intro rfl (And.intro rfl ?_))) | refine Exists.intro _ (And.intro (Le.rf _) ?_) | refine Exists.intro _ (And.intro rfl ?_)))
  (conv => whnf)
  refine ifB_of (fun c => absurd c (by simp [hl, intsT_eq])) (fun _ => ?_)
  refine Nx.mk ?_
  (conv => whnf)
  refine And.intro (by rw [nf_node, intsT_frz]) ?_
  (conv => whnf)
  rw [intsT_frz]
  refine Loop.fit lots (fun n => .leaf (.int n)) (by rw [intsT_eq, List.map_map]; rfl) (fun _ : Unit => [some (some (.leaf (.int h))), some (some (.node false .lst (intsT lots))), none]) (fun i _ => True) () trivial (by repeat' (first | exact Fits.e | refine Fits.n ?_ | refine Fits.s rfl ?_)) (fun i n _ g hi hI hF R hR => ?_) fun _ g hI hF => ?_
  · (obtain ⟨ws_, rfl⟩ := Fits.fill (k := 0) hF; clear hF; dsimp only [fillQ, Nat.reduceAdd])
    (repeat (first | (refine Nx.mk ?_; ((try (dsimp only [nr_none, nr_some, nr_nil, nf_leaf, nf_pin, nf_node, nf_nil, nf_cons, ni_f, ni_t, nw_nil, nw_cons, ns_0, ns_s])); (try simp only [intsT_frz, frzL_frzL]))) | (refine And.intro ?_ ?_; focus (first | exact rfl | exact frz_frz _ | exact frz_nf _ _ | exact (show frz _ = _ by assumption) | (show frz _ = _; simp only [nf_node, nf_cons, nf_nil, nf_leaf, frzL_frzL, intsT_frz]; done) | exact frz_ints _ _ | exact Nat.le_of_ble_eq_true rfl | exact (show (0 : Int) < _ by decide) | exact (show (0 : Int) ≤ _ by decide) | exact ⟨show (0 : Int) < _ by decide, show Nat.log2 _ < _ by decide⟩ | exact Or.inl (Or.inr ⟨show (_ : Int) < _ by decide, show (_ : Int) < _ by decide⟩) | exact Or.inl (Or.inl ⟨show (_ : Int) < _ by decide, show (_ : Int) < _ by decide⟩) | exact ⟨show (0 : Int) ≤ _ by decide, show (_ : Int) ≤ _ by decide, show Int.natAbs _ < _ by decide⟩)) | refine Exists.intro _ (Exists.intro _ (And.intro rfl (And.intro rfl ?_))) | refine Exists.intro _ (And.intro (Le.rf _) ?_) | refine Exists.intro _ (And.intro rfl ?_)))
    exact hR () _ trivial (by repeat' (first | exact Fits.e | refine Fits.n ?_ | refine Fits.s rfl ?_))
  · (obtain ⟨ws_, rfl⟩ := Fits.fill (k := 0) hF; clear hF; dsimp only [fillQ, Nat.reduceAdd])
    (repeat (first | (refine Nx.mk ?_; ((try (dsimp only [nr_none, nr_some, nr_nil, nf_leaf, nf_pin, nf_node, nf_nil, nf_cons, ni_f, ni_t, nw_nil, nw_cons, ns_0, ns_s])); (try simp only [intsT_frz, frzL_frzL]))) | (refine And.intro ?_ ?_; focus (first | exact rfl | exact frz_frz _ | exact frz_nf _ _ | exact (show frz _ = _ by assumption) | (show frz _ = _; simp only [nf_node, nf_cons, nf_nil, nf_leaf, frzL_frzL, intsT_frz]; done) | exact frz_ints _ _ | exact Nat.le_of_ble_eq_true rfl | exact (show (0 : Int) < _ by decide) | exact (show (0 : Int) ≤ _ by decide) | exact ⟨show (0 : Int) < _ by decide, show Nat.log2 _ < _ by decide⟩ | exact Or.inl (Or.inr ⟨show (_ : Int) < _ by decide, show (_ : Int) < _ by decide⟩) | exact Or.inl (Or.inl ⟨show (_ : Int) < _ by decide, show (_ : Int) < _ by decide⟩) | exact ⟨show (0 : Int) ≤ _ by decide, show (_ : Int) ≤ _ by decide, show Int.natAbs _ < _ by decide⟩)) | refine Exists.intro _ (Exists.intro _ (And.intro rfl (And.intro rfl ?_))) | refine Exists.intro _ (And.intro (Le.rf _) ?_) | refine Exists.intro _ (And.intro rfl ?_)))
    intro ns' hp hs
    have e : ns' = rangeI h := (hp.trans h2).eq_of_pairwise (fun a b _ _ x y => by omega) hs (rangeI_sorted h)
    subst e
    (conv => whnf)
    refine And.intro rfl ?_
    (conv => whnf)
    refine And.intro (⟨by omega, by omega, by omega, by omega, by omega⟩) ?_
    (conv => whnf)
    refine ⟨_, _, toP_lI true _, (by rw [show (rgV 0 (h : Int)).map T.leaf = intsT (rangeI h) by unfold rgV rangeI; simp [intsT_eq, List.map_map, Function.comp_def]]; exact toP_lI true _), ?_, ?_, ?_⟩
    exact (good_rangeI h1).shaped
    exact (good_rangeI h1).shaped
    rw [(good_rangeI h1).refl]
    (repeat (first | (refine Nx.mk ?_; ((try (dsimp only [nr_none, nr_some, nr_nil, nf_leaf, nf_pin, nf_node, nf_nil, nf_cons, ni_f, ni_t, nw_nil, nw_cons, ns_0, ns_s])); (try simp only [intsT_frz, frzL_frzL]))) | (refine And.intro ?_ ?_; focus (first | exact rfl | exact frz_frz _ | exact frz_nf _ _ | exact (show frz _ = _ by assumption) | (show frz _ = _; simp only [nf_node, nf_cons, nf_nil, nf_leaf, frzL_frzL, intsT_frz]; done) | exact frz_ints _ _ | exact Nat.le_of_ble_eq_true rfl | exact (show (0 : Int) < _ by decide) | exact (show (0 : Int) ≤ _ by decide) | exact ⟨show (0 : Int) < _ by decide, show Nat.log2 _ < _ by decide⟩ | exact Or.inl (Or.inr ⟨show (_ : Int) < _ by decide, show (_ : Int) < _ by decide⟩) | exact Or.inl (Or.inl ⟨show (_ : Int) < _ by decide, show (_ : Int) < _ by decide⟩) | exact ⟨show (0 : Int) ≤ _ by decide, show (_ : Int) ≤ _ by decide, show Int.natAbs _ < _ by decide⟩)) | refine Exists.intro _ (Exists.intro _ (And.intro rfl (And.intro rfl ?_))) | refine Exists.intro _ (And.intro (Le.rf _) ?_) | refine Exists.intro _ (And.intro rfl ?_)))
    (conv => whnf)
    rw [intsT_frz]
    exact q
theorem rd_Way_init {ts : List T} {Q : T → List T → Prop} {E : Value → List (Str × V) → List T → Prop} (h : sp_Way_init ts Q E) : t_Way_init (bodyEnds [true, false, false, false] Q E) (startE 4 (frzP [true, false, false, false] ts)) := by
  obtain ⟨dx, h, s, τ, lots, rfl, h0, h1, h2, h3, h4, h5, q⟩ := h
  show t_Way_init _ [some (.node true (.ins C_Lists dx []) []), some (.leaf (.int (h : Nat))), some (.leaf (.int (s : Nat))), some (frz τ)]
  (try simp only [np_t, np_f, np_n, ne_c, ne_n, ne_0, nf_leaf, nf_pin, nf_node])
  (repeat (first | (refine Nx.mk ?_; ((try (dsimp only [nr_none, nr_some, nr_nil, nf_leaf, nf_pin, nf_node, nf_nil, nf_cons, ni_f, ni_t, nw_nil, nw_cons, ns_0, ns_s])); (try simp only [intsT_frz, frzL_frzL]))) | (refine And.intro ?_ ?_; focus (first | exact rfl | exact frz_frz _ | exact frz_nf _ _ | exact (show frz _ = _ by assumption) | (show frz _ = _; simp only [nf_node, nf_cons, nf_nil, nf_leaf, frzL_frzL, intsT_frz]; done) | exact frz_ints _ _ | exact Nat.le_of_ble_eq_true rfl | exact (show (0 : Int) < _ by decide) | exact (show (0 : Int) ≤ _ by decide) | exact ⟨show (0 : Int) < _ by decide, show Nat.log2 _ < _ by decide⟩ | exact Or.inl (Or.inr ⟨show (_ : Int) < _ by decide, show (_ : Int) < _ by decide⟩) | exact Or.inl (Or.inl ⟨show (_ : Int) < _ by decide, show (_ : Int) < _ by decide⟩) | exact ⟨show (0 : Int) ≤ _ by decide, show (_ : Int) ≤ _ by decide, show Int.natAbs _ < _ by decide⟩)) | refine Exists.intro _ (Exists.intro _ (And.intro rfl (And.intro rfl ?_))) | refine Exists.intro _ (And.intro (Le.rf _) ?_) | refine Exists.intro _ (And.intro rfl ?_)))
  (conv => whnf)
  refine ifB_dec (p := (1 : Int) ≤ h) (fun _ => ?_) (fun c => absurd (by omega) c)
  (conv => whnf)
  refine ifN_dec (p := (h : Int) ≤ 12) (fun _ => ?_) (fun c => absurd (by omega) c)
  (repeat (first | (refine Nx.mk ?_; ((try (dsimp only [nr_none, nr_some, nr_nil, nf_leaf, nf_pin, nf_node, nf_nil, nf_cons, ni_f, ni_t, nw_nil, nw_cons, ns_0, ns_s])); (try simp only [intsT_frz, frzL_frzL]))) | (refine And.intro ?_ ?_; focus (first | exact rfl | exact frz_frz _ | exact frz_nf _ _ | exact (show frz _ = _ by assumption) | (show frz _ = _; simp only [nf_node, nf_cons, nf_nil, nf_leaf, frzL_frzL, intsT_frz]; done) | exact frz_ints _ _ | exact Nat.le_of_ble_eq_true rfl | exact (show (0 : Int) < _ by decide) | exact (show (0 : Int) ≤ _ by decide) | exact ⟨show (0 : Int) < _ by decide, show Nat.log2 _ < _ by decide⟩ | exact Or.inl (Or.inr ⟨show (_ : Int) < _ by decide, show (_ : Int) < _ by decide⟩) | exact Or.inl (Or.inl ⟨show (_ : Int) < _ by decide, show (_ : Int) < _ by decide⟩) | exact ⟨show (0 : Int) ≤ _ by decide, show (_ : Int) ≤ _ by decide, show Int.natAbs _ < _ by decide⟩)) | refine Exists.intro _ (Exists.intro _ (And.intro rfl (And.intro rfl ?_))) | refine Exists.intro _ (And.intro (Le.rf _) ?_) | refine Exists.intro _ (And.intro rfl ?_)))
  (conv => whnf)
  refine ifB_dec (p := (1 : Int) ≤ s) (fun _ => ?_) (fun c => absurd (by omega) c)
  (conv => whnf)
  refine ifN_dec (p := (s : Int) ≤ 60) (fun _ => ?_) (fun c => absurd (by omega) c)
  (repeat (first | (refine Nx.mk ?_; ((try (dsimp only [nr_none, nr_some, nr_nil, nf_leaf, nf_pin, nf_node, nf_nil, nf_cons, ni_f, ni_t, nw_nil, nw_cons, ns_0, ns_s])); (try simp only [intsT_frz, frzL_frzL]))) | (refine And.intro ?_ ?_; focus (first | exact rfl | exact frz_frz _ | exact frz_nf _ _ | exact (show frz _ = _ by assumption) | (show frz _ = _; simp only [nf_node, nf_cons, nf_nil, nf_leaf, frzL_frzL, intsT_frz]; done) | exact frz_ints _ _ | exact Nat.le_of_ble_eq_true rfl | exact (show (0 : Int) < _ by decide) | exact (show (0 : Int) ≤ _ by decide) | exact ⟨show (0 : Int) < _ by decide, show Nat.log2 _ < _ by decide⟩ | exact Or.inl (Or.inr ⟨show (_ : Int) < _ by decide, show (_ : Int) < _ by decide⟩) | exact Or.inl (Or.inl ⟨show (_ : Int) < _ by decide, show (_ : Int) < _ by decide⟩) | exact ⟨show (0 : Int) ≤ _ by decide, show (_ : Int) ≤ _ by decide, show Int.natAbs _ < _ by decide⟩)) | refine Exists.intro _ (Exists.intro _ (And.intro rfl (And.intro rfl ?_))) | refine Exists.intro _ (And.intro (Le.rf _) ?_) | refine Exists.intro _ (And.intro rfl ?_)))
  refine ⟨h, _, lots, rfl, h0.frz, by omega, h5, ?_⟩
  (repeat (first | (refine Nx.mk ?_; ((try (dsimp only [nr_none, nr_some, nr_nil, nf_leaf, nf_pin, nf_node, nf_nil, nf_cons, ni_f, ni_t, nw_nil, nw_cons, ns_0, ns_s])); (try simp only [intsT_frz, frzL_frzL]))) | (refine And.intro ?_ ?_; focus (first | exact rfl | exact frz_frz _ | exact frz_nf _ _ | exact (show frz _ = _ by assumption) | (show frz _ = _; simp only [nf_node, nf_cons, nf_nil, nf_leaf, frzL_frzL, intsT_frz]; done) | exact frz_ints _ _ | exact Nat.le_of_ble_eq_true rfl | exact (show (0 : Int) < _ by decide) | exact (show (0 : Int) ≤ _ by decide) | exact ⟨show (0 : Int) < _ by decide, show Nat.log2 _ < _ by decide⟩ | exact Or.inl (Or.inr ⟨show (_ : Int) < _ by decide, show (_ : Int) < _ by decide⟩) | exact Or.inl (Or.inl ⟨show (_ : Int) < _ by decide, show (_ : Int) < _ by decide⟩) | exact ⟨show (0 : Int) ≤ _ by decide, show (_ : Int) ≤ _ by decide, show Int.natAbs _ < _ by decide⟩)) | refine Exists.intro _ (Exists.intro _ (And.intro rfl (And.intro rfl ?_))) | refine Exists.intro _ (And.intro (Le.rf _) ?_) | refine Exists.intro _ (And.intro rfl ?_)))
  (conv => whnf)
  exact q
theorem rd_hurdle_of {ts : List T} {Q : T → List T → Prop} {E : Value → List (Str × V) → List T → Prop} (h : sp_hurdle_of ts Q E) : t_hurdle_of (bodyEnds [false] Q E) (startE 3 (frzP [false] ts)) := by
  rcases h with ⟨rfl, q⟩ | ⟨o, a, b, rfl, h1, h2, h3, h4, q⟩
  · (repeat (first | (refine Nx.mk ?_; ((try (dsimp only [nr_none, nr_some, nr_nil, nf_leaf, nf_pin, nf_node, nf_nil, nf_cons, ni_f, ni_t, nw_nil, nw_cons, ns_0, ns_s])); (try simp only [intsT_frz, frzL_frzL]))) | (refine And.intro ?_ ?_; focus (first | exact rfl | exact frz_frz _ | exact frz_nf _ _ | exact (show frz _ = _ by assumption) | (show frz _ = _; simp only [nf_node, nf_cons, nf_nil, nf_leaf, frzL_frzL, intsT_frz]; done) | exact frz_ints _ _ | exact Nat.le_of_ble_eq_true rfl | exact (show (0 : Int) < _ by decide) | exact (show (0 : Int) ≤ _ by decide) | exact ⟨show (0 : Int) < _ by decide, show Nat.log2 _ < _ by decide⟩ | exact Or.inl (Or.inr ⟨show (_ : Int) < _ by decide, show (_ : Int) < _ by decide⟩) | exact Or.inl (Or.inl ⟨show (_ : Int) < _ by decide, show (_ : Int) < _ by decide⟩) | exact ⟨show (0 : Int) ≤ _ by decide, show (_ : Int) ≤ _ by decide, show Int.natAbs _ < _ by decide⟩)) | refine Exists.intro _ (Exists.intro _ (And.intro rfl (And.intro rfl ?_))) | refine Exists.intro _ (And.intro (Le.rf _) ?_) | refine Exists.intro _ (And.intro rfl ?_)))
    exact q
  (try simp only [np_t, np_f, np_n, ne_c, ne_n, ne_0, nf_leaf, nf_pin, nf_node])
  (repeat (first | (refine Nx.mk ?_; ((try (dsimp only [nr_none, nr_some, nr_nil, nf_leaf, nf_pin, nf_node, nf_nil, nf_cons, ni_f, ni_t, nw_nil, nw_cons, ns_0, ns_s])); (try simp only [intsT_frz, frzL_frzL]))) | (refine And.intro ?_ ?_; focus (first | exact rfl | exact frz_frz _ | exact frz_nf _ _ | exact (show frz _ = _ by assumption) | (show frz _ = _; simp only [nf_node, nf_cons, nf_nil, nf_leaf, frzL_frzL, intsT_frz]; done) | exact frz_ints _ _ | exact Nat.le_of_ble_eq_true rfl | exact (show (0 : Int) < _ by decide) | exact (show (0 : Int) ≤ _ by decide) | exact ⟨show (0 : Int) < _ by decide, show Nat.log2 _ < _ by decide⟩ | exact Or.inl (Or.inr ⟨show (_ : Int) < _ by decide, show (_ : Int) < _ by decide⟩) | exact Or.inl (Or.inl ⟨show (_ : Int) < _ by decide, show (_ : Int) < _ by decide⟩) | exact ⟨show (0 : Int) ≤ _ by decide, show (_ : Int) ≤ _ by decide, show Int.natAbs _ < _ by decide⟩)) | refine Exists.intro _ (Exists.intro _ (And.intro rfl (And.intro rfl ?_))) | refine Exists.intro _ (And.intro (Le.rf _) ?_) | refine Exists.intro _ (And.intro rfl ?_)))
  (conv => whnf)
  refine ifB_dec (fun c => absurd c (by omega)) (fun _ => ?_)
  (repeat (first | (refine Nx.mk ?_; ((try (dsimp only [nr_none, nr_some, nr_nil, nf_leaf, nf_pin, nf_node, nf_nil, nf_cons, ni_f, ni_t, nw_nil, nw_cons, ns_0, ns_s])); (try simp only [intsT_frz, frzL_frzL]))) | (refine And.intro ?_ ?_; focus (first | exact rfl | exact frz_frz _ | exact frz_nf _ _ | exact (show frz _ = _ by assumption) | (show frz _ = _; simp only [nf_node, nf_cons, nf_nil, nf_leaf, frzL_frzL, intsT_frz]; done) | exact frz_ints _ _ | exact Nat.le_of_ble_eq_true rfl | exact (show (0 : Int) < _ by decide) | exact (show (0 : Int) ≤ _ by decide) | exact ⟨show (0 : Int) < _ by decide, show Nat.log2 _ < _ by decide⟩ | exact Or.inl (Or.inr ⟨show (_ : Int) < _ by decide, show (_ : Int) < _ by decide⟩) | exact Or.inl (Or.inl ⟨show (_ : Int) < _ by decide, show (_ : Int) < _ by decide⟩) | exact ⟨show (0 : Int) ≤ _ by decide, show (_ : Int) ≤ _ by decide, show Int.natAbs _ < _ by decide⟩)) | refine Exists.intro _ (Exists.intro _ (And.intro rfl (And.intro rfl ?_))) | refine Exists.intro _ (And.intro (Le.rf _) ?_) | refine Exists.intro _ (And.intro rfl ?_)))
  (conv => whnf)
  refine ifB_dec (p := 0 ≤ a) (fun _ => ?_) (fun c => absurd h2 c)
  (conv => whnf)
  refine And.intro rfl ?_
  (conv => whnf)
  refine ifN_dec (p := a ≤ b) (fun _ => ?_) (fun c => absurd h3 c)
  (repeat (first | (refine Nx.mk ?_; ((try (dsimp only [nr_none, nr_some, nr_nil, nf_leaf, nf_pin, nf_node, nf_nil, nf_cons, ni_f, ni_t, nw_nil, nw_cons, ns_0, ns_s])); (try simp only [intsT_frz, frzL_frzL]))) | (refine And.intro ?_ ?_; focus (first | exact rfl | exact frz_frz _ | exact frz_nf _ _ | exact (show frz _ = _ by assumption) | (show frz _ = _; simp only [nf_node, nf_cons, nf_nil, nf_leaf, frzL_frzL, intsT_frz]; done) | exact frz_ints _ _ | exact Nat.le_of_ble_eq_true rfl | exact (show (0 : Int) < _ by decide) | exact (show (0 : Int) ≤ _ by decide) | exact ⟨show (0 : Int) < _ by decide, show Nat.log2 _ < _ by decide⟩ | exact Or.inl (Or.inr ⟨show (_ : Int) < _ by decide, show (_ : Int) < _ by decide⟩) | exact Or.inl (Or.inl ⟨show (_ : Int) < _ by decide, show (_ : Int) < _ by decide⟩) | exact ⟨show (0 : Int) ≤ _ by decide, show (_ : Int) ≤ _ by decide, show Int.natAbs _ < _ by decide⟩)) | refine Exists.intro _ (Exists.intro _ (And.intro rfl (And.intro rfl ?_))) | refine Exists.intro _ (And.intro (Le.rf _) ?_) | refine Exists.intro _ (And.intro rfl ?_)))
  (conv => whnf)
  refine ⟨a, b, rfl, ?_⟩
  (conv => whnf)
  refine ifB_of (fun c => absurd c (by simp [h4])) (fun _ => ?_)
  (repeat (first | (refine Nx.mk ?_; ((try (dsimp only [nr_none, nr_some, nr_nil, nf_leaf, nf_pin, nf_node, nf_nil, nf_cons, ni_f, ni_t, nw_nil, nw_cons, ns_0, ns_s])); (try simp only [intsT_frz, frzL_frzL]))) | (refine And.intro ?_ ?_; focus (first | exact rfl | exact frz_frz _ | exact frz_nf _ _ | exact (show frz _ = _ by assumption) | (show frz _ = _; simp only [nf_node, nf_cons, nf_nil, nf_leaf, frzL_frzL, intsT_frz]; done) | exact frz_ints _ _ | exact Nat.le_of_ble_eq_true rfl | exact (show (0 : Int) < _ by decide) | exact (show (0 : Int) ≤ _ by decide) | exact ⟨show (0 : Int) < _ by decide, show Nat.log2 _ < _ by decide⟩ | exact Or.inl (Or.inr ⟨show (_ : Int) < _ by decide, show (_ : Int) < _ by decide⟩) | exact Or.inl (Or.inl ⟨show (_ : Int) < _ by decide, show (_ : Int) < _ by decide⟩) | exact ⟨show (0 : Int) ≤ _ by decide, show (_ : Int) ≤ _ by decide, show Int.natAbs _ < _ by decide⟩)) | refine Exists.intro _ (Exists.intro _ (And.intro rfl (And.intro rfl ?_))) | refine Exists.intro _ (And.intro (Le.rf _) ?_) | refine Exists.intro _ (And.intro rfl ?_)))
  exact q
theorem rd_Lists_init {ts : List T} {Q : T → List T → Prop} {E : Value → List (Str × V) → List T → Prop} (h : sp_Lists_init ts Q E) : t_Lists_init (bodyEnds [true, false, false, false, false, false] Q E) (startE 6 (frzP [true, false, false, false, false, false] ts)) := by
  obtain ⟨dx, w, τ, τh, rfl, ok, h0, hh, q⟩ := h
  show t_Lists_init _ [some (.node true (.ins C_Lists dx []) []), some (.leaf (.int (w.h : Nat))), some (.leaf (.int (w.s : Nat))), some (frz τ), some (frz τh), some (.leaf (.int w.step))]
  (try simp only [np_t, np_f, np_n, ne_c, ne_n, ne_0, nf_leaf, nf_pin, nf_node])
  (repeat (first | (refine Nx.mk ?_; ((try (dsimp only [nr_none, nr_some, nr_nil, nf_leaf, nf_pin, nf_node, nf_nil, nf_cons, ni_f, ni_t, nw_nil, nw_cons, ns_0, ns_s])); (try simp only [intsT_frz, frzL_frzL]))) | (refine And.intro ?_ ?_; focus (first | exact rfl | exact frz_frz _ | exact frz_nf _ _ | exact (show frz _ = _ by assumption) | (show frz _ = _; simp only [nf_node, nf_cons, nf_nil, nf_leaf, frzL_frzL, intsT_frz]; done) | exact frz_ints _ _ | exact Nat.le_of_ble_eq_true rfl | exact (show (0 : Int) < _ by decide) | exact (show (0 : Int) ≤ _ by decide) | exact ⟨show (0 : Int) < _ by decide, show Nat.log2 _ < _ by decide⟩ | exact Or.inl (Or.inr ⟨show (_ : Int) < _ by decide, show (_ : Int) < _ by decide⟩) | exact Or.inl (Or.inl ⟨show (_ : Int) < _ by decide, show (_ : Int) < _ by decide⟩) | exact ⟨show (0 : Int) ≤ _ by decide, show (_ : Int) ≤ _ by decide, show Int.natAbs _ < _ by decide⟩)) | refine Exists.intro _ (Exists.intro _ (And.intro rfl (And.intro rfl ?_))) | refine Exists.intro _ (And.intro (Le.rf _) ?_) | refine Exists.intro _ (And.intro rfl ?_)))
  (conv => whnf)
  refine ⟨dx, w.h, w.s, _, w.lots, rfl, h0.frz, ok.h.1, ok.h.2, ok.s.1, ok.s.2, ok.lots, ?_⟩
  (repeat (first | (refine Nx.mk ?_; ((try (dsimp only [nr_none, nr_some, nr_nil, nf_leaf, nf_pin, nf_node, nf_nil, nf_cons, ni_f, ni_t, nw_nil, nw_cons, ns_0, ns_s])); (try simp only [intsT_frz, frzL_frzL]))) | (refine And.intro ?_ ?_; focus (first | exact rfl | exact frz_frz _ | exact frz_nf _ _ | exact (show frz _ = _ by assumption) | (show frz _ = _; simp only [nf_node, nf_cons, nf_nil, nf_leaf, frzL_frzL, intsT_frz]; done) | exact frz_ints _ _ | exact Nat.le_of_ble_eq_true rfl | exact (show (0 : Int) < _ by decide) | exact (show (0 : Int) ≤ _ by decide) | exact ⟨show (0 : Int) < _ by decide, show Nat.log2 _ < _ by decide⟩ | exact Or.inl (Or.inr ⟨show (_ : Int) < _ by decide, show (_ : Int) < _ by decide⟩) | exact Or.inl (Or.inl ⟨show (_ : Int) < _ by decide, show (_ : Int) < _ by decide⟩) | exact ⟨show (0 : Int) ≤ _ by decide, show (_ : Int) ≤ _ by decide, show Int.natAbs _ < _ by decide⟩)) | refine Exists.intro _ (Exists.intro _ (And.intro rfl (And.intro rfl ?_))) | refine Exists.intro _ (And.intro (Le.rf _) ?_) | refine Exists.intro _ (And.intro rfl ?_)))
  (conv => whnf)
  refine ifB_dec (p := (1 : Int) ≤ w.step) (fun _ => ?_) (fun c => absurd ok.step.1 c)
  (conv => whnf)
  refine ifN_dec (p := (w.step : Int) ≤ 9) (fun _ => ?_) (fun c => absurd ok.step.2 c)
  (repeat (first | (refine Nx.mk ?_; ((try (dsimp only [nr_none, nr_some, nr_nil, nf_leaf, nf_pin, nf_node, nf_nil, nf_cons, ni_f, ni_t, nw_nil, nw_cons, ns_0, ns_s])); (try simp only [intsT_frz, frzL_frzL]))) | (refine And.intro ?_ ?_; focus (first | exact rfl | exact frz_frz _ | exact frz_nf _ _ | exact (show frz _ = _ by assumption) | (show frz _ = _; simp only [nf_node, nf_cons, nf_nil, nf_leaf, frzL_frzL, intsT_frz]; done) | exact frz_ints _ _ | exact Nat.le_of_ble_eq_true rfl | exact (show (0 : Int) < _ by decide) | exact (show (0 : Int) ≤ _ by decide) | exact ⟨show (0 : Int) < _ by decide, show Nat.log2 _ < _ by decide⟩ | exact Or.inl (Or.inr ⟨show (_ : Int) < _ by decide, show (_ : Int) < _ by decide⟩) | exact Or.inl (Or.inl ⟨show (_ : Int) < _ by decide, show (_ : Int) < _ by decide⟩) | exact ⟨show (0 : Int) ≤ _ by decide, show (_ : Int) ≤ _ by decide, show Int.natAbs _ < _ by decide⟩)) | refine Exists.intro _ (Exists.intro _ (And.intro rfl (And.intro rfl ?_))) | refine Exists.intro _ (And.intro (Le.rf _) ?_) | refine Exists.intro _ (And.intro rfl ?_)))
  rcases hh with ⟨rfl, e1, e2⟩ | ⟨p, rfl⟩
  · (conv => whnf)
    refine .inl ⟨rfl, ?_⟩
    (repeat (first | (refine Nx.mk ?_; ((try (dsimp only [nr_none, nr_some, nr_nil, nf_leaf, nf_pin, nf_node, nf_nil, nf_cons, ni_f, ni_t, nw_nil, nw_cons, ns_0, ns_s])); (try simp only [intsT_frz, frzL_frzL]))) | (refine And.intro ?_ ?_; focus (first | exact rfl | exact frz_frz _ | exact frz_nf _ _ | exact (show frz _ = _ by assumption) | (show frz _ = _; simp only [nf_node, nf_cons, nf_nil, nf_leaf, frzL_frzL, intsT_frz]; done) | exact frz_ints _ _ | exact Nat.le_of_ble_eq_true rfl | exact (show (0 : Int) < _ by decide) | exact (show (0 : Int) ≤ _ by decide) | exact ⟨show (0 : Int) < _ by decide, show Nat.log2 _ < _ by decide⟩ | exact Or.inl (Or.inr ⟨show (_ : Int) < _ by decide, show (_ : Int) < _ by decide⟩) | exact Or.inl (Or.inl ⟨show (_ : Int) < _ by decide, show (_ : Int) < _ by decide⟩) | exact ⟨show (0 : Int) ≤ _ by decide, show (_ : Int) ≤ _ by decide, show Int.natAbs _ < _ by decide⟩)) | refine Exists.intro _ (Exists.intro _ (And.intro rfl (And.intro rfl ?_))) | refine Exists.intro _ (And.intro (Le.rf _) ?_) | refine Exists.intro _ (And.intro rfl ?_)))
    have := q true
    simp only [wayK, e1, e2] at this
    exact this
  · (conv => whnf)
    refine .inr ⟨false, w.top, w.bot, rfl, ok.bot.1, ok.top.1, ok.top.2, ok.red, ?_⟩
    (repeat (first | (refine Nx.mk ?_; ((try (dsimp only [nr_none, nr_some, nr_nil, nf_leaf, nf_pin, nf_node, nf_nil, nf_cons, ni_f, ni_t, nw_nil, nw_cons, ns_0, ns_s])); (try simp only [intsT_frz, frzL_frzL]))) | (refine And.intro ?_ ?_; focus (first | exact rfl | exact frz_frz _ | exact frz_nf _ _ | exact (show frz _ = _ by assumption) | (show frz _ = _; simp only [nf_node, nf_cons, nf_nil, nf_leaf, frzL_frzL, intsT_frz]; done) | exact frz_ints _ _ | exact Nat.le_of_ble_eq_true rfl | exact (show (0 : Int) < _ by decide) | exact (show (0 : Int) ≤ _ by decide) | exact ⟨show (0 : Int) < _ by decide, show Nat.log2 _ < _ by decide⟩ | exact Or.inl (Or.inr ⟨show (_ : Int) < _ by decide, show (_ : Int) < _ by decide⟩) | exact Or.inl (Or.inl ⟨show (_ : Int) < _ by decide, show (_ : Int) < _ by decide⟩) | exact ⟨show (0 : Int) ≤ _ by decide, show (_ : Int) ≤ _ by decide, show Int.natAbs _ < _ by decide⟩)) | refine Exists.intro _ (Exists.intro _ (And.intro rfl (And.intro rfl ?_))) | refine Exists.intro _ (And.intro (Le.rf _) ?_) | refine Exists.intro _ (And.intro rfl ?_)))
    exact q false
theorem rep0 (n : Nat) : repL (frzL [T.leaf (V.int 0)]) (n : Int) = intsT (List.replicate n 0) := by
  unfold repL
  rw [Int.toNat_natCast, show frzL [T.leaf (V.int 0)] = [T.leaf (V.int 0)] from rfl]
  induction n with
  | zero => rfl
  | succ n ih => rw [List.replicate_succ, List.flatten_cons, ih, List.replicate_succ]; rfl
theorem ints_set (v : List Int) (k : Nat) (x : Int) : (intsT v).set k (.leaf (.int x)) = intsT (v.set k x) := by
  rw [intsT_eq, intsT_eq, List.map_set, List.map_set]
theorem ints_len (v : List Int) : (intsT v).length = v.length := by simp [intsT_eq]
theorem ints_at {v : List Int} {k : Nat} (h : k < v.length) : (intsT v)[k]? = some (.leaf (.int (v.getD k 0))) := by
  rw [intsT_eq, List.map_map, List.getElem?_map, List.getD_eq_getElem?_getD, List.getElem?_eq_getElem h]
  rfl
theorem addAt_len (v : List Int) (k : Nat) (x : Int) : (addAt v k x).length = v.length := by simp [addAt]
theorem frz_rounds (rs : List (List (Option Rat) × Nat)) : frzL (rs.map (roundT false false)) = rs.map (roundT false false) := by
  rw [frzL_map, List.map_map]
  exact List.map_congr_left fun r _ => frz_round _ _ r
def markAt (w : Lw) (vs : List Int) (least : Int) (had : List Int) (k : Nat) : Option Rat := if vs.getD k 0 < least then none else some (Rat.divInt (vs.getD k 0) (1 + w.step * had.getD k 0))
theorem pure_marks (ms : List (Option Rat)) : pureT (.node true .lst (ms.map (markT true))) = true := by
  have : pureL (ms.map (markT true)) = true := by
    induction ms with
    | nil => rfl
    | cons p r ih =>
      cases p <;> simpa [pureL, pureT, isTup, markT, qT] using ih
  simpa [pureT] using this
theorem frz_marksT (ms : List (Option Rat)) : frzL (ms.map (markT true)) = ms.map (markT false) := by
  rw [frzL_map, List.map_map]
  exact List.map_congr_left fun q _ => by cases q <;> simp only [Function.comp, markT, qT, nf_node, nf_cons, nf_nil, nf_leaf]
theorem fm_some {α β : Type} (f : α → β) : ∀ l : List α, l.filterMap (fun s => some (f s)) = l.map f
  | [] => rfl
  | a :: l => by simp [fm_some f l]
theorem rounds_ext {w : Lw} {vs : List Int} {least : Int} : ∀ (n : Nat) (had : List Int), roundsL w vs least (n + 1) had = roundsL w vs least n had ∨ ∃ r, r.2 < w.h ∧ roundsL w vs least (n + 1) had = roundsL w vs least n had ++ [r]
  | 0, had => by
    cases h : dueL w (marksL w vs least had) with
    | none => exact .inl (by rw [rounds_none h]; rfl)
    | some k => exact .inr ⟨(marksL w vs least had, k), due_lt h, by rw [rounds_some h]; rfl⟩
  | n + 1, had => by
    cases h : dueL w (marksL w vs least had) with
    | none => exact .inl (by rw [rounds_none h, rounds_none h])
    | some k =>
      rw [rounds_some (n := n + 1) h, rounds_some (n := n) h]
      rcases rounds_ext n (addAt had k 1) with e | ⟨r, hr, e⟩
      · exact .inl (by rw [e])
      · exact .inr ⟨r, hr, by rw [e]; rfl⟩
theorem told_len (h : Nat) (ks : List Nat) : (toldL h ks).length = h := by
  unfold toldL
  have key : ∀ (ks : List Nat) (v : List Int), (ks.foldl (fun v k => addAt v k 1) v).length = v.length := by
    intro ks
    induction ks with
    | nil => exact fun v => rfl
    | cons k r ih => exact fun v => by rw [List.foldl_cons, ih, addAt_len]
  rw [key, List.length_replicate]
theorem lt_qI {a b A B : Int} (hA : 0 < A) (hB : 0 < B) : Rat.divInt a A < Rat.divInt b B ↔ a * B < b * A := by
  have hA' : (0 : Rat) < (A : Rat) := Rat.intCast_pos.mpr hA
  have hB' : (0 : Rat) < (B : Rat) := Rat.intCast_pos.mpr hB
  rw [Rat.divInt_eq_div, Rat.divInt_eq_div, Rat.div_lt_iff hA']
  have e : (b : Rat) / B * A = (b : Rat) * A / B := by
    rw [Rat.div_def, Rat.div_def, Rat.mul_assoc, Rat.mul_assoc, Rat.mul_comm (B : Rat)⁻¹]
  rw [e, Rat.lt_div_iff hB', ← Rat.intCast_mul, ← Rat.intCast_mul, Rat.intCast_lt_intCast]
theorem ahead_tr {w : Lw} {a b c : Nat} (h1 : aheadB w a b = true) (h2 : aheadB w b c = true) : aheadB w a c = true := by
  unfold aheadB at *
  have h1 := of_decide_eq_true h1
  have h2 := of_decide_eq_true h2
  exact decide_eq_true (by omega)
theorem ahead_as {w : Lw} {a b : Nat} (h1 : aheadB w a b = true) (h2 : aheadB w b a = true) : False := by
  unfold aheadB at *
  have h1 := of_decide_eq_true h1
  have h2 := of_decide_eq_true h2
  omega
theorem ahead_tot {w : Lw} (ok : LwOk w) {a b : Nat} (ha : a < w.h) (hb : b < w.h) (hne : a ≠ b) : aheadB w a b = true ∨ aheadB w b a = true := by
  unfold aheadB idxI
  have h1 := (idx_ok (in_lots ok ha)).1
  have h2 := (idx_ok (in_lots ok hb)).1
  have : w.lots.idxOf (a : Int) ≠ w.lots.idxOf (b : Int) := fun e => by
    rw [e, h2] at h1
    cases h1
    exact hne rfl
  rcases Nat.lt_or_gt_of_ne this with h | h
  · exact .inl (decide_eq_true h)
  · exact .inr (decide_eq_true h)
def Best (w : Lw) (ms : List (Option Rat)) (n : Nat) (o : Option Nat) : Prop :=
  (o = none → ∀ j, j < n → ms.getD j none = none) ∧
  ∀ b, o = some b → b < n ∧ ∃ q, ms.getD b none = some q ∧ ∀ j p, j < n → ms.getD j none = some p → j = b ∨ p < q ∨ (p = q ∧ aheadB w b j = true)
theorem best_step {w : Lw} {ms : List (Option Rat)} {n : Nat} {o : Option Nat} (ok : LwOk w) (hn : n < w.h) (h : Best w ms n o) : Best w ms (n + 1) (dueStep w ms o n) := by
  unfold dueStep
  cases hm : ms.getD n none with
  | none =>
    refine ⟨fun e j hj => ?_, fun b e => ?_⟩
    · by_cases c : j = n
      · rw [c, hm]
      · exact h.1 e j (by omega)
    · obtain ⟨h1, q, h2, h3⟩ := h.2 b e
      refine ⟨by omega, q, h2, fun j p hj hp => ?_⟩
      by_cases c : j = n
      · rw [c, hm] at hp
        cases hp
      · exact h3 j p (by omega) hp
  | some p0 =>
    cases o with
    | none =>
      refine ⟨(fun e => nomatch e), fun b e => ?_⟩
      cases e
      refine ⟨by omega, p0, hm, fun j p hj hp => ?_⟩
      by_cases c : j = n
      · exact .inl c
      · rw [h.1 rfl j (by omega)] at hp
        cases hp
    | some b =>
      obtain ⟨hb, q, hq, hall⟩ := h.2 b rfl
      simp only [hq, Option.getD_some]
      by_cases c : goesB w p0 q n b = true
      · rw [if_pos c]
        have hc : q < p0 ∨ (q = p0 ∧ aheadB w n b = true) := by
          unfold goesB at c
          simpa using c
        refine ⟨(fun e => nomatch e), fun b' e => ?_⟩
        cases e
        refine ⟨by omega, p0, hm, fun j p hj hp => ?_⟩
        by_cases e : j = n
        · exact .inl e
        rcases hall j p (by omega) hp with rfl | h1 | ⟨h1, h2⟩
        · rw [hq] at hp
          cases hp
          exact .inr hc
        · rcases hc with c1 | ⟨c1, _⟩
          · exact .inr (.inl (by grind))
          · exact .inr (.inl (by rw [← c1]; exact h1))
        · subst h1
          rcases hc with c1 | ⟨c1, c2⟩
          · exact .inr (.inl c1)
          · exact .inr (.inr ⟨c1, ahead_tr c2 h2⟩)
      · rw [if_neg c]
        have hc : ¬ q < p0 ∧ (q = p0 → aheadB w n b = false) := by
          unfold goesB at c
          simpa using c
        refine ⟨(fun e => nomatch e), fun b' e => ?_⟩
        cases e
        refine ⟨by omega, q, hq, fun j p hj hp => ?_⟩
        by_cases e : j = n
        · subst e
          rw [hm] at hp
          cases hp
          by_cases e2 : q = p0
          · refine .inr (.inr ⟨e2.symm, ?_⟩)
            rcases ahead_tot ok hn (show b < w.h by omega) (by omega) with z | z
            · rw [hc.2 e2] at z; cases z
            · exact z
          · exact .inr (.inl (by have := hc.1; grind))
        · exact hall j p (by omega) hp
theorem best_all {w : Lw} (ok : LwOk w) (ms : List (Option Rat)) : ∀ n, n ≤ w.h → Best w ms n ((List.range n).foldl (dueStep w ms) none)
  | 0, _ => ⟨fun _ j hj => by omega, (fun b e => nomatch e)⟩
  | n + 1, h => by
    rw [List.range_succ, List.foldl_append]
    exact best_step ok (by omega) (best_all ok ms n (by omega))
theorem marks_get {w : Lw} {vs had : List Int} {least : Int} {k : Nat} (hk : k < w.h) : (marksL w vs least had).getD k none = if vs.getD k 0 < least then none else some (Rat.divInt (vs.getD k 0) (1 + w.step * had.getD k 0)) := by
  unfold marksL
  rw [List.getD_eq_getElem?_getD, List.getElem?_map, List.getElem?_range hk]
  rfl
abbrev giveL (had : List Int) (ks : List Nat) : List Int := ks.foldl (fun v k => addAt v k 1) had
theorem rounds_full {w : Lw} (ok : LwOk w) {vs : List Int} {least : Int} {k : Nat} (hk : k < w.h) (hv : least ≤ vs.getD k 0) : ∀ (n : Nat) (had : List Int), (roundsL w vs least n had).length = n
  | 0, had => rfl
  | n + 1, had => by
    cases h : dueL w (marksL w vs least had) with
    | none =>
      have := (best_all ok (marksL w vs least had) w.h (Nat.le_refl _)).1 h k hk
      rw [marks_get hk, if_neg (by omega)] at this
      cases this
    | some j => rw [rounds_some h, List.length_cons, rounds_full ok hk hv n]
theorem rounds_empty {w : Lw} (ok : LwOk w) {vs : List Int} {least : Int} (hv : ∀ k, k < w.h → vs.getD k 0 < least) (n : Nat) (had : List Int) : roundsL w vs least n had = [] := by
  cases n with
  | zero => rfl
  | succ n =>
    cases h : dueL w (marksL w vs least had) with
    | none => exact rounds_none h
    | some k =>
      obtain ⟨hk, q, hq, _⟩ := (best_all ok (marksL w vs least had) w.h (Nat.le_refl _)).2 k h
      rw [marks_get hk, if_pos (hv k hk)] at hq
      cases hq
theorem due_not {w : Lw} {ms : List (Option Rat)} (ok : LwOk w) {n j : Nat} {pn pj : Rat} (hp : ms[n]? = some (some pn)) (hj : j < w.h) (hne : j ≠ n) (hpj : ms[j]? = some (some pj)) (g : goesB w pj pn j n = true) : dueL w ms ≠ some n := fun hd => by
  obtain ⟨hb, q, hq, hall⟩ := (best_all ok ms w.h (Nat.le_refl _)).2 n hd
  have gp : ms.getD n none = some pn := by rw [List.getD_eq_getElem?_getD, hp]; rfl
  have gj : ms.getD j none = some pj := by rw [List.getD_eq_getElem?_getD, hpj]; rfl
  rw [gp] at hq
  cases hq
  have g : pn < pj ∨ (pn = pj ∧ aheadB w j n = true) := by unfold goesB at g; simpa using g
  rcases hall j pj hj gj with z | z | ⟨z, z2⟩
  · exact hne z
  · rcases g with g | ⟨g, _⟩ <;> grind
  · rcases g with g | ⟨g, g2⟩
    · grind
    · exact ahead_as z2 g2
theorem due_some {w : Lw} {ms : List (Option Rat)} (ok : LwOk w) {n : Nat} (h : dueL w ms = some n) : ∃ q, ms.getD n none = some q := ⟨_, ((best_all ok ms w.h (Nat.le_refl _)).2 n h).2.choose_spec.1⟩
theorem rounds_at {w : Lw} {vs : List Int} {least : Int} : ∀ {n : Nat} {had : List Int} {i : Nat} {r : List (Option Rat) × Nat}, (roundsL w vs least n had)[i]? = some r → dueL w (marksL w vs least (giveL had (((roundsL w vs least n had).take i).map (·.2)))) = some r.2 ∧ r.1 = marksL w vs least (giveL had (((roundsL w vs least n had).take i).map (·.2)))
  | 0, had, i, r, h => by cases i <;> cases h
  | n + 1, had, i, r, h => by
    cases hd : dueL w (marksL w vs least had) with
    | none => rw [rounds_none hd] at h; cases i <;> cases h
    | some k =>
      rw [rounds_some hd] at h ⊢
      cases i with
      | zero =>
        cases h
        exact ⟨hd, rfl⟩
      | succ i => exact rounds_at (n := n) (had := addAt had k 1) (by simpa using h)
theorem whole_i {t : T} (h : wholeQ t = some true) : ∃ n, t = .leaf (.int n) := by
  unfold wholeQ at h
  cases t with
  | leaf v => cases v <;> first | exact ⟨_, rfl⟩ | exact absurd h (by simp [tyT, Ty.isa])
  | node o s k => cases s <;> exact absurd h (by simp [tyT, Ty.isa])
  | pin s vs => cases s <;> exact absurd h (by simp [tyT, Ty.isa])
theorem rd_is_count {ts : List T} {Q : T → List T → Prop} {E : Value → List (Str × V) → List T → Prop} (h : sp_is_count ts Q E) : t_is_count (bodyEnds [false, false] Q E) (startE 2 (frzP [false, false] ts)) := by
  obtain ⟨τ, m, b, rfl, ht, q⟩ := h
  (try simp only [np_t, np_f, np_n, ne_c, ne_n, ne_0, nf_leaf, nf_pin, nf_node])
  (repeat (first | (refine Nx.mk ?_; ((try (dsimp only [nr_none, nr_some, nr_nil, nf_leaf, nf_pin, nf_node, nf_nil, nf_cons, ni_f, ni_t, nw_nil, nw_cons, ns_0, ns_s])); (try simp only [intsT_frz, frzL_frzL]))) | (refine And.intro ?_ ?_; focus (first | exact rfl | exact frz_frz _ | exact frz_nf _ _ | exact (show frz _ = _ by assumption) | (show frz _ = _; simp only [nf_node, nf_cons, nf_nil, nf_leaf, frzL_frzL, intsT_frz]; done) | exact frz_ints _ _ | exact Nat.le_of_ble_eq_true rfl | exact (show (0 : Int) < _ by decide) | exact (show (0 : Int) ≤ _ by decide) | exact ⟨show (0 : Int) < _ by decide, show Nat.log2 _ < _ by decide⟩ | exact Or.inl (Or.inr ⟨show (_ : Int) < _ by decide, show (_ : Int) < _ by decide⟩) | exact Or.inl (Or.inl ⟨show (_ : Int) < _ by decide, show (_ : Int) < _ by decide⟩) | exact ⟨show (0 : Int) ≤ _ by decide, show (_ : Int) ≤ _ by decide, show Int.natAbs _ < _ by decide⟩)) | refine Exists.intro _ (Exists.intro _ (And.intro rfl (And.intro rfl ?_))) | refine Exists.intro _ (And.intro (Le.rf _) ?_) | refine Exists.intro _ (And.intro rfl ?_)))
  refine ⟨_, b, rfl, by rw [frz_frz]; exact ht, ?_⟩
  (repeat (first | (refine Nx.mk ?_; ((try (dsimp only [nr_none, nr_some, nr_nil, nf_leaf, nf_pin, nf_node, nf_nil, nf_cons, ni_f, ni_t, nw_nil, nw_cons, ns_0, ns_s])); (try simp only [intsT_frz, frzL_frzL]))) | (refine And.intro ?_ ?_; focus (first | exact rfl | exact frz_frz _ | exact frz_nf _ _ | exact (show frz _ = _ by assumption) | (show frz _ = _; simp only [nf_node, nf_cons, nf_nil, nf_leaf, frzL_frzL, intsT_frz]; done) | exact frz_ints _ _ | exact Nat.le_of_ble_eq_true rfl | exact (show (0 : Int) < _ by decide) | exact (show (0 : Int) ≤ _ by decide) | exact ⟨show (0 : Int) < _ by decide, show Nat.log2 _ < _ by decide⟩ | exact Or.inl (Or.inr ⟨show (_ : Int) < _ by decide, show (_ : Int) < _ by decide⟩) | exact Or.inl (Or.inl ⟨show (_ : Int) < _ by decide, show (_ : Int) < _ by decide⟩) | exact ⟨show (0 : Int) ≤ _ by decide, show (_ : Int) ≤ _ by decide, show Int.natAbs _ < _ by decide⟩)) | refine Exists.intro _ (Exists.intro _ (And.intro rfl (And.intro rfl ?_))) | refine Exists.intro _ (And.intro (Le.rf _) ?_) | refine Exists.intro _ (And.intro rfl ?_)))
  (conv => whnf)
  cases b with
  | false =>
    have e : countB m (frz τ) = false := by
      unfold countB
      split
      · rename_i n he
        rw [he] at ht
        cases ht
      · rfl
    rw [e] at q
    exact q
  | true =>
    obtain ⟨n, e⟩ := whole_i ht
    rw [e] at q ⊢
    (repeat (first | (refine Nx.mk ?_; ((try (dsimp only [nr_none, nr_some, nr_nil, nf_leaf, nf_pin, nf_node, nf_nil, nf_cons, ni_f, ni_t, nw_nil, nw_cons, ns_0, ns_s])); (try simp only [intsT_frz, frzL_frzL]))) | (refine And.intro ?_ ?_; focus (first | exact rfl | exact frz_frz _ | exact frz_nf _ _ | exact (show frz _ = _ by assumption) | (show frz _ = _; simp only [nf_node, nf_cons, nf_nil, nf_leaf, frzL_frzL, intsT_frz]; done) | exact frz_ints _ _ | exact Nat.le_of_ble_eq_true rfl | exact (show (0 : Int) < _ by decide) | exact (show (0 : Int) ≤ _ by decide) | exact ⟨show (0 : Int) < _ by decide, show Nat.log2 _ < _ by decide⟩ | exact Or.inl (Or.inr ⟨show (_ : Int) < _ by decide, show (_ : Int) < _ by decide⟩) | exact Or.inl (Or.inl ⟨show (_ : Int) < _ by decide, show (_ : Int) < _ by decide⟩) | exact ⟨show (0 : Int) ≤ _ by decide, show (_ : Int) ≤ _ by decide, show Int.natAbs _ < _ by decide⟩)) | refine Exists.intro _ (Exists.intro _ (And.intro rfl (And.intro rfl ?_))) | refine Exists.intro _ (And.intro (Le.rf _) ?_) | refine Exists.intro _ (And.intro rfl ?_)))
    (conv => whnf)
    refine ifB_dec (p := (0 : Int) ≤ n) (fun c1 => ?_) (fun c1 => ?_)
    · (conv => whnf)
      refine And.intro rfl ?_
      (conv => whnf)
      have e : countB m (.leaf (.int n)) = decide (n ≤ m) := by
        show (decide (0 ≤ n) && decide (n ≤ m)) = _
        rw [decide_eq_true c1, Bool.true_and]
      rw [e] at q
      exact q
    · (conv => whnf)
      have e : countB m (.leaf (.int n)) = false := by
        show (decide (0 ≤ n) && decide (n ≤ m)) = _
        rw [decide_eq_false c1, Bool.false_and]
      rw [e] at q
      exact q
theorem land_fr {τ : T} {w : Lw} {as : List T} (h : frz τ = landF w as) : frz (landF w as) = landF w as := by rw [← h, frz_frz]
theorem in_lotsD {w : Lw} (ok : LdOk w) {a : Nat} (h : a < w.h) : (a : Int) ∈ w.lots := ok.lots.mem_iff.mpr (List.mem_map.mpr ⟨a, List.mem_range.mpr h, rfl⟩)
theorem frz_mem {x : T} {xs : List T} (h : x ∈ frzL xs) : frz x = x := by
  rw [frzL_map] at h
  obtain ⟨y, _, rfl⟩ := List.mem_map.mp h
  exact frz_frz y
theorem LdOk.lw {w : Lw} (ok : LdOk w) : LwOk { w with s := 1 } := ⟨ok.h, ⟨Nat.le_refl 1, by show 1 ≤ 60; decide⟩, ok.lots, ok.bot, ok.top, ok.red, ok.step⟩
theorem rounds_lw (w : Lw) (s : Nat) (vs : List Int) (least : Int) : ∀ (n : Nat) (had : List Int), roundsL { w with s := s } vs least n had = roundsL w vs least n had
  | 0, _ => rfl
  | n + 1, had => by
    show (match dueL w (marksL w vs least had) with | none => [] | some k => (marksL w vs least had, k) :: roundsL { w with s := s } vs least n (addAt had k 1)) = (match dueL w (marksL w vs least had) with | none => [] | some k => (marksL w vs least had, k) :: roundsL w vs least n (addAt had k 1))
    cases dueL w (marksL w vs least had) with
    | none => rfl
    | some k => show _ :: _ = _ :: _; rw [rounds_lw w s vs least n]
theorem due_noneD {w : Lw} (ok : LdOk w) {vs had : List Int} {least : Int} (h : dueL w (marksL w vs least had) = none) : ∀ k, k < w.h → vs.getD k 0 < least := fun k hk => by
  have := (best_all ok.lw (marksL w vs least had) w.h (Nat.le_refl _)).1 h k hk
  rw [marks_get hk] at this
  split at this
  · assumption
  · cases this
theorem rounds_nilD {w : Lw} (ok : LdOk w) {vs had : List Int} {least : Int} (h : dueL w (marksL w vs least had) = none) (n : Nat) (had' : List Int) : roundsL w vs least n had' = [] := by
  rw [← rounds_lw w 1]
  exact rounds_empty ok.lw (due_noneD ok h) n had'
theorem marks_okD {w : Lw} (ok : LdOk w) {vs had : List Int} (least : Int) (vok : VOd w vs had) : MsOk w (marksL w vs least had) := by
  refine ⟨by simp [marksL], fun q hq => ?_⟩
  obtain ⟨k, hk, e⟩ := List.mem_map.mp hq
  have hk := List.mem_range.mp hk
  split at e
  · cases e
  · cases e
    have hv := vok.v (vs.getD k 0) (by rw [List.getD_eq_getElem?_getD, List.getElem?_eq_getElem (by have := vok.vl; omega)]; exact List.getElem_mem _)
    have hd := vok.d (had.getD k 0) (by rw [List.getD_eq_getElem?_getD, List.getElem?_eq_getElem (by have := vok.hl; omega)]; exact List.getElem_mem _)
    have hp : 0 ≤ w.step * had.getD k 0 := Int.mul_nonneg (by have := ok.step; omega) hd.1
    have hp2 : w.step * had.getD k 0 ≤ 9 * 2 ^ 40 := Int.mul_le_mul ok.step.2 hd.2 hd.1 (by omega)
    have hM := M_divInt (a := vs.getD k 0) (b := 1 + w.step * had.getD k 0) (by omega)
    refine Nat.le_trans hM ?_
    omega
theorem rd_Land_ahead {ts : List T} {Q : T → List T → Prop} {E : Value → List (Str × V) → List T → Prop} (h : sp_Land_ahead ts Q E) : t_Land_ahead (bodyEnds [false, false, false] Q E) (startE 3 (frzP [false, false, false] ts)) := by
  obtain ⟨τ, w, a, b, rfl, ⟨as, hτ⟩, ok, ha, hb, q⟩ := h
  have hfl := land_fr hτ
  show t_Land_ahead _ [some (frz τ), some (.leaf (.int a)), some (.leaf (.int b))]
  rw [hτ]
  walk_at "go"
  refine And.intro ⟨_, _, rfl⟩ ?_
  walk_at "go"
  refine ⟨w.lots, w.lots.idxOf (a : Int), rfl, (idx_ok (in_lotsD ok ha)).1, (idx_ok (in_lotsD ok ha)).2, ?_⟩
  walk_at "go"
  refine And.intro ⟨_, _, rfl⟩ ?_
  walk_at "go"
  refine ⟨w.lots, w.lots.idxOf (b : Int), rfl, (idx_ok (in_lotsD ok hb)).1, (idx_ok (in_lotsD ok hb)).2, ?_⟩
  walk_at "go"
  unfold aheadB idxI at q
  simp only [Int.ofNat_lt]
  exact q
theorem rd_Land_least_votes {ts : List T} {Q : T → List T → Prop} {E : Value → List (Str × V) → List T → Prop} (h : sp_Land_least_votes ts Q E) : t_Land_least_votes (bodyEnds [false, false] Q E) (startE 2 (frzP [false, false] ts)) := by
  obtain ⟨τ, w, n, rfl, ⟨as, hτ⟩, ok, h1, h2, q⟩ := h
  have hfl := land_fr hτ
  have hm : CMulA w.top n := mulA (k := 200) (j := 100) (by have := ok.bot; have := ok.top; omega) (by omega) (by omega)
  show t_Land_least_votes _ [some (frz τ), some (.leaf (.int n))]
  rw [hτ]
  walk_at "go"
  refine ⟨w.top * n, w.bot, rfl, by have := ok.bot; omega, by have := ok.bot; omega, ?_⟩
  walk_at "go"
  unfold leastI at q
  have e : (if upQ (w.top * n) w.bot > 1 then upQ (w.top * n) w.bot else 1) = max 1 (upQ (w.top * n) w.bot) := by omega
  rw [e]
  exact q
theorem rd_Land_mark {ts : List T} {Q : T → List T → Prop} {E : Value → List (Str × V) → List T → Prop} (h : sp_Land_mark ts Q E) : t_Land_mark (bodyEnds [false, false, false] Q E) (startE 3 (frzP [false, false, false] ts)) := by
  obtain ⟨τ, w, v, d, rfl, ⟨as, hτ⟩, ok, h1, h2, q⟩ := h
  have hfl := land_fr hτ
  have hm : CMulA w.step d := mulA (k := 5) (j := 42) (by have := ok.step; omega) (by omega) (by omega)
  show t_Land_mark _ [some (frz τ), some (.leaf (.int v)), some (.leaf (.int d))]
  rw [hτ]
  walk_at "go"
  have hp : 0 ≤ w.step * d := Int.mul_nonneg (by have := ok.step; omega) h1
  have hp2 : w.step * d ≤ 9 * 2 ^ 41 := Int.mul_le_mul ok.step.2 h2 h1 (by omega)
  refine .inl ⟨v, 1 + w.step * d, 60, rfl, by omega, by omega, by omega, ?_⟩
  exact q
theorem rd_goes_ahead {ts : List T} {Q : T → List T → Prop} {E : Value → List (Str × V) → List T → Prop} (h : sp_goes_ahead ts Q E) : t_goes_ahead (bodyEnds [false, false, false, false] Q E) (startE 4 (frzP [false, false, false, false] ts)) := by
  obtain ⟨τ, w, o, xs, ms, a, b, qa, qb, rfl, ⟨as, hτ⟩, ok, hx, mok, ha, hb, q⟩ := h
  have hfl := land_fr hτ
  have hfm : frz (T.node false .lst (ms.map (markT false))) = T.node false .lst (ms.map (markT false)) := by rw [nf_node, frz_marks]
  have hgb : atI (ms.map (markT false)) (b : Int) = some (markT false (some qb)) := atI_nat (show (ms.map (markT false))[b]? = some (markT false (some qb)) by rw [List.getElem?_map, hb]; rfl)
  have hga : atI (ms.map (markT false)) (a : Int) = some (markT false (some qa)) := atI_nat (show (ms.map (markT false))[a]? = some (markT false (some qa)) by rw [List.getElem?_map, ha]; rfl)
  show t_goes_ahead _ [some (frz τ), some (.node false .lst (frzL xs)), some (.leaf (.int a)), some (.leaf (.int b))]
  rw [hτ, hx]
  walk_at "go"
  refine ⟨_, hgb, ?_⟩
  walk_at "go"
  refine ⟨_, hga, ?_⟩
  walk_at "go"
  refine ⟨qb, qa, false, false, 300, 300, rfl, mok.2 _ (List.mem_of_getElem? hb), mok.2 _ (List.mem_of_getElem? ha), by omega, ?_⟩
  walk_at "go"
  by_cases c : qb < qa
  · unfold goesB at q
    rw [decide_eq_true c] at q ⊢
    walk_at "go"
    exact q
  rw [decide_eq_false c]
  walk_at "go"
  refine ⟨_, hgb, ?_⟩
  walk_at "go"
  refine ⟨_, hga, ?_⟩
  refine eq_qd ?_
  walk_at "go"
  by_cases c2 : qb = qa
  · unfold goesB at q
    rw [decide_eq_false c, decide_eq_true c2] at q
    rw [decide_eq_true c2]
    walk_at "go"
    refine ⟨_, w, a, b, rfl, ⟨as, hfl⟩, ok, ?_, ?_, ?_⟩
    · rw [← mok.1]; exact (List.getElem?_eq_some_iff.mp ha).1
    · rw [← mok.1]; exact (List.getElem?_eq_some_iff.mp hb).1
    exact q
  · unfold goesB at q
    rw [decide_eq_false c, decide_eq_false c2] at q
    rw [decide_eq_false c2]
    walk_at "go"
    exact q
theorem rd_marks_of {ts : List T} {Q : T → List T → Prop} {E : Value → List (Str × V) → List T → Prop} (h : sp_marks_of ts Q E) : t_marks_of (bodyEnds [false, false, false, false] Q E) (startE 6 (frzP [false, false, false, false] ts)) := by
  obtain ⟨τ, w, o, p, vs, had, least, rfl, ⟨as, hτ⟩, ok, vok, q⟩ := h
  have hfl := land_fr hτ
  have hh := ok.h
  show t_marks_of _ [some (frz τ), some (.node false .lst (frzL (intsT vs))), some (.leaf (.int least)), some (.node false .lst (frzL (intsT had))), none, none]
  rw [hτ, intsT_frz, intsT_frz]
  walk_at "go"
  rw [Int.toNat_natCast]
  refine Loop.rg (fun ts : List T => [some (some (landF w as)), some (some (.node false .lst (intsT vs))), some (some (.leaf (.int least))), some (some (.node false .lst (intsT had))), some (some (.node true .lst ts)), none]) (fun i ts => ts = ((List.range i).map (markAt w vs least had)).map (markT true)) [] rfl (by repeat' (first | exact Fits.e | refine Fits.n ?_ | refine Fits.s rfl ?_)) (fun i ts g hlt hI hF R hR => ?_) fun ts g hI hF => ?_
  · (obtain ⟨ws_, rfl⟩ := Fits.fill (k := 0) hF; clear hF; dsimp only [fillQ, Nat.reduceAdd])
    have hvs : i < vs.length := by have := vok.vl; omega
    have hhd : i < had.length := by have := vok.hl; omega
    have hgv := atI_nat (ints_at hvs)
    have hgh := atI_nat (ints_at hhd)
    simp only [Int.zero_add]
    walk_at "go"
    refine ⟨_, hgv, ?_⟩
    walk_at "go"
    have e1 : ((List.range (i + 1)).map (markAt w vs least had)).map (markT true) = ts ++ [markT true (markAt w vs least had i)] := by
      rw [hI, List.range_succ, List.map_append, List.map_append]
      rfl
    have hl0 : ts.length < sizeLine := by
      rw [hI, List.length_map, List.length_map, List.length_range]
      exact Nat.lt_of_lt_of_le (show i < 13 by omega) (by decide)
    by_cases c : vs.getD i 0 < least
    · have e2 : markAt w vs least had i = none := if_pos c
      rw [e2] at e1
      rw [decide_eq_true c]
      walk_at "go"
      exact hR _ _ e1.symm (by repeat' (first | exact Fits.e | refine Fits.n ?_ | refine Fits.s rfl ?_))
    · have e2 : markAt w vs least had i = some _ := if_neg c
      rw [e2] at e1
      rw [decide_eq_false c]
      walk_at "go"
      refine ⟨_, hgv, ?_⟩
      walk_at "go"
      refine ⟨_, hgh, ?_⟩
      walk_at "go"
      have hd := vok.d (had.getD i 0) (by rw [List.getD_eq_getElem?_getD, List.getElem?_eq_getElem hhd]; exact List.getElem_mem hhd)
      refine ⟨_, w, vs.getD i 0, had.getD i 0, rfl, ⟨as, hfl⟩, ok, hd.1, by omega, ?_⟩
      walk_at "go"
      exact hR _ _ e1.symm (by repeat' (first | exact Fits.e | refine Fits.n ?_ | refine Fits.s rfl ?_))
  · (obtain ⟨ws_, rfl⟩ := Fits.fill (k := 0) hF; clear hF; dsimp only [fillQ, Nat.reduceAdd])
    subst hI
    walk_at "go"
    exact q
theorem rd_seat_due {ts : List T} {Q : T → List T → Prop} {E : Value → List (Str × V) → List T → Prop} (h : sp_seat_due ts Q E) : t_seat_due (bodyEnds [false, false] Q E) (startE 4 (frzP [false, false] ts)) := by
  obtain ⟨τ, w, o, xs, ms, rfl, ⟨as, hτ⟩, ok, hx, mok, q⟩ := h
  have hfl := land_fr hτ
  have hh := ok.h
  have hfm : frz (T.node false .lst (ms.map (markT false))) = T.node false .lst (ms.map (markT false)) := by rw [nf_node, frz_marks]
  show t_seat_due _ [some (frz τ), some (.node false .lst (frzL xs)), none, none]
  rw [hτ, hx]
  walk_at "go"
  rw [Int.toNat_natCast]
  refine Loop.rg (fun b : Option Nat => [some (some (landF w as)), some (some (.node false .lst (ms.map (markT false)))), some (some (dueT b)), none]) (fun i b => b = (List.range i).foldl (dueStep w ms) none ∧ ∀ k, b = some k → k < w.h ∧ ∃ q, ms[k]? = some (some q)) none ⟨rfl, fun k e => by cases e⟩ (by repeat' (first | exact Fits.e | refine Fits.n ?_ | refine Fits.s rfl ?_)) (fun i b g hlt hI hF R hR => ?_) fun b g hI hF => ?_
  · (obtain ⟨ws_, rfl⟩ := Fits.fill (k := 0) hF; clear hF; dsimp only [fillQ, Nat.reduceAdd])
    obtain ⟨hI, hb⟩ := hI
    obtain ⟨o, hms⟩ : ∃ o, ms[i]? = some o := ⟨_, List.getElem?_eq_getElem (by have := mok.1; omega)⟩
    have hat : atI (ms.map (markT false)) (i : Int) = some (markT false o) := atI_nat (show (ms.map (markT false))[i]? = some (markT false o) by rw [List.getElem?_map, hms]; rfl)
    simp only [Int.zero_add]
    walk_at "go"
    refine ⟨_, hat, ?_⟩
    have hgd : ms.getD i none = o := by rw [List.getD_eq_getElem?_getD, hms]; rfl
    have e1 : (List.range (i + 1)).foldl (dueStep w ms) none = dueStep w ms b i := by
      rw [List.range_succ, List.foldl_append, ← hI]
      rfl
    unfold dueStep at e1
    rw [hgd] at e1
    cases o with
    | none =>
      walk_at "go"
      exact hR b _ ⟨e1.symm, hb⟩ (by repeat' (first | exact Fits.e | refine Fits.n ?_ | refine Fits.s rfl ?_))
    | some qo =>
      cases b with
      | none =>
        walk_at "go"
        exact hR (some i) _ ⟨e1.symm, fun k e => by cases e; exact ⟨hlt, qo, hms⟩⟩ (by repeat' (first | exact Fits.e | refine Fits.n ?_ | refine Fits.s rfl ?_))
      | some k =>
        obtain ⟨hk, qk, hq⟩ := hb k rfl
        walk_at "go"
        refine ⟨_, w, false, _, ms, i, k, qo, qk, rfl, ⟨as, hfl⟩, ok, frz_marks ms, mok, hms, hq, ?_⟩
        have hgk : (ms.getD k none).getD 0 = qk := by rw [List.getD_eq_getElem?_getD, hq]; rfl
        have e2 : (if goesB w qo ((ms.getD k none).getD 0) i k = true then some i else some k) = (List.range (i + 1)).foldl (dueStep w ms) none := e1.symm
        rw [hgk] at e2
        cases c : goesB w qo qk i k with
        | true =>
          rw [if_pos c] at e2
          walk_at "go"
          exact hR (some i) _ ⟨e2, fun k e => by cases e; exact ⟨hlt, qo, hms⟩⟩ (by repeat' (first | exact Fits.e | refine Fits.n ?_ | refine Fits.s rfl ?_))
        | false =>
          rw [if_neg (by rw [c]; decide)] at e2
          walk_at "go"
          exact hR (some k) _ ⟨e2, hb⟩ (by repeat' (first | exact Fits.e | refine Fits.n ?_ | refine Fits.s rfl ?_))
  · (obtain ⟨ws_, rfl⟩ := Fits.fill (k := 0) hF; clear hF; dsimp only [fillQ, Nat.reduceAdd])
    obtain ⟨hI, hb⟩ := hI
    subst hI
    cases hdl : List.foldl (dueStep w ms) none (List.range w.h) with
    | none =>
      rw [show dueL w ms = none from hdl] at q
      walk_at "go"
      exact q
    | some k =>
      rw [show dueL w ms = some k from hdl] at q
      walk_at "go"
      exact q
theorem rd_rounds_of {ts : List T} {Q : T → List T → Prop} {E : Value → List (Str × V) → List T → Prop} (h : sp_rounds_of ts Q E) : t_rounds_of (bodyEnds [false, false, false, false, false] Q E) (startE 9 (frzP [false, false, false, false, false] ts)) := by
  obtain ⟨τ, w, o, p, vs, had, least, n, rfl, ⟨as, hτ⟩, ok, vok, hdn, hn, q⟩ := h
  have hfl := land_fr hτ
  have hh := ok.h
  show t_rounds_of _ [some (frz τ), some (.node false .lst (frzL (intsT vs))), some (.leaf (.int least)), some (.node false .lst (frzL (intsT had))), some (.leaf (.int (n : Nat))), none, none, none, none]
  rw [hτ, intsT_frz, intsT_frz]
  walk_at "go"
  refine While.ind (fun k g => ∃ (pr : List (List (Option Rat) × Nat)) (now : List Int) (g7 g8 : Option T), g = [some (landF w as), some (T.node false Sh.lst (intsT vs)), some (T.leaf (V.int least)), some (T.node false Sh.lst (intsT had)), some (T.leaf (V.int n)), some (T.node true Sh.lst (intsT now)), some (T.node true Sh.lst (pr.map (roundT true true))), g7, g8] ∧ pr ++ roundsL w vs least k now = roundsL w vs least n had ∧ pr.length + k = n ∧ now.length = w.h ∧ ∀ d ∈ now, 0 ≤ d ∧ d + k ≤ 2 ^ 40) n ⟨[], had, none, none, rfl, rfl, by simp, vok.hl, fun d hd => ⟨(vok.d d hd).1, hdn d hd⟩⟩ (fun k g hI R hR => ?_)
  obtain ⟨pr, now, g7, g8, rfl, e, hk, hl, hd⟩ := hI
  walk_at "go"
  rw [show (frzL (pr.map (roundT true true))).length = pr.length by rw [frzL_ln, List.length_map]]
  have hgr : ∀ d ∈ now, 0 ≤ d ∧ d ≤ 2 ^ 40 := fun d h => ⟨(hd d h).1, by have := (hd d h).2; omega⟩
  have vok2 : VOd w vs now := ⟨vok.vl, hl, vok.v, hgr⟩
  by_cases c : (pr.length : Int) < (n : Int)
  · obtain ⟨m, rfl⟩ : ∃ m, k = m + 1 := ⟨k - 1, by omega⟩
    rw [decide_eq_true c]
    walk_at "go"
    refine ⟨_, w, false, false, vs, now, least, by simp only [nf_node, nf_leaf, intsT_frz]; exact rfl, ⟨as, by rw [frz_frz]; exact hfl⟩, ok, vok2, ?_⟩
    refine And.intro (pure_marks _) ?_
    have hmok := marks_okD ok least vok2
    generalize hM : marksL w vs least now = M at hmok ⊢
    have hfm : frz (T.node true .lst (M.map (markT true))) = .node false .lst (M.map (markT false)) := by rw [nf_node, frz_marksT]
    have hfms := frz_marks M
    walk_at "go"
    rw [hfm]
    refine ⟨_, w, false, _, M, rfl, ⟨as, by rw [frz_frz]; exact hfl⟩, ok, hfms, hmok, ?_⟩
    generalize hdue : dueL w M = due
    cases due with
    | none =>
      have e3 : roundsL w vs least n had = [] := rounds_nilD ok (by rw [hM]; exact hdue) n had
      clear hM hmok
      walk_at "go"
      rw [e3] at q
      exact q
    | some k =>
      have hk2 := due_lt hdue
      have hkl : k < now.length := by omega
      have hprs : pr.length < sizeLine := Nat.lt_of_lt_of_le (show pr.length < 401 by omega) (by decide)
      have hgt : (intsT now)[k]? = some (.leaf (.int (now.getD k 0))) := ints_at hkl
      have hlp : (pr.map (roundT true true)).length < sizeLine := by rw [List.length_map]; exact hprs
      have hdk := hd (now.getD k 0) (by rw [List.getD_eq_getElem?_getD, List.getElem?_eq_getElem hkl]; exact List.getElem_mem hkl)
      rw [rounds_some (by rw [hM]; exact hdue), hM] at e
      clear hM hmok
      walk_at "go"
      refine And.intro (by show (0 : Int) ≤ (k : Nat); omega) ?_
      walk_at "go"
      refine ⟨_, by rw [Int.toNat_natCast]; exact hgt, ?_⟩
      walk_at "go"
      rw [Int.toNat_natCast]
      refine And.intro (by rw [ints_len]; omega) ?_
      walk_at "gn"
      refine hR m _ rfl ⟨pr ++ [(M, k)], addAt now k 1, none, some (frz (dueT (some k))), ?_, ?_, ?_, ?_, ?_⟩
      · rw [List.map_append, ints_set]
        rfl
      · rw [← e, List.append_assoc]
        rfl
      · rw [List.length_append, List.length_singleton]
        omega
      · rw [addAt_len]
        exact hl
      · intro d h
        rcases List.mem_or_eq_of_mem_set h with h | rfl
        · have := hd d h
          omega
        · omega
  · rw [decide_eq_false c]
    have hk0 : k = 0 := by omega
    subst hk0
    walk_at "go"
    rw [← e, show roundsL w vs least 0 now = [] from rfl, List.append_nil] at q
    exact q
theorem sum_bdD {vs : List Int} (h : ∀ v ∈ vs, 0 ≤ v ∧ v < 2 ^ 60) (hl : vs.length ≤ 13) : vs.sum < 2 ^ 100 ∧ 0 ≤ vs.sum := by
  have key : ∀ l : List Int, (∀ v ∈ l, 0 ≤ v ∧ v < 2 ^ 60) → 0 ≤ l.sum ∧ l.sum ≤ l.length * 2 ^ 60 := fun l => by
    induction l with
    | nil => intro _; simp
    | cons x l ih =>
      intro h
      have h1 := h x List.mem_cons_self
      have h2 := ih fun v hv => h v (List.mem_cons_of_mem _ hv)
      rw [List.sum_cons, List.length_cons]
      have : ((l.length + 1 : Nat) : Int) * 2 ^ 60 = l.length * 2 ^ 60 + 2 ^ 60 := by rw [Int.natCast_add, Int.add_mul]; simp
      omega
  have h1 := key vs h
  have h2 : (vs.length : Int) * 2 ^ 60 ≤ 13 * 2 ^ 60 := Int.mul_le_mul_of_nonneg_right (by omega) (by decide)
  omega
theorem WaysT.fr {h : Nat} {xs : List T} (H : WaysT h xs) : WaysT h (frzL xs) := by
  refine ⟨fun x hx => ?_, by rw [frzL_ln]; exact H.2.1, by rw [frzL_ln]; exact H.2.2⟩
  rw [frzL_map] at hx
  obtain ⟨y, hy, rfl⟩ := List.mem_map.mp hx
  obtain ⟨w', ⟨dx, e⟩, e2⟩ := H.1 y hy
  exact ⟨w', ⟨dx, by rw [frz_frz]; exact e⟩, e2⟩
theorem rd_evening {ts : List T} {Q : T → List T → Prop} {E : Value → List (Str × V) → List T → Prop} (h : sp_evening ts Q E) : t_evening (bodyEnds [false, false, false] Q E) (startE 4 (frzP [false, false, false] ts)) := by
  obtain ⟨τ, w, o, p, vs, had, rfl, ⟨as, hτ⟩, ok, vok, hd, q⟩ := h
  have hfl := land_fr hτ
  have hh := ok.h
  have hs := ok.s
  show t_evening _ [some (frz τ), some (.node false .lst (frzL (intsT vs))), some (.node false .lst (frzL (intsT had))), none]
  rw [hτ, intsT_frz, intsT_frz]
  walk_at "go"
  have hv60 : vs.sum < 2 ^ 100 ∧ 0 ≤ vs.sum := sum_bdD vok.v (by have := vok.vl; omega)
  refine ⟨_, w, vs.sum, rfl, ⟨as, hfl⟩, ok, hv60.2, hv60.1, ?_⟩
  walk_at "go"
  have hdb := vok.d
  refine ⟨_, w, false, false, vs, had, leastI w vs.sum, w.s, rfl, ⟨as, hfl⟩, ok, vok, fun d h => by have := hd d h; omega, by omega, ?_⟩
  walk_at "go"
  rw [intsT_frz]
  exact q
theorem rd_evened_by {ts : List T} {Q : T → List T → Prop} {E : Value → List (Str × V) → List T → Prop} (h : sp_evened_by ts Q E) : t_evened_by (bodyEnds [false, false] Q E) (startE 5 (frzP [false, false] ts)) := by
  obtain ⟨τ, τp, w, x, y, rs, rfl, ⟨as, hτ⟩, ok, hp, hl, hr, q⟩ := h
  have hfl := land_fr hτ
  have hh := ok.h
  show t_evened_by _ [some (frz τ), some (frz τp), none, none, none]
  rw [hτ, hp]
  walk_at "go"
  refine And.intro (by rw [← hp, frz_frz]) ?_
  rw [show repL [T.leaf (V.int 0)] (w.h : Int) = intsT (List.replicate w.h 0) from rep0 w.h]
  walk_at "go"
  rw [frzL_frzL, frz_rounds]
  refine Loop.fit rs (roundT false false) rfl (fun v => [none, none, some (some (.node true .lst (intsT v))), none, none]) (fun i v => v = toldL w.h ((rs.take i).map (·.2)) ∧ v.length = w.h) (List.replicate w.h 0) ⟨rfl, by simp⟩ (by repeat' (first | exact Fits.e | refine Fits.n ?_ | refine Fits.s rfl ?_)) (fun i r v g hi hI hF R hR => ?_) fun v g hI hF => ?_
  · (obtain ⟨ws_, rfl⟩ := Fits.fill (k := 0) hF; clear hF; dsimp only [fillQ, Nat.reduceAdd])
    obtain ⟨hI, hlv⟩ := hI
    have hk := hr r (List.mem_of_getElem? hi)
    have hkv : r.2 < v.length := by omega
    have hgt : (intsT v)[r.2]? = some (.leaf (.int (v.getD r.2 0))) := ints_at hkv
    unfold roundT
    walk_at "go"
    refine ⟨_, hgt, ?_⟩
    walk_at "go"
    refine And.intro (by rw [ints_len]; omega) ?_
    walk_at "gn"
    refine hR (v.set r.2 (v.getD r.2 0 + 1)) _ ⟨?_, by rw [List.length_set]; exact hlv⟩ ?_
    · rw [List.take_add_one, hi, Option.toList_some, List.map_append]
      unfold toldL at hI ⊢
      rw [List.foldl_append, ← hI]
      rfl
    · rw [← ints_set]
      (repeat' (first | exact Fits.e | refine Fits.n ?_ | refine Fits.s rfl ?_))
  · (obtain ⟨ws_, rfl⟩ := Fits.fill (k := 0) hF; clear hF; dsimp only [fillQ, Nat.reduceAdd])
    obtain ⟨hI, hlv⟩ := hI
    rw [List.take_of_length_le (Nat.le_refl _)] at hI
    subst hI
    walk_at "go"
    exact q
theorem rd_areas_of {ts : List T} {Q : T → List T → Prop} {E : Value → List (Str × V) → List T → Prop} (h : sp_areas_of ts Q E) : t_areas_of (bodyEnds [false] Q E) (startE 2 (frzP [false] ts)) := by
  obtain ⟨o, xs, h, rfl, ⟨hx, h1, h6⟩, hh, q⟩ := h
  show t_areas_of _ [some (.node false .lst (frzL xs)), none]
  walk_at "go"
  have hxl : (frzL xs).length = xs.length := frzL_ln _
  rw [hxl, decide_eq_true (show (1 : Int) ≤ (xs.length : Nat) by omega)]
  walk_at "go"
  rw [decide_eq_true (show ((xs.length : Nat) : Int) ≤ 6 by omega)]
  walk_at "go"
  have H := WaysT.fr (WaysT.fr ⟨hx, h1, h6⟩)
  refine Lc.fx (frzL (frzL xs)) id (List.map_id _).symm (fun _ => some (.leaf (.bl true))) (by rw [frzL_ln, frzL_ln]; exact Nat.le_trans h6 (by decide)) (fun x hxm acc R' hacc k1 k2 => ?_) ?_
  · have hk1 := k1 _ rfl
    obtain ⟨w', ⟨dx, e⟩, hw'⟩ := H.1 x hxm
    have hfx : frz x = x := frz_mem hxm
    rw [hfx] at e
    subst e
    walk_at "go"
    simp only [wipeE, List.set_set] at hk1 ⊢
    exact hk1
  · rw [fm_some]
    walk_at "go"
    refine ⟨(frzL (frzL xs)).map fun _ => true, by unfold boolsT; rw [List.map_map]; rfl, ?_⟩
    rw [show (((frzL (frzL xs)).map fun _ => true).all id) = true by rw [List.all_map]; exact List.all_eq_true.mpr fun _ _ => rfl]
    walk_at "go"
    have e00 := List.getElem?_eq_getElem (l := frzL xs) (i := 0) (by omega)
    generalize (frzL xs)[0]'(by omega) = x0 at e00
    obtain ⟨w0, ⟨d0, e0⟩, hw0⟩ := (WaysT.fr ⟨hx, h1, h6⟩).1 x0 (List.mem_of_getElem? e00)
    have hf0 : frz x0 = x0 := frz_mem (List.mem_of_getElem? e00)
    rw [hf0] at e0
    subst e0
    have hat : atI (frzL xs) 0 = some (T.node false (Sh.ins C_Lists d0 ns_Lists) (wayK false false w0)) := atI_nat (j := 0) e00
    refine Lc.fx (frzL (frzL xs)) id (List.map_id _).symm (fun _ => some (.leaf (.bl false))) (by rw [frzL_ln, frzL_ln]; exact Nat.le_trans h6 (by decide)) (fun x hxm acc R' hacc k1 k2 => ?_) ?_
    · have hk1 := k1 _ rfl
      obtain ⟨w', ⟨dx, e⟩, hw'⟩ := H.1 x hxm
      have hfx : frz x = x := frz_mem hxm
      rw [hfx] at e
      subst e
      have hfw := frz_way dx w'
      walk_at "go"
      refine ⟨_, hat, ?_⟩
      rw [frz_way]
      walk_at "go"
      rw [show (if true = true then !decide (((w'.h : Nat) : Int) = (w0.h : Nat)) else decide (((w'.h : Nat) : Int) = (w0.h : Nat))) = false by rw [if_pos rfl, hw', hw0]; simp]
      simp only [wipeE, List.set_set] at hk1 ⊢
      exact hk1
    · rw [fm_some]
      walk_at "go"
      refine ⟨(frzL (frzL xs)).map fun _ => false, by unfold boolsT; rw [List.map_map]; rfl, ?_⟩
      rw [show (((frzL (frzL xs)).map fun _ => false).any id) = false by rw [List.any_map]; exact List.any_eq_false.mpr fun _ _ => (nofun)]
      walk_at "go"
      rw [frzL_frzL]
      exact q
theorem rd_Land_init {ts : List T} {Q : T → List T → Prop} {E : Value → List (Str × V) → List T → Prop} (h : sp_Land_init ts Q E) : t_Land_init (bodyEnds [true, false, false, false, false, false] Q E) (startE 6 (frzP [true, false, false, false, false, false] ts)) := by
  obtain ⟨w, o, xs, τ, τh, rfl, ok, hw, hl, hh, q⟩ := h
  show t_Land_init _ [some (.node true (slS C_Land []) [.node true alS []]), some (.node false .lst (frzL xs)), some (.leaf (.int (w.s : Nat))), some (frz τ), some (frz τh), some (.leaf (.int w.step))]
  walk_at "go"
  refine ⟨false, frzL xs, w.h, rfl, hw.fr, ok.h.2, ?_⟩
  walk_at "go"
  obtain ⟨x0, hx0, w', ⟨dx, hx0w⟩, hw'⟩ : ∃ x0, (frzL (frzL xs))[0]? = some x0 ∧ ∃ w', IsWay x0 w' ∧ w'.h = w.h := by
    have H := hw.fr.fr
    obtain ⟨h1, h2, h3⟩ := H
    exact ⟨_, List.getElem?_eq_getElem (by omega), h1 _ (List.getElem_mem _)⟩
  refine ⟨x0, atI_nat (j := 0) hx0, ?_⟩
  rw [hx0w]
  walk_at "go"
  refine ⟨_, 60, true, rfl, rfl, ?_⟩
  rw [show countB 60 (frz (T.leaf (V.int (w.s : Nat)))) = true by show (decide (0 ≤ ((w.s : Nat) : Int)) && decide (((w.s : Nat) : Int) ≤ 60)) = true; rw [decide_eq_true (by omega), decide_eq_true (by have := ok.s; omega)]; rfl]
  walk_at "go"
  refine ⟨_, 9, true, rfl, rfl, ?_⟩
  rw [show countB 9 (frz (T.leaf (V.int w.step))) = true by show (decide (0 ≤ w.step) && decide (w.step ≤ 9)) = true; rw [decide_eq_true (by have := ok.step; omega), decide_eq_true ok.step.2]; rfl]
  walk_at "go"
  rw [decide_eq_false (show ¬ w.step < 1 by have := ok.step; omega)]
  walk_at "go"
  refine ⟨w.h, frz τ, w.lots, by rw [hw', nf_leaf], hl.frz, ok.h.2, ok.lots, ?_⟩
  rcases hh with ⟨rfl, e1, e2⟩ | ⟨p, rfl⟩
  · (conv => whnf)
    refine And.intro (frz_frz _) ?_
    (conv => whnf)
    refine .inl ⟨rfl, ?_⟩
    walk_at "go"
    have := q true true
    unfold landO at this
    rw [e1, e2] at this
    rw [hw']
    exact this
  · (conv => whnf)
    refine And.intro (frz_frz _) ?_
    (conv => whnf)
    refine .inr ⟨false, w.top, w.bot, rfl, ok.bot.1, ok.top.1, ok.top.2, ok.red, ?_⟩
    walk_at "go"
    rw [hw']
    exact q false true
theorem part_qT {a b : Int} (hb : 0 < b) : [T.leaf (.int (a / (Int.gcd a b : Int))), T.leaf (.int (b / (Int.gcd a b : Int)))] = qT (Rat.divInt a b) := by
  have h := red_pos (a := a) hb
  have g0 : (0 : Int) ≤ (Int.gcd a b : Int) := Int.natCast_nonneg _
  rw [Int.fdiv_eq_ediv_of_nonneg _ g0, Int.fdiv_eq_ediv_of_nonneg _ g0] at h
  rw [h.1, h.2]
theorem rd__law_part {ts : List T} {Q : T → List T → Prop} {E : Value → List (Str × V) → List T → Prop} (h : sp__law_part ts Q E) : t__law_part (bodyEnds [false, false] Q E) (startE 5 (frzP [false, false] ts)) := by
  obtain ⟨a, b, rfl, h0, h1, h2, h3, q⟩ := h
  (try simp only [np_t, np_f, np_n, ne_c, ne_n, ne_0, nf_leaf, nf_pin, nf_node])
  (repeat (first | (refine Nx.mk ?_; ((try (dsimp only [nr_none, nr_some, nr_nil, nf_leaf, nf_pin, nf_node, nf_nil, nf_cons, ni_f, ni_t, nw_nil, nw_cons, ns_0, ns_s])); (try simp only [intsT_frz, frzL_frzL]))) | (refine And.intro ?_ ?_; focus (first | exact rfl | exact frz_frz _ | exact frz_nf _ _ | exact (show frz _ = _ by assumption) | (show frz _ = _; simp only [nf_node, nf_cons, nf_nil, nf_leaf, frzL_frzL, intsT_frz]; done) | exact frz_ints _ _ | exact Nat.le_of_ble_eq_true rfl | exact (show (0 : Int) < _ by decide) | exact (show (0 : Int) ≤ _ by decide) | exact ⟨show (0 : Int) < _ by decide, show Nat.log2 _ < _ by decide⟩ | exact Or.inl (Or.inr ⟨show (_ : Int) < _ by decide, show (_ : Int) < _ by decide⟩) | exact Or.inl (Or.inl ⟨show (_ : Int) < _ by decide, show (_ : Int) < _ by decide⟩) | exact ⟨show (0 : Int) ≤ _ by decide, show (_ : Int) ≤ _ by decide, show Int.natAbs _ < _ by decide⟩)) | refine Exists.intro _ (Exists.intro _ (And.intro rfl (And.intro rfl ?_))) | refine Exists.intro _ (And.intro (Le.rf _) ?_) | refine Exists.intro _ (And.intro rfl ?_)))
  refine ⟨by decide, by decide, ?_⟩
  (conv => whnf)
  refine Loop.ind (fun i g => ∃ (x y : Int) (z : Option T), g = [some (.leaf (.int a)), some (.leaf (.int b)), some (.leaf (.int x)), some (.leaf (.int y)), z] ∧ Euc (100 + 100) (Int.gcd a b) i x y) ⟨_, _, _, rfl, ?_⟩ (fun i t g ht hI R hR => ?_) ?_
  · have := Euc.start (x := a) (y := b) (j := 100) (k := 100) (by omega) (by omega)
    rw [show ((a.natAbs : Nat) : Int) = a by omega, show ((b.natAbs : Nat) : Int) = b by omega] at this
    exact this
  · obtain ⟨x, y, z, rfl, hE⟩ := hI
    (repeat (first | (refine Nx.mk ?_; ((try (dsimp only [nr_none, nr_some, nr_nil, nf_leaf, nf_pin, nf_node, nf_nil, nf_cons, ni_f, ni_t, nw_nil, nw_cons, ns_0, ns_s])); (try simp only [intsT_frz, frzL_frzL]))) | (refine And.intro ?_ ?_; focus (first | exact rfl | exact frz_frz _ | exact frz_nf _ _ | exact (show frz _ = _ by assumption) | (show frz _ = _; simp only [nf_node, nf_cons, nf_nil, nf_leaf, frzL_frzL, intsT_frz]; done) | exact frz_ints _ _ | exact Nat.le_of_ble_eq_true rfl | exact (show (0 : Int) < _ by decide) | exact (show (0 : Int) ≤ _ by decide) | exact ⟨show (0 : Int) < _ by decide, show Nat.log2 _ < _ by decide⟩ | exact Or.inl (Or.inr ⟨show (_ : Int) < _ by decide, show (_ : Int) < _ by decide⟩) | exact Or.inl (Or.inl ⟨show (_ : Int) < _ by decide, show (_ : Int) < _ by decide⟩) | exact ⟨show (0 : Int) ≤ _ by decide, show (_ : Int) ≤ _ by decide, show Int.natAbs _ < _ by decide⟩)) | refine Exists.intro _ (Exists.intro _ (And.intro rfl (And.intro rfl ?_))) | refine Exists.intro _ (And.intro (Le.rf _) ?_) | refine Exists.intro _ (And.intro rfl ?_)))
    (conv => whnf)
    refine ifB_dec (p := y = 0) (fun hy => ?_) (fun hy => ?_)
    · subst hy
      have e := hE.end_
      subst e
      (repeat (first | (refine Nx.mk ?_; ((try (dsimp only [nr_none, nr_some, nr_nil, nf_leaf, nf_pin, nf_node, nf_nil, nf_cons, ni_f, ni_t, nw_nil, nw_cons, ns_0, ns_s])); (try simp only [intsT_frz, frzL_frzL]))) | (refine And.intro ?_ ?_; focus (first | exact rfl | exact frz_frz _ | exact frz_nf _ _ | exact (show frz _ = _ by assumption) | (show frz _ = _; simp only [nf_node, nf_cons, nf_nil, nf_leaf, frzL_frzL, intsT_frz]; done) | exact frz_ints _ _ | exact Nat.le_of_ble_eq_true rfl | exact (show (0 : Int) < _ by decide) | exact (show (0 : Int) ≤ _ by decide) | exact ⟨show (0 : Int) < _ by decide, show Nat.log2 _ < _ by decide⟩ | exact Or.inl (Or.inr ⟨show (_ : Int) < _ by decide, show (_ : Int) < _ by decide⟩) | exact Or.inl (Or.inl ⟨show (_ : Int) < _ by decide, show (_ : Int) < _ by decide⟩) | exact ⟨show (0 : Int) ≤ _ by decide, show (_ : Int) ≤ _ by decide, show Int.natAbs _ < _ by decide⟩)) | refine Exists.intro _ (Exists.intro _ (And.intro rfl (And.intro rfl ?_))) | refine Exists.intro _ (And.intro (Le.rf _) ?_) | refine Exists.intro _ (And.intro rfl ?_)))
      (conv => whnf)
      have hg := gcd_size (a := a) (b := b) (by omega)
      have hl : (Int.gcd a b).log2 < 9000 := Nat.lt_of_lt_of_le (PySem.Flt.log2_lt_of (k := 100) (by decide) (by omega)) (by decide)
      have gp : 0 < (Int.gcd a b : Int) := by omega
      refine And.intro ⟨gp, hl⟩ ?_
      (conv => whnf)
      refine And.intro rfl ?_
      (conv => whnf)
      refine And.intro rfl ?_
      (conv => whnf)
      refine And.intro ⟨gp, hl⟩ ?_
      (conv => whnf)
      refine And.intro (by show 2 ≤ 16777216; decide) ?_
      rw [← part_qT h1] at q
      exact q
    · (conv => whnf)
      refine Nx.mk ?_
      unfold t__law_part_2
      (repeat (first | (refine Nx.mk ?_; ((try (dsimp only [nr_none, nr_some, nr_nil, nf_leaf, nf_pin, nf_node, nf_nil, nf_cons, ni_f, ni_t, nw_nil, nw_cons, ns_0, ns_s])); (try simp only [intsT_frz, frzL_frzL]))) | (refine And.intro ?_ ?_; focus (first | exact rfl | exact frz_frz _ | exact frz_nf _ _ | exact (show frz _ = _ by assumption) | (show frz _ = _; simp only [nf_node, nf_cons, nf_nil, nf_leaf, frzL_frzL, intsT_frz]; done) | exact frz_ints _ _ | exact Nat.le_of_ble_eq_true rfl | exact (show (0 : Int) < _ by decide) | exact (show (0 : Int) ≤ _ by decide) | exact ⟨show (0 : Int) < _ by decide, show Nat.log2 _ < _ by decide⟩ | exact Or.inl (Or.inr ⟨show (_ : Int) < _ by decide, show (_ : Int) < _ by decide⟩) | exact Or.inl (Or.inl ⟨show (_ : Int) < _ by decide, show (_ : Int) < _ by decide⟩) | exact ⟨show (0 : Int) ≤ _ by decide, show (_ : Int) ≤ _ by decide, show Int.natAbs _ < _ by decide⟩)) | refine Exists.intro _ (Exists.intro _ (And.intro rfl (And.intro rfl ?_))) | refine Exists.intro _ (And.intro (Le.rf _) ?_) | refine Exists.intro _ (And.intro rfl ?_)))
      refine And.intro (show 0 < y by have := hE.y0; omega) ?_
      (repeat (first | (refine Nx.mk ?_; ((try (dsimp only [nr_none, nr_some, nr_nil, nf_leaf, nf_pin, nf_node, nf_nil, nf_cons, ni_f, ni_t, nw_nil, nw_cons, ns_0, ns_s])); (try simp only [intsT_frz, frzL_frzL]))) | (refine And.intro ?_ ?_; focus (first | exact rfl | exact frz_frz _ | exact frz_nf _ _ | exact (show frz _ = _ by assumption) | (show frz _ = _; simp only [nf_node, nf_cons, nf_nil, nf_leaf, frzL_frzL, intsT_frz]; done) | exact frz_ints _ _ | exact Nat.le_of_ble_eq_true rfl | exact (show (0 : Int) < _ by decide) | exact (show (0 : Int) ≤ _ by decide) | exact ⟨show (0 : Int) < _ by decide, show Nat.log2 _ < _ by decide⟩ | exact Or.inl (Or.inr ⟨show (_ : Int) < _ by decide, show (_ : Int) < _ by decide⟩) | exact Or.inl (Or.inl ⟨show (_ : Int) < _ by decide, show (_ : Int) < _ by decide⟩) | exact ⟨show (0 : Int) ≤ _ by decide, show (_ : Int) ≤ _ by decide, show Int.natAbs _ < _ by decide⟩)) | refine Exists.intro _ (Exists.intro _ (And.intro rfl (And.intro rfl ?_))) | refine Exists.intro _ (And.intro (Le.rf _) ?_) | refine Exists.intro _ (And.intro rfl ?_)))
      exact hR _ ⟨_, _, _, rfl, hE.step hy⟩
  · rintro g ⟨x, y, z, rfl, hE⟩
    have hy := hE.done (by
      have : (rangeT 0 (Int.toNat 400)).length = 400 := by simp [rangeT]
      omega)
    subst hy
    have e := hE.end_
    subst e
    (refine Nx.mk ?_; ((try (dsimp only [nr_none, nr_some, nr_nil, nf_leaf, nf_pin, nf_node, nf_nil, nf_cons, ni_f, ni_t, nw_nil, nw_cons, ns_0, ns_s])); (try simp only [intsT_frz, frzL_frzL])))
    (repeat (first | (refine Nx.mk ?_; ((try (dsimp only [nr_none, nr_some, nr_nil, nf_leaf, nf_pin, nf_node, nf_nil, nf_cons, ni_f, ni_t, nw_nil, nw_cons, ns_0, ns_s])); (try simp only [intsT_frz, frzL_frzL]))) | (refine And.intro ?_ ?_; focus (first | exact rfl | exact frz_frz _ | exact frz_nf _ _ | exact (show frz _ = _ by assumption) | (show frz _ = _; simp only [nf_node, nf_cons, nf_nil, nf_leaf, frzL_frzL, intsT_frz]; done) | exact frz_ints _ _ | exact Nat.le_of_ble_eq_true rfl | exact (show (0 : Int) < _ by decide) | exact (show (0 : Int) ≤ _ by decide) | exact ⟨show (0 : Int) < _ by decide, show Nat.log2 _ < _ by decide⟩ | exact Or.inl (Or.inr ⟨show (_ : Int) < _ by decide, show (_ : Int) < _ by decide⟩) | exact Or.inl (Or.inl ⟨show (_ : Int) < _ by decide, show (_ : Int) < _ by decide⟩) | exact ⟨show (0 : Int) ≤ _ by decide, show (_ : Int) ≤ _ by decide, show Int.natAbs _ < _ by decide⟩)) | refine Exists.intro _ (Exists.intro _ (And.intro rfl (And.intro rfl ?_))) | refine Exists.intro _ (And.intro (Le.rf _) ?_) | refine Exists.intro _ (And.intro rfl ?_)))
    (conv => whnf)
    have hg := gcd_size (a := a) (b := b) (by omega)
    have hl : (Int.gcd a b).log2 < 9000 := Nat.lt_of_lt_of_le (PySem.Flt.log2_lt_of (k := 100) (by decide) (by omega)) (by decide)
    have gp : 0 < (Int.gcd a b : Int) := by omega
    refine And.intro ⟨gp, hl⟩ ?_
    (conv => whnf)
    refine And.intro rfl ?_
    (conv => whnf)
    refine And.intro rfl ?_
    (conv => whnf)
    refine And.intro ⟨gp, hl⟩ ?_
    (conv => whnf)
    refine And.intro (by show 2 ≤ 16777216; decide) ?_
    rw [← part_qT h1] at q
    exact q
end L72
set_option Elab.async false
set_option linter.all false
set_option maxRecDepth 100000
set_option maxHeartbeats 4000000
namespace L72
open PySem L2 DL
variable [Kls]
local macro_rules | `(tactic| walk_at "go") => `(tactic| ((try (conv => whnf)); (repeat (first | (refine Nx.mk ?_; ((try (dsimp only [nr_none, nr_some, nr_nil, nf_leaf, nf_pin, nf_node, nf_nil, nf_cons, ni_f, ni_t, nw_nil, nw_cons, ns_0, ns_s])); (try simp only [intsT_frz, frzL_frzL])); (try (conv => whnf))) | (refine And.intro ?_ ?_; (focus (first | exact rfl | exact frz_frz _ | exact frz_nf _ _ | exact (show frz _ = _ by assumption) | (show frz _ = _; simp only [nf_node, nf_cons, nf_nil, nf_leaf, frzL_frzL, intsT_frz]; done) | exact frz_ints _ _ | (with_reducible assumption) | (rw [nf_node, intsT_frz]; done) | (walk_at "cl") | (omega) | (exact ⟨by omega, by omega⟩) | (show _ ≤ sizeLine; refine Nat.le_trans (m := 10000) ?_ (by decide); simp only [frzL_ln, List.length_append, List.length_map, List.length_reverse, List.length_cons, List.length_nil, List.length_range, Int.toNat_natCast]; omega) | (exact ⟨by omega, by omega, by refine Nat.le_trans (m := 10000) ?_ (by decide); simp only [frzL_ln, List.length_append, List.length_map, List.length_reverse, List.length_cons, List.length_nil, List.length_range, Int.toNat_natCast]; omega⟩) | (show (_ : Nat) ≤ _; exact Nat.le_of_ble_eq_true rfl) | exact (show (0 : Int) < _ by decide) | exact (show (0 : Int) ≤ _ by decide) | exact ⟨show (0 : Int) < _ by decide, show Nat.log2 _ < _ by decide⟩ | exact Or.inl (Or.inr ⟨show (_ : Int) < _ by decide, show (_ : Int) < _ by decide⟩) | exact Or.inl (Or.inl ⟨show (_ : Int) < _ by decide, show (_ : Int) < _ by decide⟩) | exact ⟨show (0 : Int) ≤ _ by decide, show (_ : Int) ≤ _ by decide, show Int.natAbs _ < _ by decide⟩)); (try (conv => whnf))) | (refine Exists.intro _ (Exists.intro _ (And.intro rfl (And.intro rfl ?_))); (try (conv => whnf))) | (refine Exists.intro _ (And.intro (Le.rf _) ?_); (try (conv => whnf))) | (refine Exists.intro _ (And.intro rfl ?_); (try (conv => whnf)))))))
local macro_rules | `(tactic| walk_at "gn") => `(tactic| ((try (conv => whnf)); (repeat (first | (refine And.intro ?_ ?_; (focus (first | exact rfl | exact frz_frz _ | exact frz_nf _ _ | exact (show frz _ = _ by assumption) | (show frz _ = _; simp only [nf_node, nf_cons, nf_nil, nf_leaf, frzL_frzL, intsT_frz]; done) | exact frz_ints _ _ | (with_reducible assumption) | (rw [nf_node, intsT_frz]; done) | (walk_at "cl") | (omega) | (exact ⟨by omega, by omega⟩) | (show _ ≤ sizeLine; refine Nat.le_trans (m := 10000) ?_ (by decide); simp only [frzL_ln, List.length_append, List.length_map, List.length_reverse, List.length_cons, List.length_nil, List.length_range, Int.toNat_natCast]; omega) | (exact ⟨by omega, by omega, by refine Nat.le_trans (m := 10000) ?_ (by decide); simp only [frzL_ln, List.length_append, List.length_map, List.length_reverse, List.length_cons, List.length_nil, List.length_range, Int.toNat_natCast]; omega⟩) | (show (_ : Nat) ≤ _; exact Nat.le_of_ble_eq_true rfl) | exact (show (0 : Int) < _ by decide) | exact (show (0 : Int) ≤ _ by decide) | exact ⟨show (0 : Int) < _ by decide, show Nat.log2 _ < _ by decide⟩ | exact Or.inl (Or.inr ⟨show (_ : Int) < _ by decide, show (_ : Int) < _ by decide⟩) | exact Or.inl (Or.inl ⟨show (_ : Int) < _ by decide, show (_ : Int) < _ by decide⟩) | exact ⟨show (0 : Int) ≤ _ by decide, show (_ : Int) ≤ _ by decide, show Int.natAbs _ < _ by decide⟩)); (try (conv => whnf))) | (refine Exists.intro _ (Exists.intro _ (And.intro rfl (And.intro rfl ?_))); (try (conv => whnf))) | (refine Exists.intro _ (And.intro (Le.rf _) ?_); (try (conv => whnf))) | (refine Exists.intro _ (And.intro rfl ?_); (try (conv => whnf)))))))
local macro_rules | `(tactic| walk_at "cl") => `(tactic| (first | (fail) | (exact frz_frz _; done)))
theorem rg_ints (h : Nat) : (rgV 0 (h : Int)).map T.leaf = intsT (rangeI h) := by
  unfold rgV rangeI
  simp [intsT_eq, List.map_map, Function.comp_def]
def unI : T → Int
  | .leaf (.int n) => n
  | _ => 0
theorem perm_ints {its : List T} {ns : List Int} (h : its.Perm (intsT ns)) : ∃ ms : List Int, its = intsT ms ∧ ms.Perm ns := by
  refine ⟨its.map unI, ?_, ?_⟩
  · rw [intsT_eq, List.map_map, List.map_map]
    refine ((List.map_congr_left fun t ht => ?_).trans (List.map_id _)).symm
    have := h.mem_iff.mp ht
    rw [intsT_eq, List.map_map] at this
    obtain ⟨n, _, rfl⟩ := List.mem_map.mp this
    rfl
  · have := h.map unI
    rw [intsT_eq, List.map_map, List.map_map] at this
    have e : List.map ((unI ∘ T.leaf) ∘ V.int) ns = ns := (List.map_congr_left fun n _ => rfl).trans (List.map_id _)
    rw [e] at this
    exact this
theorem pow_up {x j k : Nat} (h : x < 2 ^ j) (hk : j ≤ k) : x < 2 ^ k := Nat.lt_of_lt_of_le h (Nat.pow_le_pow_right (by decide) hk)
theorem lim_mk {q : Rat} (h : Lim 300 q) : MkOk 0 (some (qI q)) := fun p e => by
  cases e
  have h : q.num.natAbs + q.den ≤ 2 ^ 300 := h
  have : 2 ^ 300 < 2 ^ (400 + 0) := Nat.pow_lt_pow_right (by decide) (by decide)
  exact ⟨by show q.num.natAbs < _; omega, by show ((q.den : Int)).natAbs < _; omega⟩
theorem least_bd {w : Lw} (ok : LwOk w) {n : Int} (h0 : 0 ≤ n) : 1 ≤ leastI w n ∧ leastI w n ≤ n + 1 := by
  have h1 : 0 ≤ w.top * n := Int.mul_nonneg ok.top.1 h0
  have h2 : w.top * n ≤ w.bot * n := Int.mul_le_mul_of_nonneg_right ok.top.2 h0
  have h3 : w.top * n / w.bot ≤ n := by
    have := Int.ediv_le_ediv (show 0 < w.bot by have := ok.bot; omega) h2
    rw [Int.mul_ediv_cancel_left _ (show w.bot ≠ 0 by have := ok.bot; omega)] at this
    exact this
  unfold leastI upQ
  split <;> omega
theorem cut_take {α : Type} (xs : List α) (n : Nat) : cutA xs none (some (n : Int)) = xs.take n := by
  unfold cutA
  rw [show HT.sIx xs.length 0 none = 0 from rfl, List.drop_zero, HT.sIx_nat, Nat.sub_zero]
  by_cases h : n ≤ xs.length
  · rw [Nat.min_eq_left h]
  · rw [Nat.min_eq_right (by omega), List.take_of_length_le (by omega), List.take_of_length_le (by omega)]
theorem giveL_snoc (had : List Int) (ks : List Nat) (k : Nat) : giveL had (ks ++ [k]) = addAt (giveL had ks) k 1 := by
  unfold giveL
  rw [List.foldl_append]
  rfl
theorem ints_take (v : List Int) (n : Nat) : (intsT v).take n = intsT (v.take n) := by simp [intsT, List.map_take]
theorem cut_drop {α : Type} (xs : List α) (n : Nat) : cutA xs (some (n : Int)) none = xs.drop n := by
  unfold cutA
  rw [show HT.sIx xs.length xs.length none = xs.length from rfl, HT.sIx_nat]
  by_cases h : n ≤ xs.length
  · rw [Nat.min_eq_left h, List.take_of_length_le (by rw [List.length_drop]; omega)]
  · rw [Nat.min_eq_right (by omega), List.drop_of_length_le (Nat.le_refl _), List.drop_of_length_le (by omega)]
    simp
theorem ifB_gen {b : Bool} {F : Int → Prop} {x y : Int} (h : ∀ m, m = x ∨ m = y → F m) : ifB b (F x) (F y) := by
  cases b
  · exact h y (.inr rfl)
  · exact h x (.inl rfl)
theorem told_snoc (h : Nat) (ks : List Nat) (k : Nat) : toldL h (ks ++ [k]) = addAt (toldL h ks) k 1 := by
  unfold toldL
  rw [List.foldl_append]
  rfl
theorem good_ints {ns : List Int} {N : Nat} (h : ∀ x ∈ ns, 0 ≤ x ∧ x ≤ N) (hN : N ≤ 100) (hl : ns.length ≤ 100) : GoodD (.list (ns.map .int)) := by
  refine ⟨?_, ?_, ?_⟩
  · simp only [smallD]
    exact smallL_ints fun n hn => by have := h n hn; omega
  · simp only [PyData.depth, depthAll_ints]
    omega
  · have := szL_ints ns
    simp only [szD]
    omega
theorem frz_roundsT (rs : List (List (Option Rat) × Nat)) : frzL (rs.map (roundT true true)) = rs.map (roundT false false) := by
  rw [frzL_map, List.map_map]
  refine List.map_congr_left fun r _ => ?_
  show T.node false .tup [.node false .lst (frzL (r.1.map (markT true))), .leaf (.int (r.2 : Nat))] = _
  rw [frz_marksT]
  rfl
theorem frz_wayT (p : Bool) (dx : Addr) (w : Lw) : frz (T.node true (.ins C_Lists dx ns_Lists) (wayK true p w)) = T.node false (.ins C_Lists dx ns_Lists) (wayK false false w) := by
  simp only [wayK, pairI, nf_cons, nf_nil, nf_node, nf_leaf, intsT_frz]
theorem rounds_msD {w : Lw} (ok : LdOk w) {vs : List Int} {least : Int} (hvl : vs.length = w.h + 1) (hv : ∀ v ∈ vs, 0 ≤ v ∧ v < 2 ^ 60) : ∀ (n : Nat) (had : List Int), had.length = w.h → (∀ d ∈ had, 0 ≤ d ∧ d + n ≤ 2 ^ 40) → ∀ r ∈ roundsL w vs least n had, MsOk w r.1
  | 0, had, _, _ => fun r hr => by cases hr
  | n + 1, had, hh, hd => by
    cases h : dueL w (marksL w vs least had) with
    | none => rw [rounds_none h]; exact fun r hr => by cases hr
    | some k =>
      rw [rounds_some h]
      intro r hr
      rcases List.mem_cons.mp hr with rfl | hr
      · exact marks_okD ok least ⟨hvl, hh, hv, fun d h => by have := hd d h; omega⟩
      · refine rounds_msD ok hvl hv n (addAt had k 1) (by rw [addAt_len, hh]) (fun d hdm => ?_) r hr
        have hk : k < had.length := by have := due_lt h; omega
        rcases List.mem_or_eq_of_mem_set hdm with hdm | rfl
        · have := hd d hdm
          omega
        · have := hd (had.getD k 0) (by rw [List.getD_eq_getElem?_getD, List.getElem?_eq_getElem hk]; exact List.getElem_mem hk)
          omega
theorem frz_landO (p q : Bool) (w : Lw) (as : List T) : frz (landO p q w as) = landF w (frzL as) := by
  simp only [landO, landF, pairI, alS, nf_cons, nf_nil, nf_node, nf_leaf, intsT_frz]
theorem num_fr {τ : T} {w : Lw} {th tl : T} (h : frz τ = .node false (.dK numKs) [.leaf (.int w.s), th, .leaf (.int w.step), tl]) : frz (T.node false (.dK numKs) [.leaf (.int w.s), th, .leaf (.int w.step), tl]) = .node false (.dK numKs) [.leaf (.int w.s), th, .leaf (.int w.step), tl] := by rw [← h, frz_frz]
theorem up_div {n d : Int} (hd : 0 < d) : (n + d - 1) / d = upQ n d := by
  unfold upQ
  have e := Int.emod_add_mul_ediv n d
  have h0 := Int.emod_nonneg n (show d ≠ 0 by omega)
  have h1 := Int.emod_lt_of_pos n hd
  by_cases c : n % d > 0
  · rw [if_pos c]
    exact ((Int.ediv_emod_unique (a := n + d - 1) (r := n % d - 1) (q := n / d + 1) hd).mpr ⟨by rw [Int.mul_add]; omega, by omega, by omega⟩).1
  · rw [if_neg c, Int.add_zero]
    exact ((Int.ediv_emod_unique (a := n + d - 1) (r := d - 1) (q := n / d) hd).mpr ⟨by omega, by omega, by omega⟩).1
theorem rd__law_need {ts : List T} {Q : T → List T → Prop} {E : Value → List (Str × V) → List T → Prop} (h : sp__law_need ts Q E) : t__law_need (bodyEnds [false, false] Q E) (startE 4 (frzP [false, false] ts)) := by
  obtain ⟨τ, w, n, rfl, ⟨th, tl, hτ, hh, hl⟩, ok, h1, h2, q⟩ := h
  have hfl := num_fr hτ
  have hm : CMulA w.top n := mulA (k := 200) (j := 100) (by have := ok.bot; have := ok.top; omega) (by omega) (by omega)
  show t__law_need _ [some (frz τ), some (.leaf (.int n)), none, none]
  rw [hτ]
  walk_at "go"
  have hb := ok.bot
  have hbl : w.bot.natAbs.log2 < 200 := PySem.Flt.log2_lt_of (k := 200) (by decide) (by omega)
  have hld : CDivW (w.top * n + w.bot - 1) w.bot := ⟨by omega, by omega⟩
  have hmx : (if (w.top * n + w.bot - 1) / w.bot > 1 then (w.top * n + w.bot - 1) / w.bot else 1) = leastI w n := by
    rw [up_div (by omega)]
    unfold leastI
    split <;> omega
  rcases hh with ⟨rfl, e1, e2⟩ | rfl
  · rw [e1] at hm
    rw [e1, e2] at hld hmx
    rw [nf_leaf]
    walk_at "go"
    rw [hmx]
    exact q
  · walk_at "go"
    walk_at "go"
    rw [hmx]
    exact q
theorem rd__law_order {ts : List T} {Q : T → List T → Prop} {E : Value → List (Str × V) → List T → Prop} (h : sp__law_order ts Q E) : t__law_order (bodyEnds [false, false] Q E) (startE 2 (frzP [false, false] ts)) := by
  obtain ⟨τ, w, rfl, ⟨th, tl, hτ, hh, hl⟩, ok, q⟩ := h
  have hfl := num_fr hτ
  show t__law_order _ [some (frz τ), some (.leaf (.int w.h))]
  rw [hτ]
  walk_at "go"
  rcases hl with ⟨rfl, e1⟩ | rfl
  · walk_at "go"
    rw [e1] at q
    refine And.intro (⟨by omega, by omega, by omega, by have := ok.h; omega, by have := ok.h; omega⟩) ?_
    rw [show (rgV 0 (w.h : Int)).map T.leaf = intsT (rangeI w.h) by unfold rgV rangeI; simp [intsT_eq, List.map_map, Function.comp_def]]
    exact q true
  · walk_at "go"
    rw [nf_node, intsT_frz]
    exact q false
def hurMenu : List T := [T.leaf V.non, T.node false Sh.tup [T.leaf (V.int 0), T.leaf (V.int 1)], T.node false Sh.tup [T.leaf (V.int 1), T.leaf (V.int 20)], T.node false Sh.tup [T.leaf (V.int 3), T.leaf (V.int 100)], T.node false Sh.tup [T.leaf (V.int 1), T.leaf (V.int 5)], T.node false Sh.tup [T.leaf (V.int 2), T.leaf (V.int 5)], T.node false Sh.tup [T.leaf (V.int 1), T.leaf (V.int 2)], T.node false Sh.tup [T.leaf (V.int 2), T.leaf (V.int 3)], T.node false Sh.tup [T.leaf (V.int 1), T.leaf (V.int 3)], T.node false Sh.tup [T.leaf (V.int 1), T.leaf (V.int 1)]]
theorem hur_menuN (k : Nat) (h : k < 10) : ∃ t, atI hurMenu (k : Int) = some t ∧ ∃ top bot : Int, ((t = .leaf .non ∧ top = 0 ∧ bot = 1) ∨ t = .node false .tup (pairI top bot)) ∧ 1 ≤ bot ∧ bot ≤ 2 ^ 199 ∧ 0 ≤ top ∧ top ≤ bot ∧ Int.gcd top bot = 1 := by
  match k, h with
  | 0, _ => exact ⟨_, rfl, 0, 1, .inl ⟨rfl, rfl, rfl⟩, by decide +kernel⟩
  | 1, _ => exact ⟨_, rfl, 0, 1, .inr rfl, by decide +kernel⟩
  | 2, _ => exact ⟨_, rfl, 1, 20, .inr rfl, by decide +kernel⟩
  | 3, _ => exact ⟨_, rfl, 3, 100, .inr rfl, by decide +kernel⟩
  | 4, _ => exact ⟨_, rfl, 1, 5, .inr rfl, by decide +kernel⟩
  | 5, _ => exact ⟨_, rfl, 2, 5, .inr rfl, by decide +kernel⟩
  | 6, _ => exact ⟨_, rfl, 1, 2, .inr rfl, by decide +kernel⟩
  | 7, _ => exact ⟨_, rfl, 2, 3, .inr rfl, by decide +kernel⟩
  | 8, _ => exact ⟨_, rfl, 1, 3, .inr rfl, by decide +kernel⟩
  | 9, _ => exact ⟨_, rfl, 1, 1, .inr rfl, by decide +kernel⟩
theorem rd__law_numbers {ts : List T} {Q : T → List T → Prop} {E : Value → List (Str × V) → List T → Prop} (h : sp__law_numbers ts Q E) : t__law_numbers (bodyEnds [true, false, false] Q E) (startE 5 (frzP [true, false, false] ts)) := by
  obtain ⟨bag, h, s, rfl, hb, h1, h2, h3, q⟩ := h
  show t__law_numbers _ [some bag, some (.leaf (.int h)), some (.leaf (.int s)), none, none]
  walk_at "go"
  refine ⟨bag, 10, rfl, hb, by decide, .inl (by decide), fun r bag2 r0 r1 hb2 => ?_⟩
  walk_at "go"
  obtain ⟨k, rfl⟩ : ∃ k : Nat, r = k := ⟨r.toNat, by omega⟩
  obtain ⟨t, ht, top, bot, hth, hb1, hb2', ht1, ht2, hred⟩ := hur_menuN k (by omega)
  refine ⟨t, ht, ?_⟩
  have hft : frz t = t := by rcases hth with ⟨rfl, _⟩ | rfl <;> rfl
  rw [hft]
  walk_at "go"
  refine ⟨bag2, 9, rfl, hb2, by decide, .inl (by decide), fun r3 bag3 r30 r31 hb3 => ?_⟩
  walk_at "go"
  refine ⟨bag3, 4, rfl, hb3, by decide, .inl (by decide), fun r4 bag4 r40 r41 hb4 => ?_⟩
  obtain ⟨k4, rfl⟩ : ∃ k : Nat, r4 = k := ⟨r4.toNat, by omega⟩
  walk_at "go"
  obtain ⟨st, hst, hs1, hs9⟩ : ∃ st : Int, atI [T.leaf (V.int 1), T.leaf (V.int 2), T.leaf (V.int (1 + r3)), T.leaf (V.int 9)] (k4 : Int) = some (.leaf (.int st)) ∧ 1 ≤ st ∧ st ≤ 9 := by
    match k4, r41 with
    | 0, _ => exact ⟨1, rfl, by decide, by decide⟩
    | 1, _ => exact ⟨2, rfl, by decide, by decide⟩
    | 2, _ => exact ⟨1 + r3, rfl, by omega, by omega⟩
    | 3, _ => exact ⟨9, rfl, by decide, by decide⟩
    | n + 4, h => omega
  refine ⟨_, hst, ?_⟩
  walk_at "go"
  refine ⟨by decide, rfl, by decide, ?_⟩
  rw [show putT Sh.dK [Sum.inr (Str.ofString "seats"), Sum.inr (Str.ofString "hurdle")] [T.leaf (V.int s), t] (Sum.inr (Str.ofString "step")) (frz (T.leaf (V.int st))) = .node true (.dK [.inr "seats", .inr "hurdle", .inr "step"]) [T.leaf (V.int s), t, T.leaf (V.int st)] from rfl]
  walk_at "go"
  refine ⟨bag4, 3, rfl, hb4, by decide, .inl (by decide), fun r5 bag5 r50 r51 hb5 => ?_⟩
  walk_at "go"
  rw [show (if false = true then !decide (r5 = 0) else decide (r5 = 0)) = decide (r5 = 0) from rfl]
  by_cases c : r5 = 0
  · rw [decide_eq_true c]
    walk_at "go"
    refine ⟨by decide, rfl, by decide, ?_⟩
    rw [show putT Sh.dK [Sum.inr (Str.ofString "seats"), Sum.inr (Str.ofString "hurdle"), Sum.inr (Str.ofString "step")] [T.leaf (V.int s), t, T.leaf (V.int st)] (Sum.inr (Str.ofString "lots")) (T.leaf V.non) = .node true (.dK numKs) [T.leaf (V.int s), t, T.leaf (V.int st), T.leaf V.non] from rfl]
    walk_at "go"
    have hbn : bot.natAbs < 2 ^ 200 := by omega
    refine q ⟨h, s, rangeI h, top, bot, st⟩ _ bag5 rfl rfl ⟨⟨h1, h2⟩, h3, List.Perm.refl _, ⟨hb1, hb2'⟩, ⟨ht1, ht2⟩, hred, hs1, hs9⟩ ⟨t, .leaf .non, ?_, ?_, .inl ⟨rfl, rfl⟩⟩ hb5
    · simp only [nf_node, nf_cons, nf_nil, nf_leaf, hft]
    · rcases hth with ⟨h, e1, e2⟩ | h
      · exact .inl ⟨h, e1, e2⟩
      · exact .inr h
  · rw [decide_eq_false c]
    walk_at "go"
    rw [rg_ints]
    refine ⟨bag5, true, _, rfl, hb5, by rw [ints_len]; simp [rangeI]; omega, fun its' bag6 hp hb6 => ?_⟩
    rw [intsT_frz] at hp
    obtain ⟨lots, rfl, hpl⟩ := perm_ints hp
    walk_at "go"
    refine ⟨by decide, rfl, by decide, ?_⟩
    rw [show putT Sh.dK [Sum.inr (Str.ofString "seats"), Sum.inr (Str.ofString "hurdle"), Sum.inr (Str.ofString "step")] [T.leaf (V.int s), t, T.leaf (V.int st)] (Sum.inr (Str.ofString "lots")) (T.node true .lst (intsT lots)) = .node true (.dK numKs) [T.leaf (V.int s), t, T.leaf (V.int st), T.node true .lst (intsT lots)] from rfl]
    walk_at "go"
    refine q ⟨h, s, lots, top, bot, st⟩ _ bag6 rfl rfl ⟨⟨h1, h2⟩, h3, hpl, ⟨hb1, hb2'⟩, ⟨ht1, ht2⟩, hred, hs1, hs9⟩ ⟨t, .node false .lst (intsT lots), ?_, ?_, .inr rfl⟩ hb6
    · simp only [nf_node, nf_cons, nf_nil, nf_leaf, hft, intsT_frz]
    · rcases hth with ⟨h, e1, e2⟩ | h
      · exact .inl ⟨h, e1, e2⟩
      · exact .inr h
def mkQ (w : Lw) (vs had : List Int) (x : Nat) : Rat := Rat.divInt (vs.getD x 0) (1 + w.step * had.getD x 0)
theorem marks_at {w : Lw} {vs had : List Int} {least : Int} {k : Nat} (hk : k < w.h) : (marksL w vs least had)[k]? = some (if vs.getD k 0 < least then none else some (mkQ w vs had k)) := by
  unfold marksL mkQ
  rw [List.getElem?_map, List.getElem?_range hk]
  rfl
theorem first_snoc (w : Lw) {L : List Hd} (h : L ≠ []) (x : Hd) : firstH w (L ++ [x]) = if goH w x (firstH w L) = true then x else firstH w L := by
  cases L with
  | nil => exact absurd rfl h
  | cons y r =>
    show (r ++ [x]).foldl _ y = _
    rw [List.foldl_append]
    rfl
def inH (vs : List Int) (least : Int) (n : Nat) : List Nat := (List.range n).filter fun k => decide (least ≤ vs.getD k 0)
theorem inH_succ (vs : List Int) (least : Int) (n : Nat) : inH vs least (n + 1) = inH vs least n ++ if least ≤ vs.getD n 0 then [n] else [] := by
  unfold inH
  rw [List.range_succ, List.filter_append]
  by_cases c : least ≤ vs.getD n 0
  · rw [if_pos c, List.filter_cons_of_pos (by simpa using c)]
    rfl
  · rw [if_neg c, List.filter_cons_of_neg (by simpa using c)]
    rfl
theorem inH_mem {vs : List Int} {least : Int} {n k : Nat} : k ∈ inH vs least n ↔ k < n ∧ least ≤ vs.getD k 0 := by
  unfold inH
  rw [List.mem_filter, List.mem_range, decide_eq_true_iff]
def hdA (w : Lw) (vs now : List Int) (k : Nat) : Hd := (mkQ w vs now k, k)
theorem first_due {w : Lw} {vs now : List Int} {least : Int} : ∀ n, n ≤ w.h → (inH vs least n = [] → (List.range n).foldl (dueStep w (marksL w vs least now)) none = none) ∧
    (inH vs least n ≠ [] → ∃ b, (List.range n).foldl (dueStep w (marksL w vs least now)) none = some b ∧ firstH w ((inH vs least n).map (hdA w vs now)) = hdA w vs now b ∧ b < n ∧ least ≤ vs.getD b 0)
  | 0, _ => ⟨fun _ => rfl, fun h => absurd rfl h⟩
  | n + 1, h => by
    obtain ⟨i1, i2⟩ := first_due (w := w) (vs := vs) (now := now) (least := least) n (by omega)
    have hg := marks_get (vs := vs) (had := now) (least := least) (show n < w.h by omega)
    rw [List.range_succ, List.foldl_append, inH_succ]
    generalize (List.range n).foldl (dueStep w (marksL w vs least now)) none = B at i1 i2 ⊢
    show (_ → dueStep w _ B n = _) ∧ (_ → ∃ b, dueStep w _ B n = _ ∧ _)
    unfold dueStep
    rw [hg]
    by_cases c : vs.getD n 0 < least
    · rw [if_pos c, if_neg (show ¬ least ≤ vs.getD n 0 by omega), List.append_nil]
      refine ⟨i1, fun z => ?_⟩
      obtain ⟨b, h1, h2, h3, h4⟩ := i2 z
      exact ⟨b, h1, h2, by omega, h4⟩
    · rw [if_neg c, if_pos (show least ≤ vs.getD n 0 by omega)]
      refine ⟨fun z => absurd z (by simp), fun _ => ?_⟩
      by_cases e : inH vs least n = []
      · rw [i1 e, e]
        exact ⟨n, rfl, rfl, by omega, by omega⟩
      · obtain ⟨b, h1, h2, h3, h4⟩ := i2 e
        rw [h1, List.map_append, List.map_singleton, first_snoc w (by simpa using e), h2]
        have hb : ((marksL w vs least now).getD b none).getD 0 = mkQ w vs now b := by
          rw [marks_get (show b < w.h by omega), if_neg (by omega)]
          rfl
        show ∃ b', (if goesB w (mkQ w vs now n) (((marksL w vs least now).getD b none).getD 0) n b = true then some n else some b) = some b' ∧ _
        rw [hb]
        show ∃ b', (if goH w (hdA w vs now n) (hdA w vs now b) = true then some n else some b) = some b' ∧ _
        by_cases g : goH w (hdA w vs now n) (hdA w vs now b) = true
        · rw [if_pos g, if_pos g]
          exact ⟨n, rfl, rfl, by omega, by omega⟩
        · rw [if_neg g, if_neg g]
          exact ⟨b, rfl, rfl, by omega, h4⟩
theorem first_is {w : Lw} {vs now : List Int} {least : Int} (h : inH vs least w.h ≠ []) : ∃ b, dueL w (marksL w vs least now) = some b ∧ firstH w ((inH vs least w.h).map (hdA w vs now)) = hdA w vs now b ∧ b < w.h ∧ least ≤ vs.getD b 0 := (first_due w.h (Nat.le_refl _)).2 h
theorem due_in {w : Lw} {vs now : List Int} {least : Int} (h : inH vs least w.h = []) : dueL w (marksL w vs least now) = none := (first_due w.h (Nat.le_refl _)).1 h
def itemR (r : List (Option Rat) × Nat) : Hd := ((r.1.getD r.2 none).getD 0, r.2)
theorem item_due {w : Lw} {vs now : List Int} {least : Int} {b : Nat} (h1 : b < w.h) (h2 : least ≤ vs.getD b 0) : itemR (marksL w vs least now, b) = hdA w vs now b := by
  show (((marksL w vs least now).getD b none).getD 0, b) = _
  rw [marks_get h1, if_neg (by omega)]
  rfl
def btQ (w : Lw) (j : Int) : Int := 1 + w.step * j
def itQ (w : Lw) (vs : List Int) (W : Int) (h : Nat) (j : Int) : List Int := [0 - vs.getD h 0 * (W / btQ w j), (w.lots.idxOf (h : Int) : Nat), (h : Nat), btQ w j]
def hdQ (vs : List Int) : List Int → Hd
  | [_, _, h, b] => (Rat.divInt (vs.getD h.toNat 0) b, h.toNat)
  | _ => (0, 0)
theorem cmpW {v b v' b' W : Int} (hb : 0 < b) (hb' : 0 < b') (hW : 0 < W) (d : b ∣ W) (d' : b' ∣ W) : v' * (W / b') < v * (W / b) ↔ v' * b < v * b' := by
  obtain ⟨p, rfl⟩ := d
  have e1 : b * p / b = p := Int.mul_ediv_cancel_left p (by omega)
  rw [e1]
  obtain ⟨q, hq⟩ := d'
  have e2 : b * p / b' = q := by rw [hq]; exact Int.mul_ediv_cancel_left q (by omega)
  rw [e2]
  have hp : 0 < p := by
    rcases Int.lt_trichotomy 0 p with h | h | h
    · exact h
    · rw [← h] at hW; simp at hW
    · have := Int.mul_neg_of_pos_of_neg hb h; omega
  have hqp : 0 < q := by
    rcases Int.lt_trichotomy 0 q with h | h | h
    · exact h
    · rw [hq, ← h] at hW; simp at hW
    · have := Int.mul_neg_of_pos_of_neg hb' h; omega
  have k1 : v' * q * (b * b') = v' * b * (b * p) := by rw [hq]; simp only [Int.mul_assoc, Int.mul_comm, Int.mul_left_comm]
  have k2 : v * p * (b * b') = v * b' * (b * p) := by simp only [Int.mul_assoc, Int.mul_comm, Int.mul_left_comm]
  have hbb : 0 < b * b' := Int.mul_pos hb hb'
  constructor
  · intro h
    have := Int.mul_lt_mul_of_pos_right h hbb
    rw [k1, k2] at this
    exact Int.lt_of_mul_lt_mul_right this (by omega)
  · intro h
    have := Int.mul_lt_mul_of_pos_right h hW
    rw [← k1, ← k2] at this
    exact Int.lt_of_mul_lt_mul_right this (by omega)
theorem bt_pos {w : Lw} (ok : LdOk w) {j : Int} (h : 0 ≤ j) : 0 < btQ w j := by
  have := Int.mul_nonneg (show 0 ≤ w.step by have := ok.step; omega) h
  unfold btQ
  omega
theorem bt_lt {w : Lw} (ok : LdOk w) {i j : Int} (h : i < j) : btQ w i < btQ w j := by
  have := Int.mul_lt_mul_of_pos_left h (show 0 < w.step by have := ok.step; omega)
  unfold btQ
  omega
def kyQ (w : Lw) (vs : List Int) (h : Nat) (j : Int) : Rat := Rat.divInt (vs.getD h 0) (btQ w j)
theorem ky_lt {w : Lw} (ok : LdOk w) {vs : List Int} {W : Int} (hW : 0 < W) {h h' : Nat} {j j' : Int} (hj : 0 ≤ j) (hj' : 0 ≤ j') (d : btQ w j ∣ W) (d' : btQ w j' ∣ W) :
    0 - vs.getD h 0 * (W / btQ w j) < 0 - vs.getD h' 0 * (W / btQ w j') ↔ kyQ w vs h' j' < kyQ w vs h j := by
  unfold kyQ
  rw [lt_qI (bt_pos ok hj') (bt_pos ok hj)]
  have := cmpW (v := vs.getD h 0) (v' := vs.getD h' 0) (bt_pos ok hj) (bt_pos ok hj') hW d d'
  omega
theorem ky_mono {w : Lw} (ok : LdOk w) {vs : List Int} {h : Nat} {i j : Int} (hv : 1 ≤ vs.getD h 0) (hi : 0 ≤ i) (hij : i < j) : kyQ w vs h j < kyQ w vs h i := by
  unfold kyQ
  rw [lt_qI (bt_pos ok (by omega)) (bt_pos ok hi)]
  exact Int.mul_lt_mul_of_pos_left (bt_lt ok hij) (by omega)
theorem it_le {w : Lw} (ok : LdOk w) {vs : List Int} {W : Int} (hW : 0 < W) {h h' : Nat} {j j' : Int} (hj : 0 ≤ j) (hj' : 0 ≤ j') (d : btQ w j ∣ W) (d' : btQ w j' ∣ W)
    (H : kyQ w vs h' j' < kyQ w vs h j ∨ (kyQ w vs h' j' = kyQ w vs h j ∧ aheadB w h h' = true) ∨ (h = h' ∧ j = j')) : leL (itQ w vs W h j) (itQ w vs W h' j') = true := by
  refine decide_eq_true ?_
  unfold itQ
  rcases H with H | ⟨H, H2⟩ | ⟨rfl, rfl⟩
  · exact List.cons_le_cons_iff.mpr (.inl ((ky_lt ok hW hj hj' d d').mpr H))
  · have e : 0 - vs.getD h 0 * (W / btQ w j) = 0 - vs.getD h' 0 * (W / btQ w j') := by
      have a1 := mt (ky_lt (h := h) (h' := h') (vs := vs) ok hW hj hj' d d').mp (by rw [H]; exact Rat.lt_irrefl)
      have a2 := mt (ky_lt (h := h') (h' := h) (vs := vs) ok hW hj' hj d' d).mp (by rw [H]; exact Rat.lt_irrefl)
      omega
    refine List.cons_le_cons_iff.mpr (.inr ⟨e, List.cons_le_cons_iff.mpr (.inl ?_)⟩)
    have := of_decide_eq_true H2
    unfold idxI at this
    omega
  · exact List.le_refl _
theorem it_inj {w : Lw} (ok : LdOk w) {vs : List Int} {W : Int} {h h' : Nat} {j j' : Int} (e : itQ w vs W h j = itQ w vs W h' j') : h = h' ∧ j = j' := by
  unfold itQ at e
  injection e with _ e
  injection e with _ e
  injection e with e1 e
  injection e with e2 _
  refine ⟨by omega, ?_⟩
  rcases Int.lt_trichotomy j j' with h | h | h
  · have := bt_lt ok h; omega
  · exact h
  · have := bt_lt ok h; omega
theorem getD_addAt {v : List Int} {b k : Nat} (hb : b < v.length) (d : Int) : (addAt v b d).getD k 0 = if k = b then v.getD b 0 + d else v.getD k 0 := by
  unfold addAt
  rw [List.getD_eq_getElem?_getD, List.getElem?_set]
  by_cases c : b = k
  · subst c
    rw [if_pos rfl, if_pos hb, if_pos rfl]
    rfl
  · rw [if_neg c, if_neg (fun z => c z.symm), ← List.getD_eq_getElem?_getD]
theorem due_top {w : Lw} (ok : LdOk w) {vs now : List Int} {least : Int} {b : Nat} (h : dueL w (marksL w vs least now) = some b) {k : Nat} (hk : k < w.h) (hv : least ≤ vs.getD k 0) : k = b ∨ mkQ w vs now k < mkQ w vs now b ∨ (mkQ w vs now k = mkQ w vs now b ∧ aheadB w b k = true) := by
  have hb := due_lt h
  by_cases e : k = b
  · exact .inl e
  refine .inr ?_
  obtain ⟨q, hq⟩ := due_some ok.lw (n := b) (ms := marksL w vs least now) h
  have hq2 : (marksL w vs least now)[b]? = some (some (mkQ w vs now b)) := by
    rw [marks_at hb]
    rw [marks_get hb] at hq
    split at hq
    · cases hq
    · rename_i c; rw [if_neg c]
  have hk2 : (marksL w vs least now)[k]? = some (some (mkQ w vs now k)) := by rw [marks_at hk, if_neg (by omega)]
  by_cases g : goesB w (mkQ w vs now k) (mkQ w vs now b) k b = true
  · exact absurd h (due_not ok.lw hq2 hk e hk2 g)
  · unfold goesB at g
    rw [Bool.or_eq_true, not_or, Bool.and_eq_true, not_and] at g
    obtain ⟨g1, g2⟩ := g
    have g1 : ¬ mkQ w vs now b < mkQ w vs now k := by simpa using g1
    by_cases eq : mkQ w vs now b = mkQ w vs now k
    · refine .inr ⟨eq.symm, ?_⟩
      have g2 := g2 (decide_eq_true eq)
      have hkl := in_lotsD ok hk
      have hbl := in_lotsD ok hb
      have hne : w.lots.idxOf (b : Int) ≠ w.lots.idxOf (k : Int) := fun z => by
        have a1 := (idx_ok hkl).1
        have a2 := (idx_ok hbl).1
        rw [z, a1] at a2
        have := Option.some.inj a2
        omega
      unfold aheadB idxI at g2 ⊢
      have := of_decide_eq_false (Bool.eq_false_iff.mpr g2)
      exact decide_eq_true (by omega)
    · exact .inl (by grind)
theorem greedy {w : Lw} (ok : LdOk w) {vs : List Int} {least W : Int} (hl1 : 1 ≤ least) (hW : 0 < W) (top lo : Nat → Int) : ∀ (n : Nat) (now : List Int) (S : List (List Int)), now.length = w.h → (∀ d ∈ now, 0 ≤ d) → S.Pairwise (fun a b => leL a b = true) → S.Nodup →
    (∀ x, x ∈ S ↔ ∃ (h : Nat) (j : Int), h < w.h ∧ least ≤ vs.getD h 0 ∧ now.getD h 0 ≤ j ∧ j < top h ∧ x = itQ w vs W h j) → (∀ h, h < w.h → least ≤ vs.getD h 0 → now.getD h 0 + n ≤ top h) →
    (∀ (h : Nat) (j : Int), h < w.h → least ≤ vs.getD h 0 → lo h ≤ j → j < top h → btQ w j ∣ W) → (∀ h, h < w.h → lo h ≤ now.getD h 0) → (S.map (hdQ vs)).take n = (roundsL w vs least n now).map itemR
  | 0, _, _, _, _, _, _, _, _, _, _ => rfl
  | n + 1, now, S, hlen, hnn, hp, hnd, hmem, htop, hdv, hlo => by
    have nn : ∀ h, h < w.h → 0 ≤ now.getD h 0 := fun h hh => hnn _ (by rw [List.getD_eq_getElem?_getD, List.getElem?_eq_getElem (by omega)]; exact List.getElem_mem (by omega))
    cases hdue : dueL w (marksL w vs least now) with
    | none =>
      rw [rounds_none hdue]
      cases S with
      | nil => rfl
      | cons x S =>
        obtain ⟨h, j, h1, h2, _⟩ := (hmem x).mp List.mem_cons_self
        have := due_noneD ok hdue h h1
        omega
    | some b =>
      have hb := due_lt hdue
      have hbl : least ≤ vs.getD b 0 := by
        obtain ⟨q, hq⟩ := due_some ok.lw (n := b) (ms := marksL w vs least now) hdue
        rw [marks_get hb] at hq
        split at hq
        · cases hq
        · omega
      have htb := htop b hb hbl
      have hx0 : itQ w vs W b (now.getD b 0) ∈ S := (hmem _).mpr ⟨b, now.getD b 0, hb, hbl, Int.le_refl _, by omega, rfl⟩
      have hmin : ∀ y ∈ S, leL (itQ w vs W b (now.getD b 0)) y = true := fun y hy => by
        obtain ⟨h, j, h1, h2, h3, h4, rfl⟩ := (hmem y).mp hy
        have hn0 := nn h h1
        refine it_le ok hW (nn b hb) (by omega) (hdv b _ hb hbl (hlo b hb) (by omega)) (hdv h j h1 h2 (by have := hlo h h1; omega) h4) ?_
        by_cases e : h = b
        · subst e
          by_cases e2 : j = now.getD h 0
          · exact .inr (.inr ⟨rfl, e2.symm⟩)
          · exact .inl (ky_mono ok (by omega) hn0 (by omega))
        · have key := due_top ok hdue h1 h2
          have k1 : mkQ w vs now h = kyQ w vs h (now.getD h 0) := rfl
          have k2 : mkQ w vs now b = kyQ w vs b (now.getD b 0) := rfl
          rw [k1, k2] at key
          by_cases e2 : j = now.getD h 0
          · subst e2
            rcases key with key | key | key
            · exact absurd key e
            · exact .inl key
            · exact .inr (.inl key)
          · have := ky_mono (w := w) (vs := vs) (h := h) ok (by omega) hn0 (show now.getD h 0 < j by omega)
            rcases key with key | key | key
            · exact absurd key e
            · exact .inl (by grind)
            · exact .inl (by grind)
      cases S with
      | nil => cases hx0
      | cons s S =>
        have hs : s = itQ w vs W b (now.getD b 0) := by
          rcases List.mem_cons.mp hx0 with e | e
          · exact e.symm
          · have a1 := of_decide_eq_true (List.rel_of_pairwise_cons hp e)
            have a2 := of_decide_eq_true (hmin s List.mem_cons_self)
            exact List.le_antisymm a1 a2
        have hnd2 := List.nodup_cons.mp hnd
        rw [rounds_some hdue, List.map_cons, List.map_cons, List.take_succ_cons, item_due hb hbl]
        have hbn : b < now.length := by omega
        have gd : ∀ k, (addAt now b 1).getD k 0 = if k = b then now.getD b 0 + 1 else now.getD k 0 := fun k => getD_addAt hbn 1
        rw [greedy ok hl1 hW top lo n (addAt now b 1) S (by rw [addAt_len, hlen]) (fun d hd => ?_) (List.Pairwise.of_cons hp) hnd2.2 (fun x => ?_) (fun h h1 h2 => ?_) hdv (fun h h1 => ?_)]
        · rw [hs]
          rfl
        · rcases List.mem_or_eq_of_mem_set hd with hd | rfl
          · exact hnn d hd
          · have := nn b hb
            omega
        · constructor
          · intro hx
            obtain ⟨h, j, h1, h2, h3, h4, rfl⟩ := (hmem x).mp (List.mem_cons_of_mem _ hx)
            refine ⟨h, j, h1, h2, ?_, h4, rfl⟩
            rw [gd]
            split
            · rename_i e
              subst e
              have : j ≠ now.getD h 0 := fun z => hnd2.1 (by rw [hs, ← z]; exact hx)
              omega
            · exact h3
          · rintro ⟨h, j, h1, h2, h3, h4, rfl⟩
            rw [gd] at h3
            have hx : itQ w vs W h j ∈ s :: S := (hmem _).mpr ⟨h, j, h1, h2, by split at h3 <;> (try (rename_i e; subst e)) <;> omega, h4, rfl⟩
            rcases List.mem_cons.mp hx with e | e
            · rw [hs] at e
              obtain ⟨rfl, e2⟩ := it_inj ok e
              rw [if_pos rfl] at h3
              omega
            · exact e
        · rw [gd]
          have := htop h h1 h2
          split
          · rename_i e
            subst e
            omega
          · omega
        · rw [gd]
          have := hlo h h1
          split
          · rename_i e
            subst e
            omega
          · exact this
def rowsN (vs had : List Int) (least : Int) (n i : Nat) : List (Nat × Int) := (List.range i).flatMap fun h => (List.range (if least ≤ vs.getD h 0 then n else 0)).map fun k => (h, had.getD h 0 + (k : Nat))
theorem rows_mem {vs had : List Int} {least : Int} {n i h : Nat} {j : Int} : (h, j) ∈ rowsN vs had least n i ↔ h < i ∧ least ≤ vs.getD h 0 ∧ had.getD h 0 ≤ j ∧ j < had.getD h 0 + n := by
  unfold rowsN
  rw [List.mem_flatMap]
  constructor
  · rintro ⟨a, ha, hm⟩
    obtain ⟨k, hk, e⟩ := List.mem_map.mp hm
    cases e
    have ha := List.mem_range.mp ha
    have hk := List.mem_range.mp hk
    split at hk
    · exact ⟨ha, by assumption, by omega, by omega⟩
    · omega
  · rintro ⟨h1, h2, h3, h4⟩
    refine ⟨h, List.mem_range.mpr h1, List.mem_map.mpr ⟨(j - had.getD h 0).toNat, List.mem_range.mpr ?_, ?_⟩⟩
    · rw [if_pos h2]
      omega
    · rw [Int.toNat_of_nonneg (by omega)]
      congr 1
      omega
theorem rows_nodup (vs had : List Int) (least : Int) (n i : Nat) : (rowsN vs had least n i).Nodup := by
  unfold rowsN
  refine List.pairwise_flatMap.mpr ⟨fun a _ => List.Pairwise.map _ (fun x y hxy e => ?_) List.nodup_range, (List.nodup_range).imp fun {a b} hab x hx y hy e => ?_⟩
  · injection e with _ e
    omega
  · obtain ⟨_, _, rfl⟩ := List.mem_map.mp hx
    obtain ⟨_, _, rfl⟩ := List.mem_map.mp hy
    injection e with e _
    exact hab e
theorem rows_len (vs had : List Int) (least : Int) (n : Nat) : ∀ i, (rowsN vs had least n i).length ≤ i * n
  | 0 => by simp [rowsN]
  | i + 1 => by
    have ih := rows_len vs had least n i
    unfold rowsN at ih ⊢
    rw [List.range_succ, List.flatMap_append, List.length_append, Nat.add_mul]
    have : ([i].flatMap fun h => (List.range (if least ≤ vs.getD h 0 then n else 0)).map fun k => (h, had.getD h 0 + ((k : Nat) : Int))).length ≤ n := by
      simp only [List.flatMap_cons, List.flatMap_nil, List.append_nil, List.length_map, List.length_range]
      split <;> omega
    omega
theorem leL_trans (a b c : List Int) (h1 : leL a b = true) (h2 : leL b c = true) : leL a c = true := decide_eq_true (List.le_trans (of_decide_eq_true h1) (of_decide_eq_true h2))
theorem leL_total (a b : List Int) : (leL a b || leL b a) = true := by
  rcases List.le_total a b with h | h
  · rw [show leL a b = true from decide_eq_true h]; rfl
  · rw [show leL b a = true from decide_eq_true h, Bool.or_true]
theorem due_rows {w : Lw} (ok : LdOk w) {vs had : List Int} {n : Nat} {W : Int} (hW : 0 < W) (hs : 0 ≤ vs.sum) (hlen : had.length = w.h) (hnn : ∀ d ∈ had, 0 ≤ d) (dv : ∀ r ∈ rowsN vs had (leastI w vs.sum) n w.h, btQ w r.2 ∣ W) :
    ((((rowsN vs had (leastI w vs.sum) n w.h).map fun r => itQ w vs W r.1 r.2).mergeSort leL).map (hdQ vs)).take n = waitL w vs had n := by
  have hl1 : 1 ≤ leastI w vs.sum := (least_bd ok.lw (n := vs.sum) hs).1
  have pm := List.mergeSort_perm ((rowsN vs had (leastI w vs.sum) n w.h).map fun r => itQ w vs W r.1 r.2) leL
  refine greedy ok hl1 hW (fun h => had.getD h 0 + n) (fun h => had.getD h 0) n had _ hlen hnn (List.pairwise_mergeSort leL_trans leL_total _) (pm.nodup_iff.mpr (List.Pairwise.map _ (fun a b hab e => ?_) (rows_nodup vs had _ n w.h))) (fun x => ?_) (fun h h1 h2 => Int.le_refl _) (fun h j h1 h2 h3 h4 => dv (h, j) (rows_mem.mpr ⟨h1, h2, h3, h4⟩)) (fun h _ => Int.le_refl _)
  · obtain ⟨e1, e2⟩ := it_inj ok e
    exact hab (Prod.ext e1 e2)
  · rw [pm.mem_iff, List.mem_map]
    constructor
    · rintro ⟨⟨h, j⟩, hm, rfl⟩
      obtain ⟨h1, h2, h3, h4⟩ := rows_mem.mp hm
      exact ⟨h, j, h1, h2, h3, h4, rfl⟩
    · rintro ⟨h, j, h1, h2, h3, h4, rfl⟩
      exact ⟨(h, j), rows_mem.mpr ⟨h1, h2, h3, h4⟩, rfl⟩
theorem eqv_q (x y : Rat) : PyData.eqv (.tuple [.int x.num, .int x.den]) (.tuple [.int y.num, .int y.den]) = decide (x = y) := by
  refine (eqv_tupD (a := [x.num, (x.den : Int)]) (b := [y.num, (y.den : Int)])).trans ?_
  refine decide_eq_decide.mpr ⟨fun z => ?_, fun z => by rw [z]⟩
  injection z with a z
  injection z with b _
  exact Rat.ext a (by omega)
theorem frz_hdF (x : Hd) : frz (hdF x) = hdF x := rfl
theorem frz_hds (L : List Hd) : frzL (L.map hdF) = L.map hdF := by
  rw [frzL_map, List.map_map]
  exact List.map_congr_left fun x _ => rfl
theorem frz_hdM (L : List Hd) : frzL (L.map hdM) = L.map hdF := by
  rw [frzL_map, List.map_map]
  exact List.map_congr_left fun x _ => rfl
theorem frz_hdT (L : List Hd) : frzL (L.map hdT) = L.map hdF := by
  rw [frzL_map, List.map_map]
  exact List.map_congr_left fun x _ => rfl
def rwL (w : Lw) (vs had : List Int) (n k g : Nat) : List Hd := ((List.range n).drop g).map fun i => (kyQ w vs k (had.getD k 0 + (i : Nat)), k)
def rksL (vs : List Int) (least : Int) (i : Nat) : List Key := (inH vs least i).map fun k : Nat => (Sum.inl (k : Int) : Key)
def rowsT (w : Lw) (vs had : List Int) (least : Int) (n i : Nat) (g : Nat → Nat) : T := .node true (.dK (rksL vs least i)) ((inH vs least i).map fun k => .node false .lst ((rwL w vs had n k (g k)).map hdF))
theorem ixK_in : ∀ {L : List Nat} {k j : Nat}, L.Nodup → L[j]? = some k → ixK (L.map fun k : Nat => (Sum.inl (k : Int) : Key)) (.inl (k : Int)) = some j
  | [], _, _, _, e => by cases e
  | x :: L, k, j, hn, e => by
    have hn := List.nodup_cons.mp hn
    show (if (Sum.inl (x : Int) : Key) = .inl (k : Int) then some 0 else _) = _
    cases j with
    | zero =>
      cases e
      rw [if_pos rfl]
    | succ j =>
      have e : L[j]? = some k := e
      rw [if_neg (fun z => hn.1 (by
        injection z with z
        have : x = k := by omega
        rw [this]
        exact List.mem_of_getElem? e))]
      rw [ixK_in hn.2 e]
      rfl
theorem ixK_no : ∀ {L : List Nat} {k : Nat}, k ∉ L → ixK (L.map fun k : Nat => (Sum.inl (k : Int) : Key)) (.inl (k : Int)) = none
  | [], _, _ => rfl
  | x :: L, k, h => by
    show (if (Sum.inl (x : Int) : Key) = .inl (k : Int) then some 0 else _) = _
    rw [if_neg (fun z => h (by
      injection z with z
      have : x = k := by omega
      rw [this]
      exact List.mem_cons_self))]
    rw [ixK_no (fun z => h (List.mem_cons_of_mem _ z))]
    rfl
theorem inH_nodup (vs : List Int) (least : Int) (n : Nat) : (inH vs least n).Nodup := List.nodup_range.filter _
theorem rks_nodup (vs : List Int) (least : Int) (n : Nat) : (rksL vs least n).Nodup := List.Pairwise.map _ (fun a b (h : a ≠ b) z => h (by injection z with z; omega)) (inH_nodup vs least n)
theorem inH_len (vs : List Int) (least : Int) (n : Nat) : (inH vs least n).length ≤ n := by
  have := List.length_filter_le (fun k => decide (least ≤ vs.getD k 0)) (List.range n)
  rw [List.length_range] at this
  exact this
theorem rwL_0 (w : Lw) (vs had : List Int) (n k : Nat) : (rwL w vs had n k 0).map hdF = frzL ((List.range n).map fun i : Nat => hdT (kyQ w vs k (had.getD k 0 + i), k)) := by
  unfold rwL
  rw [frzL_map, List.drop_zero, List.map_map, List.map_map]
  rfl
theorem rows_put {w : Lw} {vs had : List Int} {least : Int} {n z : Nat} (c : least ≤ vs.getD z 0) : putT Sh.dK (rksL vs least z) ((inH vs least z).map fun k => T.node false Sh.lst ((rwL w vs had n k ((fun _ => 0) k)).map hdF)) (Sum.inl (z : Int)) (.node false .lst ((rwL w vs had n z 0).map hdF)) = rowsT w vs had least n (z + 1) fun _ => 0 := by
  unfold putT rksL
  rw [ixK_no (fun h => Nat.lt_irrefl z (inH_mem.mp h).1)]
  unfold rowsT rksL
  rw [inH_succ, if_pos c, List.map_append, List.map_append]
  rfl
theorem rks_nil {vs : List Int} {least : Int} {n : Nat} (h : rksL vs least n = []) : inH vs least n = [] := List.map_eq_nil_iff.mp h
theorem first_take (w : Lw) (x : Hd) (L : List Hd) (i : Nat) (o : Hd) (h : L[i]? = some o) : firstH w (x :: L.take (i + 1)) = if goH w o (firstH w (x :: L.take i)) = true then o else firstH w (x :: L.take i) := by
  rw [List.take_add_one, h]
  exact first_snoc w (L := x :: L.take i) (by simp) o
theorem pure_intsL (ns : List Int) : pureL (intsT ns) = true := by
  induction ns with
  | nil => rfl
  | cons n ns ih => show (true && pureL (intsT ns)) = true; rw [ih]; rfl
theorem pure_hdM (L : List Hd) : pureT (.node true .lst (L.map hdM)) = true := by
  show (true && pureL (L.map hdM)) = true
  rw [Bool.true_and]
  induction L with
  | nil => rfl
  | cons x L ih => show (true && pureL (L.map hdM)) = true; rw [ih]; rfl
theorem prod_bd : ∀ (l : List Int) (W : Int) (k : Nat), 0 < W → W < 2 ^ k → (∀ x ∈ l, 0 < x ∧ x < 2 ^ 10) → 0 < l.foldl (· * ·) W ∧ l.foldl (· * ·) W < 2 ^ (k + 10 * l.length)
  | [], W, k, h1, h2, _ => ⟨h1, h2⟩
  | x :: l, W, k, h1, h2, h => by
    have hx := h x List.mem_cons_self
    have h3 : W * x < 2 ^ (k + 10) := by
      rw [Int.pow_add]
      exact Int.mul_lt_mul h2 (Int.le_of_lt hx.2) hx.1 (by exact Int.le_of_lt (Int.lt_trans h1 h2))
    have := prod_bd l (W * x) (k + 10) (Int.mul_pos h1 hx.1) h3 fun y hy => h y (List.mem_cons_of_mem _ hy)
    rw [show k + 10 * (x :: l).length = k + 10 + 10 * l.length by rw [List.length_cons]; omega]
    exact this
theorem prod_dvd : ∀ (l : List Int) (W : Int), W ∣ l.foldl (· * ·) W ∧ ∀ x ∈ l, x ∣ l.foldl (· * ·) W
  | [], W => ⟨Int.dvd_refl W, fun x h => by cases h⟩
  | y :: l, W => by
    obtain ⟨h1, h2⟩ := prod_dvd l (W * y)
    refine ⟨Int.dvd_trans (Int.dvd_mul_right W y) h1, fun x hx => ?_⟩
    rcases List.mem_cons.mp hx with rfl | hx
    · exact Int.dvd_trans (Int.dvd_mul_left W x) h1
    · exact h2 x hx
theorem rw_head {w : Lw} {vs had now : List Int} {n k : Nat} (h : had.getD k 0 ≤ now.getD k 0) (hk : (now.getD k 0 - had.getD k 0).toNat < n) : (rwL w vs had n k (now.getD k 0 - had.getD k 0).toNat)[0]? = some (hdA w vs now k) := by
  unfold rwL
  rw [List.getElem?_map, List.getElem?_drop, Nat.add_zero, List.getElem?_range hk]
  show some (Rat.divInt (vs.getD k 0) (btQ w (had.getD k 0 + ((now.getD k 0 - had.getD k 0).toNat : Nat))), k) = some (Rat.divInt (vs.getD k 0) (1 + w.step * now.getD k 0), k)
  rw [show had.getD k 0 + ((now.getD k 0 - had.getD k 0).toNat : Int) = now.getD k 0 by omega]
  rfl
theorem rw_tail {w : Lw} {vs had : List Int} {n k g : Nat} : (rwL w vs had n k g).drop 1 = rwL w vs had n k (g + 1) := by
  unfold rwL
  rw [← List.map_drop, List.drop_drop]
theorem frz_rows (f : Nat → List Hd) (L : List Nat) : frzL (L.map fun k => T.node false Sh.lst ((f k).map hdF)) = L.map fun k => T.node false Sh.lst ((f k).map hdF) := by
  rw [frzL_map, List.map_map]
  refine List.map_congr_left fun k _ => ?_
  simp only [Function.comp, nf_node, frz_hds]
theorem natAbs_ltP {W : Int} {k : Nat} (h0 : 0 < W) (h : W < 2 ^ k) : W.natAbs < 2 ^ k := by
  have e : ((W.natAbs : Nat) : Int) = W := Int.natAbs_of_nonneg (Int.le_of_lt h0)
  have : ((W.natAbs : Nat) : Int) < ((2 ^ k : Nat) : Int) := by
    rw [e]
    exact_mod_cast h
  exact Int.ofNat_lt.mp this
def askF (x : List Int × List Int) : T := .node false .tup [.node false .lst (intsT x.1), .node false .lst (intsT x.2)]
def askT (x : List Int × List Int) : T := .node true .tup [.node true .lst (intsT x.1), .node true .lst (intsT x.2)]
theorem frz_askT (L : List (List Int × List Int)) : frzL (L.map askT) = L.map askF := by
  rw [frzL_map, List.map_map]
  refine List.map_congr_left fun r _ => ?_
  simp only [Function.comp, askT, askF, nf_node, nf_cons, nf_nil, intsT_frz]
theorem frz_askF (L : List (List Int × List Int)) : frzL (L.map askF) = L.map askF := by
  rw [← frz_askT, frzL_frzL]
theorem toP_tupI (o : Bool) (ns : List Int) : toP (.node o .tup (intsT ns)) = some (tupD ns) := by
  simp only [toP, toPL_ints]
  rfl
theorem lim_ky {w : Lw} (ok : LdOk w) {vs : List Int} {h : Nat} {j : Int} (hv : 0 ≤ vs.getD h 0 ∧ vs.getD h 0 < 2 ^ 60) (h0 : 0 ≤ j) (h1 : j ≤ 2 ^ 40) : Lim 300 (kyQ w vs h j) := by
  have hp : 0 ≤ w.step * j := Int.mul_nonneg (by have := ok.step; omega) h0
  have hp2 : w.step * j ≤ 9 * 2 ^ 40 := Int.mul_le_mul ok.step.2 h1 h0 (by omega)
  have hM := M_divInt (a := vs.getD h 0) (b := 1 + w.step * j) (by omega)
  refine Nat.le_trans hM ?_
  omega
theorem set_map {α β : Type} [DecidableEq α] : ∀ {L : List α} {j : Nat} {b : α} {f g : α → β}, L.Nodup → L[j]? = some b → (∀ k ∈ L, k ≠ b → g k = f k) → (L.map f).set j (g b) = L.map g
  | [], _, _, _, _, _, e, _ => by cases e
  | x :: L, 0, b, f, g, hn, e, h => by
    cases e
    have hn := List.nodup_cons.mp hn
    show g x :: L.map f = g x :: L.map g
    rw [List.map_congr_left fun k hk => (h k (List.mem_cons_of_mem _ hk) (fun z => hn.1 (z ▸ hk))).symm]
  | x :: L, j + 1, b, f, g, hn, e, h => by
    have hn := List.nodup_cons.mp hn
    have e : L[j]? = some b := e
    show f x :: (L.map f).set j (g b) = g x :: L.map g
    rw [set_map hn.2 e fun k hk => h k (List.mem_cons_of_mem _ hk), h x List.mem_cons_self (fun z => hn.1 (by rw [z]; exact List.mem_of_getElem? e))]
def hdD (x : Hd) : PyData := .tuple [.tuple [.int x.1.num, .int x.1.den], .int (x.2 : Nat)]
theorem eqv_nil (L : List Hd) : PyData.eqv (.list (L.map hdD)) (.list []) = L.isEmpty := by cases L <;> rfl
theorem toP_hd (x : Hd) : toP (hdF x) = some (hdD x) := rfl
theorem toP_hdsO (o : Bool) (L : List Hd) : toP (.node o .lst (L.map hdF)) = some (.list (L.map hdD)) := by
  simp only [toP]
  rw [toPL_enc fun x _ => toP_hd x]
  rfl
theorem toP_hds (L : List Hd) : toP (.node false .lst (L.map hdF)) = some (.list (L.map hdD)) := toP_hdsO false L
theorem good_hds {L : List Hd} (h : ∀ x ∈ L, Lim 300 x.1 ∧ x.2 < 13) (hl : L.length ≤ 61) : GoodD (.list (L.map hdD)) := by
  have key : ∀ x ∈ L, smallD (hdD x) ∧ szD (hdD x) ≤ 10 ∧ (hdD x).depth ≤ 2 := fun x hx => by
    obtain ⟨h1, h2⟩ := h x hx
    have hm := lim_mk h1 (qI x.1) rfl
    refine ⟨?_, by simp [hdD, szD, szL], by simp [hdD, PyData.depth, PyData.depthAll]⟩
    simp only [hdD, smallD, smallL]
    exact ⟨⟨pow_up hm.1 (by decide), pow_up hm.2 (by decide), trivial⟩, by omega, trivial⟩
  refine ⟨?_, ?_, ?_⟩
  · simp only [smallD]
    exact smallL_enc fun x hx => (key x hx).1
  · have := depthAll_enc (dat := hdD) (N := 2) fun x hx => (key x hx).2.2
    simp only [PyData.depth]
    omega
  · have := szL_enc (dat := hdD) (N := 10) fun x hx => (key x hx).2.1
    simp only [szD]
    omega
theorem frz_keysQ (L : List (List Int)) : frzL (L.map fun ns => T.node false Sh.tup (intsT ns)) = L.map fun ns => T.node false Sh.tup (intsT ns) := by
  rw [frzL_map, List.map_map]
  exact List.map_congr_left fun r _ => by simp only [Function.comp, nf_node, intsT_frz]
theorem wait_ok {w : Lw} (ok : LdOk w) {vs had : List Int} (vok : VOd w vs had) {n : Nat} (hn : n ≤ 1000) (hd : ∀ d ∈ had, d ≤ 2 ^ 39) : ∀ x ∈ waitL w vs had n, HdOk w x := fun x hx => by
  obtain ⟨r, hr, rfl⟩ := List.mem_map.mp hx
  have hk := (rounds_ok (w := w) (vs := vs) (least := leastI w vs.sum) n had).2 r hr
  have hm := rounds_msD ok (least := leastI w vs.sum) vok.vl vok.v n had vok.hl (fun d h => by have := vok.d d h; have := hd d h; omega) r hr
  refine ⟨hk, ?_⟩
  show Lim 300 ((r.1.getD r.2 none).getD 0)
  rw [List.getD_eq_getElem?_getD, List.getElem?_eq_getElem (by rw [hm.1]; exact hk)]
  show Lim 300 ((r.1[r.2]'(by rw [hm.1]; exact hk)).getD 0)
  cases e : r.1[r.2]'(by rw [hm.1]; exact hk) with
  | none => show Lim 300 0; exact Nat.le_of_ble_eq_true rfl
  | some q => exact hm.2 q (by rw [← e]; exact List.getElem_mem _)
theorem rows_adv {w : Lw} {vs had now : List Int} {least : Int} {n j b : Nat} (hj : (inH vs least w.h)[j]? = some b) (hb : b < now.length) (hg : had.getD b 0 ≤ now.getD b 0) :
    putT Sh.dK (rksL vs least w.h) ((inH vs least w.h).map fun k => T.node false Sh.lst ((rwL w vs had n k (now.getD k 0 - had.getD k 0).toNat).map hdF)) (Sum.inl (b : Int)) (frz (T.node true Sh.lst (cutA (frzL ((rwL w vs had n b (now.getD b 0 - had.getD b 0).toNat).map hdF)) (some 1) none))) =
    rowsT w vs had least n w.h fun h => ((addAt now b 1).getD h 0 - had.getD h 0).toNat := by
  have hix : ixK (rksL vs least w.h) (Sum.inl (b : Int)) = some j := ixK_in (inH_nodup _ _ _) hj
  have e1 : frz (T.node true Sh.lst (cutA (frzL ((rwL w vs had n b (now.getD b 0 - had.getD b 0).toNat).map hdF)) (some 1) none)) = .node false .lst ((rwL w vs had n b ((addAt now b 1).getD b 0 - had.getD b 0).toNat).map hdF) := by
    rw [nf_node, frz_hds, show cutA ((rwL w vs had n b (now.getD b 0 - had.getD b 0).toNat).map hdF) (some 1) none = ((rwL w vs had n b (now.getD b 0 - had.getD b 0).toNat).map hdF).drop 1 from cut_drop _ 1, ← List.map_drop, rw_tail, frz_hds, getD_addAt hb, if_pos rfl]
    rw [show (now.getD b 0 + 1 - had.getD b 0).toNat = (now.getD b 0 - had.getD b 0).toNat + 1 by omega]
  unfold putT rowsT
  rw [hix, e1]
  show T.node true _ _ = T.node true _ _
  congr 1
  exact set_map (f := fun k => T.node false Sh.lst ((rwL w vs had n k (now.getD k 0 - had.getD k 0).toNat).map hdF)) (g := fun k => T.node false Sh.lst ((rwL w vs had n k ((addAt now b 1).getD k 0 - had.getD k 0).toNat).map hdF)) (inH_nodup _ _ _) hj fun k _ hne => by
    show T.node false Sh.lst ((rwL w vs had n k ((addAt now b 1).getD k 0 - had.getD k 0).toNat).map hdF) = _
    rw [getD_addAt hb, if_neg hne]
theorem rows_get {w : Lw} {vs had : List Int} {least : Int} {n j b : Nat} {g : Nat → Nat} {Q : Option T → Prop} (hj : (inH vs least w.h)[j]? = some b) (q : Q (some (T.node false .lst ((rwL w vs had n b (g b)).map hdF)))) : isDctO (rowsT w vs had least n w.h g) ∧ rtDGet (rowsT w vs had least n w.h g) (.leaf (.int (b : Int))) Q := by
  have hix : ixK (rksL vs least w.h) (Sum.inl (b : Int)) = some j := ixK_in (inH_nodup _ _ _) hj
  refine ⟨trivial, ?_⟩
  unfold rtDGet rowsT
  refine ⟨by unfold rksL; rw [List.length_map, List.length_map], ?_⟩
  rw [hix]
  show Q (((inH vs least w.h).map _)[j]?)
  rw [List.getElem?_map, hj]
  exact q
theorem rw_lim {w : Lw} (ok : LdOk w) {vs had : List Int} (vok : VOd w vs had) (hd : ∀ d ∈ had, d ≤ 2 ^ 39) {n k g : Nat} (hk : k < w.h) (hn : n ≤ 60) : ∀ x ∈ rwL w vs had n k g, Lim 300 x.1 ∧ x.2 < 13 := fun x hx => by
  obtain ⟨i, hi, rfl⟩ := List.mem_map.mp hx
  have hi := List.mem_range.mp (List.mem_of_mem_drop hi)
  have h1 := vok.v (vs.getD k 0) (by rw [List.getD_eq_getElem?_getD, List.getElem?_eq_getElem (by have := vok.vl; omega)]; exact List.getElem_mem _)
  have h2 := vok.d (had.getD k 0) (by rw [List.getD_eq_getElem?_getD, List.getElem?_eq_getElem (by have := vok.hl; omega)]; exact List.getElem_mem _)
  have h3 := hd (had.getD k 0) (by rw [List.getD_eq_getElem?_getD, List.getElem?_eq_getElem (by have := vok.hl; omega)]; exact List.getElem_mem _)
  have := ok.h
  exact ⟨lim_ky ok h1 (by omega) (by omega), by show k < 13; omega⟩
theorem rw_len (w : Lw) (vs had : List Int) (n k g : Nat) : (rwL w vs had n k g).length = n - g := by
  unfold rwL
  rw [List.length_map, List.length_drop, List.length_range]
theorem rounds_trim {w : Lw} {vs : List Int} {least : Int} : ∀ (n : Nat) (had : List Int), roundsL w vs least (roundsL w vs least n had).length had = roundsL w vs least n had
  | 0, _ => rfl
  | n + 1, had => by
    cases h : dueL w (marksL w vs least had) with
    | none => rw [rounds_none h]; rfl
    | some k =>
      rw [rounds_some h, List.length_cons, rounds_some h, rounds_trim n]
theorem rounds_drop {w : Lw} {vs : List Int} {least : Int} : ∀ (a n : Nat) (had : List Int), a ≤ (roundsL w vs least n had).length → roundsL w vs least ((roundsL w vs least n had).length - a) (giveL had (((roundsL w vs least n had).take a).map (·.2))) = (roundsL w vs least n had).drop a
  | 0, n, had, _ => rounds_trim n had
  | a + 1, 0, had, h => absurd h (by show ¬ a + 1 ≤ 0; omega)
  | a + 1, n + 1, had, h => by
    cases hd : dueL w (marksL w vs least had) with
    | none =>
      rw [rounds_none hd] at h
      exact absurd h (by show ¬ a + 1 ≤ 0; omega)
    | some k =>
      rw [rounds_some hd] at h ⊢
      rw [List.length_cons, List.take_succ_cons, List.map_cons, List.drop_succ_cons, Nat.add_sub_add_right]
      exact rounds_drop a n (addAt had k 1) (by rw [List.length_cons] at h; omega)
theorem wait_drop {w : Lw} {vs had : List Int} {n a : Nat} (h : a ≤ (waitL w vs had n).length) : waitL w vs (giveL had (((waitL w vs had n).take a).map (·.2))) ((waitL w vs had n).length - a) = (waitL w vs had n).drop a := by
  have e : ∀ L : List (List (Option Rat) × Nat), (L.map itemR).map (·.2) = L.map (·.2) := fun L => by
    rw [List.map_map]
    rfl
  show (roundsL w vs (leastI w vs.sum) (((roundsL w vs (leastI w vs.sum) n had).map itemR).length - a) (giveL had ((((roundsL w vs (leastI w vs.sum) n had).map itemR).take a).map (·.2)))).map itemR = ((roundsL w vs (leastI w vs.sum) n had).map itemR).drop a
  have h : a ≤ ((roundsL w vs (leastI w vs.sum) n had).map itemR).length := h
  rw [List.length_map] at h ⊢
  rw [← List.map_take, e, rounds_drop a n had h, List.map_drop]
theorem wait_lw (w : Lw) (s : Nat) (vs had : List Int) (n : Nat) : waitL { w with s := s } vs had n = waitL w vs had n := by
  unfold waitL
  rw [show leastI { w with s := s } vs.sum = leastI w vs.sum from rfl, rounds_lw]
theorem frz_hdMn (o : Bool) (L : List Hd) : frz (T.node o .lst (L.map hdM)) = .node false .lst (L.map hdF) := by rw [nf_node, frz_hdM]
theorem toP_hdMs (o : Bool) (L : List Hd) : toP (.node o .lst (L.map hdM)) = some (.list (L.map hdD)) := by
  simp only [toP]
  rw [toPL_enc (enc := hdM) (dat := hdD) fun x _ => rfl]
  rfl
theorem wait_take (w : Lw) (vs had : List Int) (n : Nat) : (waitL w vs had (n + 1)).take (waitL w vs had n).length = waitL w vs had n := by
  show ((roundsL w vs (leastI w vs.sum) (n + 1) had).map itemR).take ((roundsL w vs (leastI w vs.sum) n had).map itemR).length = _
  rw [List.length_map, ← List.map_take]
  rcases rounds_ext (w := w) (vs := vs) (least := leastI w vs.sum) n had with e | ⟨r, _, e⟩
  · rw [e, List.take_length]
    rfl
  · rw [e, List.take_left']
    · rfl
    · rfl
theorem wait_len {w : Lw} (ok : LdOk w) (vs had : List Int) (n : Nat) : (waitL w vs had n).length = if inH vs (leastI w vs.sum) w.h = [] then 0 else n := by
  show ((roundsL w vs (leastI w vs.sum) n had).map itemR).length = _
  rw [List.length_map]
  by_cases c : inH vs (leastI w vs.sum) w.h = []
  · rw [if_pos c, rounds_nilD (had := had) ok (due_in c)]
    rfl
  · rw [if_neg c]
    obtain ⟨k, hk⟩ := List.exists_mem_of_ne_nil _ c
    obtain ⟨h1, h2⟩ := inH_mem.mp hk
    have := rounds_full ok.lw (least := leastI w vs.sum) (vs := vs) (k := k) h1 h2 n had
    rw [rounds_lw] at this
    exact this
theorem zip_two (a b : List Int) : zipT (intsT a) (intsT b) = (a.zip b).map fun z => T.node true .tup [.leaf (.int z.1), .leaf (.int z.2)] := by
  unfold zipT
  have e : ∀ l : List Int, intsT l = l.map fun i => T.leaf (.int i) := fun l => by rw [intsT_eq, List.map_map]; rfl
  rw [e, e, List.zip_map, List.map_map]
  rfl
theorem zip_sub : ∀ A : List Int, (A.zip A).map (fun z => z.2 - z.1) = List.replicate A.length 0
  | [] => rfl
  | a :: A => by
    show (a - a) :: (A.zip A).map (fun z => z.2 - z.1) = 0 :: List.replicate A.length 0
    rw [zip_sub A, Int.sub_self]
theorem zip_one : ∀ (A : List Int) (k : Nat), k < A.length → ((A.zip (addAt A k 1)).map (fun z => z.2 - z.1)).Perm (List.replicate (A.length - 1) 0 ++ [1])
  | [], _, h => absurd h (Nat.not_lt_zero _)
  | a :: A, 0, _ => by
    show ((a + 1 - a) :: (A.zip A).map (fun z => z.2 - z.1)).Perm _
    rw [zip_sub A, show a + 1 - a = 1 by omega]
    exact (List.perm_append_comm (l₁ := [1]) (l₂ := List.replicate A.length 0))
  | a :: A, k + 1, h => by
    have h : k < A.length := by simpa using h
    show ((a - a) :: (A.zip (addAt A k 1)).map (fun z => z.2 - z.1)).Perm _
    rw [Int.sub_self, show (a :: A).length - 1 = (A.length - 1) + 1 by rw [List.length_cons]; omega]
    exact (zip_one A k h).cons 0
theorem grown_perm (w : Lw) (vs had : List Int) (least : Int) (n : Nat) : (((toldL w.h ((roundsL w vs least n had).map (·.2))).zip (toldL w.h ((roundsL w vs least (n + 1) had).map (·.2)))).map (fun z => z.2 - z.1)).Perm (List.replicate (w.h - ((roundsL w vs least (n + 1) had).length - (roundsL w vs least n had).length)) 0 ++ List.replicate ((roundsL w vs least (n + 1) had).length - (roundsL w vs least n had).length) 1) := by
  rcases rounds_ext (w := w) (vs := vs) (least := least) n had with e | ⟨r, hr, e⟩
  · rw [e, zip_sub, told_len, Nat.sub_self, Nat.sub_zero]
    show (List.replicate w.h (0 : Int)).Perm (List.replicate w.h 0 ++ [])
    rw [List.append_nil]
  · rw [e, List.map_append, List.map_singleton, told_snoc, List.length_append, List.length_singleton, Nat.add_sub_cancel_left]
    have := zip_one (toldL w.h ((roundsL w vs least n had).map (·.2))) r.2 (by rw [told_len]; exact hr)
    rw [told_len] at this
    exact this
theorem grown_sorted (a b : Nat) : (List.replicate a (0 : Int) ++ List.replicate b 1).Pairwise (· ≤ ·) := by
  refine List.pairwise_append.mpr ⟨?_, ?_, fun x hx y hy => ?_⟩
  · exact List.pairwise_replicate.mpr (.inr (Int.le_refl 0))
  · exact List.pairwise_replicate.mpr (.inr (Int.le_refl 1))
  · rw [(List.mem_replicate.mp hx).2, (List.mem_replicate.mp hy).2]
    decide
theorem sorted_eq {a b : List Int} (p : a.Perm b) (ha : a.Pairwise (· ≤ ·)) (hb : b.Pairwise (· ≤ ·)) : a = b := p.eq_of_pairwise (fun x y _ _ h1 h2 => Int.le_antisymm h1 h2) ha hb
theorem repC (c : Int) (n : Nat) : repL [T.leaf (.int c)] (n : Int) = intsT (List.replicate n c) := by
  unfold repL
  rw [Int.toNat_natCast]
  induction n with
  | zero => rfl
  | succ n ih =>
    rw [List.replicate_succ, List.flatten_cons, ih]
    rfl
theorem rd_goes_first {ts : List T} {Q : T → List T → Prop} {E : Value → List (Str × V) → List T → Prop} (h : sp_goes_first ts Q E) : t_goes_first (bodyEnds [false, false, false] Q E) (startE 3 (frzP [false, false, false] ts)) := by
  obtain ⟨τ, t, u, w, x, y, rfl, ⟨as, hτ⟩, ok, ht, hu, okx, oky, q⟩ := h
  have hfl := land_fr hτ
  show t_goes_first _ [some (frz τ), some (frz t), some (frz u)]
  rw [hτ, ht, hu]
  walk_at "go"
  refine ifB_of (fun c => ?_) (fun c => ?_)
  · have c : decide (x.1 = y.1) = true := (eqv_q _ _).symm.trans c
    have c := of_decide_eq_true c
    walk_at "go"
    refine ⟨_, w, x.2, y.2, rfl, ⟨as, hfl⟩, ok, okx.1, oky.1, ?_⟩
    walk_at "go"
    unfold goH goesB at q
    rw [decide_eq_false (by rw [c]; exact Rat.lt_irrefl), decide_eq_true c.symm] at q
    exact q
  · have c : decide (x.1 = y.1) = false := (eqv_q _ _).symm.trans c
    have c := of_decide_eq_false c
    walk_at "go"
    refine ⟨y.1, x.1, false, false, 300, 300, rfl, oky.2, okx.2, by omega, ?_⟩
    walk_at "go"
    unfold goH goesB at q
    rw [decide_eq_false (show ¬ (y.1 = x.1) from fun z => c z.symm), Bool.false_and, Bool.or_false] at q
    exact q
theorem rd_first_of {ts : List T} {Q : T → List T → Prop} {E : Value → List (Str × V) → List T → Prop} (h : sp_first_of ts Q E) : t_first_of (bodyEnds [false, false] Q E) (startE 4 (frzP [false, false] ts)) := by
  obtain ⟨τ, o, xs, w, L, rfl, ⟨as, hτ⟩, ok, hx, hne, hl, hok, q⟩ := h
  have hfl := land_fr hτ
  show t_first_of _ [some (frz τ), some (.node false .lst (frzL xs)), none, none]
  rw [hτ, hx]
  walk_at "go"
  refine And.intro (by rw [nf_node, frz_hds]) ?_
  cases L with
  | nil => exact absurd rfl hne
  | cons x L =>
    walk_at "go"
    refine ⟨hdF x, atI_nat (j := 0) rfl, ?_⟩
    walk_at "go"
    refine And.intro (by rw [nf_node, frz_hds]) ?_
    walk_at "go"
    rw [frz_hds, show cutA ((x :: L).map hdF) (some 1) none = L.map hdF from (cut_drop _ 1).trans rfl, frz_hds, frz_hdF, frz_hdF]
    refine Loop.fit L hdF rfl (fun b : Hd => [some (some (landF w as)), none, some (some (hdF b)), none]) (fun i b => b = firstH w (x :: L.take i) ∧ HdOk w b) x ⟨rfl, hok x List.mem_cons_self⟩ (by repeat' (first | exact Fits.e | refine Fits.n ?_ | refine Fits.s rfl ?_)) (fun i o b g hi hI hF R hR => ?_) fun b g hI hF => ?_
    · (obtain ⟨ws_, rfl⟩ := Fits.fill (k := 0) hF; clear hF; dsimp only [fillQ, Nat.reduceAdd])
      obtain ⟨hI, hbo⟩ := hI
      have hoo := hok o (List.mem_cons_of_mem _ (List.mem_of_getElem? hi))
      walk_at "go"
      refine ⟨_, _, _, w, o, b, rfl, ⟨as, hfl⟩, ok, by simp only [Bool.false_eq_true, if_false, frz_hdF], by simp only [frz_hdF], hoo, hbo, ?_⟩
      have hst := first_take w x L i o hi
      rw [← hI] at hst
      walk_at "go"
      cases hg : goH w o b with
      | true =>
        rw [if_pos hg] at hst
        walk_at "go"
        exact hR o _ ⟨hst.symm, hoo⟩ (by repeat' (first | exact Fits.e | refine Fits.n ?_ | refine Fits.s rfl ?_))
      | false =>
        rw [if_neg (by rw [hg]; decide)] at hst
        walk_at "go"
        exact hR b _ ⟨hst.symm, hbo⟩ (by repeat' (first | exact Fits.e | refine Fits.n ?_ | refine Fits.s rfl ?_))
    · (obtain ⟨ws_, rfl⟩ := Fits.fill (k := 0) hF; clear hF; dsimp only [fillQ, Nat.reduceAdd])
      obtain ⟨hI, hbo⟩ := hI
      rw [List.take_length] at hI
      walk_at "go"
      rw [hI]
      exact q
theorem rd_waiting {ts : List T} {Q : T → List T → Prop} {E : Value → List (Str × V) → List T → Prop} (h : sp_waiting ts Q E) : t_waiting (bodyEnds [false, false, false] Q E) (startE 10 (frzP [false, false, false] ts)) := by
  obtain ⟨τ, w, o, p, vs, had, rfl, ⟨as, hτ⟩, ok, vok, hd, q⟩ := h
  have hfl := land_fr hτ
  have hh12 := ok.h
  show t_waiting _ [some (frz τ), some (.node false .lst (frzL (intsT vs))), some (.node false .lst (frzL (intsT had))), none, none, none, none, none, none, none]
  rw [hτ, intsT_frz, intsT_frz]
  walk_at "go"
  have hsb := sum_bdD vok.v (by have := vok.vl; have := ok.h; omega)
  refine ⟨_, w, vs.sum, rfl, ⟨as, hfl⟩, ok, hsb.2, hsb.1, ?_⟩
  walk_at "go"
  rw [Int.toNat_natCast]
  have hs60 := ok.s
  refine Loop.rg (fun z : Nat => [some (some (landF w as)), some (some (T.node false Sh.lst (intsT vs))), some (some (T.node false Sh.lst (intsT had))), some (some (T.leaf (V.int (leastI w vs.sum)))), some (some (T.node true Sh.lst [])), some (some (rowsT w vs had (leastI w vs.sum) w.s z fun _ => 0)), none, none, none, none]) (fun i z => z = i) 0 rfl (by rw [show rowsT w vs had (leastI w vs.sum) w.s 0 (fun _ => 0) = .node true (.dK []) [] from rfl]; (repeat' (first | exact Fits.e | refine Fits.n ?_ | refine Fits.s rfl ?_))) (fun i z g hi hI hF R hR => ?_) fun z g hI hF => ?_
  · subst hI
    (obtain ⟨ws_, rfl⟩ := Fits.fill (k := 0) hF; clear hF; dsimp only [fillQ, Nat.reduceAdd])
    simp only [Int.zero_add]
    have hzv : z < vs.length := by have := vok.vl; omega
    have hzh : z < had.length := by have := vok.hl; omega
    have hgv := atI_nat (ints_at hzv)
    have hgh := atI_nat (ints_at hzh)
    walk_at "go"
    refine ⟨_, hgv, ?_⟩
    walk_at "go"
    by_cases c : leastI w vs.sum ≤ vs.getD z 0
    · rw [decide_eq_true c]
      walk_at "go"
      rw [Int.toNat_natCast]
      refine Lc.fit (List.range w.s) (fun k => T.leaf (.int (0 + (k : Nat)))) rfl (fun _ : Unit => [some (some (landF w as)), some (some (T.node false Sh.lst (intsT vs))), some (some (T.node false Sh.lst (intsT had))), some (some (T.leaf (V.int (leastI w vs.sum)))), some (some (T.node true Sh.lst [])), some (some (rowsT w vs had (leastI w vs.sum) w.s z fun _ => 0)), some (some (T.leaf (V.int z))), none, none, none]) (fun i _ acc => acc = ((List.range i).map fun k : Nat => hdT (kyQ w vs z (had.getD z 0 + k), z))) () rfl (by repeat' (first | exact Fits.e | refine Fits.n ?_ | refine Fits.s rfl ?_)) (fun k x _ g acc hk hI hF2 R' hR' => ?_) fun _ g acc hI hF2 => ?_
      · (obtain ⟨ws_, rfl⟩ := Fits.fill (k := 0) hF2; clear hF2; dsimp only [fillQ, Nat.reduceAdd])
        obtain ⟨hxl, rfl⟩ : k < w.s ∧ x = k := by
          obtain ⟨h1, h2⟩ := List.getElem?_eq_some_iff.mp hk
          rw [List.length_range] at h1
          rw [List.getElem_range] at h2
          exact ⟨h1, h2.symm⟩
        simp only [Int.zero_add]
        walk_at "go"
        refine ⟨_, hgv, ?_⟩
        walk_at "go"
        refine ⟨_, hgh, ?_⟩
        walk_at "go"
        have hdz := hd (had.getD z 0) (by rw [List.getD_eq_getElem?_getD, List.getElem?_eq_getElem hzh]; exact List.getElem_mem hzh)
        have hdz0 := (vok.d (had.getD z 0) (by rw [List.getD_eq_getElem?_getD, List.getElem?_eq_getElem hzh]; exact List.getElem_mem hzh)).1
        refine ⟨_, w, vs.getD z 0, had.getD z 0 + x, rfl, ⟨as, hfl⟩, ok, by omega, by omega, ?_⟩
        walk_at "go"
        refine And.intro ?_ (hR' () _ _ ?_ (by repeat' (first | exact Fits.e | refine Fits.n ?_ | refine Fits.s rfl ?_)))
        · rw [hI, List.length_map, List.length_range]
          exact Nat.lt_of_lt_of_le (show x < 61 by omega) (by decide)
        · rw [hI, List.range_succ, List.map_append]
          rfl
      · (obtain ⟨ws_, rfl⟩ := Fits.fill (k := 0) hF2; clear hF2; dsimp only [fillQ, Nat.reduceAdd])
        walk_at "go"
        rw [List.length_range] at hI
        have hf0 : frz (T.node true Sh.lst acc) = .node false .lst ((rwL w vs had w.s z 0).map hdF) := by rw [nf_node, hI, rwL_0]
        rw [hf0]
        refine ⟨rks_nodup _ _ _, by unfold rksL; rw [List.length_map, List.length_map], Nat.lt_of_le_of_lt (by unfold rksL; rw [List.length_map]; exact inH_len _ _ _) (Nat.lt_of_lt_of_le (show z < 13 by omega) (by decide)), ?_⟩
        rw [rows_put c]
        exact hR (z + 1) _ rfl (by repeat' (first | exact Fits.e | refine Fits.n ?_ | refine Fits.s rfl ?_))
    · rw [decide_eq_false c]
      walk_at "go"
      refine hR (z + 1) _ rfl ?_
      have e : rowsT w vs had (leastI w vs.sum) w.s (z + 1) (fun _ => 0) = rowsT w vs had (leastI w vs.sum) w.s z fun _ => 0 := by
        unfold rowsT rksL
        rw [inH_succ, if_neg c, List.append_nil]
      rw [e]
      (repeat' (first | exact Fits.e | refine Fits.n ?_ | refine Fits.s rfl ?_))
  · subst hI
    (obtain ⟨ws_, rfl⟩ := Fits.fill (k := 0) hF; clear hF; dsimp only [fillQ, Nat.reduceAdd])
    walk_at "go"
    refine While.ind (fun k g => ∃ (found : List Hd) (now : List Int) (t5 : T) (g6 g7 g8 g9 : Option T), g = [some (landF w as), some (T.node false Sh.lst (intsT vs)), some (T.node false Sh.lst (intsT had)), some (T.leaf (V.int (leastI w vs.sum))), some (T.node true Sh.lst (found.map hdM)), some t5, g6, g7, g8, g9] ∧ found.length + k = w.s ∧ found ++ (roundsL w vs (leastI w vs.sum) k now).map itemR = waitL w vs had w.s ∧ now.length = w.h ∧ (∀ h : Nat, h < w.h → had.getD h 0 ≤ now.getD h 0 ∧ now.getD h 0 ≤ had.getD h 0 + found.length) ∧ (∃ ks ts, t5 = .node true (.dK ks) ts ∧ ts.length = ks.length) ∧ (0 < k → t5 = rowsT w vs had (leastI w vs.sum) w.s w.h fun h => (now.getD h 0 - had.getD h 0).toNat)) w.s ?_ (fun k g hI R hR => ?_)
    · refine ⟨[], had, _, _, _, _, _, rfl, by simp, rfl, vok.hl, fun h hh => ⟨Int.le_refl _, by simp⟩, ⟨_, _, rfl, by unfold rksL; rw [List.length_map, List.length_map]⟩, fun _ => ?_⟩
      rw [show (fun h : Nat => (had.getD h 0 - had.getD h 0).toNat) = fun _ => 0 from funext fun h => by omega]
    obtain ⟨found, now, t5, g6, g7, g8, g9, rfl, hk, hfd, hnl, hnb, ⟨ks, ts, ht5, hlk⟩, hform⟩ := hI
    subst ht5
    walk_at "go"
    refine ⟨false, ks, frzL ts, rfl, by rw [frzL_ln]; exact hlk, ?_⟩
    have hdone : k = 0 ∨ ks = [] → found = waitL w vs had w.s := fun hz => by
      rw [← hfd]
      have e0 : roundsL w vs (leastI w vs.sum) k now = [] := by
        rcases hz with rfl | rfl
        · rfl
        · by_cases hk0 : 0 < k
          · have e := hform hk0
            unfold rowsT at e
            injection e with _ e _
            injection e with e
            exact rounds_nilD (had := now) ok (due_in (rks_nil e.symm)) k now
          · obtain rfl : k = 0 := by omega
            rfl
      rw [e0, List.map_nil, List.append_nil]
    cases hks : ks.isEmpty with
    | true =>
      walk_at "go"
      rw [hdone (.inr (List.isEmpty_iff.mp hks))]
      exact q
    | false =>
      walk_at "go"
      rw [frzL_ln, List.length_map]
      by_cases c : (found.length : Int) < (w.s : Nat)
      · rw [decide_eq_true c]
        obtain ⟨k, rfl⟩ : ∃ m, k = m + 1 := ⟨k - 1, by omega⟩
        have e := hform (by omega)
        unfold rowsT at e
        injection e with _ e1 e2
        injection e1 with e1
        subst e1 e2
        walk_at "go"
        refine ⟨_, _, rfl, by unfold rksL; rw [List.length_map, List.length_map], frz_rows _ _, ?_⟩
        refine Lc.fit (inH vs (leastI w vs.sum) w.h) (fun k => T.node false Sh.lst ((rwL w vs had w.s k (now.getD k 0 - had.getD k 0).toNat).map hdF)) rfl (fun _ : Unit => [some (some (landF w as)), some (some (T.node false Sh.lst (intsT vs))), some (some (T.node false Sh.lst (intsT had))), some (some (T.leaf (V.int (leastI w vs.sum)))), some (some (T.node true Sh.lst (found.map hdM))), none, none, none, none, none]) (fun i _ acc => acc = (((inH vs (leastI w vs.sum) w.h).take i).map (hdA w vs now)).map hdF) () rfl (by repeat' (first | exact Fits.e | refine Fits.n ?_ | refine Fits.s rfl ?_)) (fun i x _ g acc hk2 hI hF2 R' hR' => ?_) fun _ g acc hI hF2 => ?_
        · (obtain ⟨ws_, rfl⟩ := Fits.fill (k := 0) hF2; clear hF2; dsimp only [fillQ, Nat.reduceAdd])
          have hx := inH_mem.mp (List.mem_of_getElem? hk2)
          have hnx := hnb x hx.1
          walk_at "go"
          rw [frz_hds]
          refine ⟨_, atI_nat (j := 0) (by rw [List.getElem?_map, rw_head hnx.1 (by omega)]; rfl), ?_⟩
          walk_at "go"
          refine And.intro ?_ (hR' () _ _ ?_ (by repeat' (first | exact Fits.e | refine Fits.n ?_ | refine Fits.s rfl ?_)))
          · rw [hI, List.length_map, List.length_map, List.length_take]
            exact Nat.lt_of_le_of_lt (Nat.min_le_right _ _) (Nat.lt_of_le_of_lt (inH_len _ _ _) (Nat.lt_of_lt_of_le (show w.h < 13 by omega) (by decide)))
          · rw [hI, List.take_add_one, hk2, Option.toList_some, List.map_append, List.map_append]
            rfl
        · (obtain ⟨ws_, rfl⟩ := Fits.fill (k := 0) hF2; clear hF2; dsimp only [fillQ, Nat.reduceAdd])
          rw [List.take_length] at hI
          walk_at "go"
          by_cases hin : inH vs (leastI w vs.sum) w.h = []
          · unfold rksL at hks
            rw [hin] at hks
            cases hks
          obtain ⟨b, hdue, hfirst, hb, hbv⟩ := first_is (now := now) hin
          refine ⟨_, true, acc, w, (inH vs (leastI w vs.sum) w.h).map (hdA w vs now), rfl, ⟨as, hfl⟩, ok, by rw [hI, frz_hds], by simpa using hin, by rw [List.length_map]; exact Nat.le_trans (inH_len _ _ _) (by omega), fun x hx => ?_, ?_⟩
          · obtain ⟨x0, hx0, rfl⟩ := List.mem_map.mp hx
            have hx1 := inH_mem.mp hx0
            have hvd : VOd w vs now := ⟨vok.vl, hnl, vok.v, fun d hdm => by
              obtain ⟨i, hi, e⟩ := List.getElem_of_mem hdm
              have h1 := hnb i (by omega)
              have e2 : now.getD i 0 = d := by rw [List.getD_eq_getElem?_getD, List.getElem?_eq_getElem hi, e]; rfl
              have h2 := vok.d (had.getD i 0) (by rw [List.getD_eq_getElem?_getD, List.getElem?_eq_getElem (by have := vok.hl; omega)]; exact List.getElem_mem _)
              have h3 := hd (had.getD i 0) (by rw [List.getD_eq_getElem?_getD, List.getElem?_eq_getElem (by have := vok.hl; omega)]; exact List.getElem_mem _)
              omega⟩
            have mok := marks_okD ok (leastI w vs.sum) hvd
            refine ⟨hx1.1, mok.2 _ (List.mem_of_getElem? (i := x0) ?_)⟩
            rw [marks_at hx1.1, if_neg (by omega)]
            rfl
          rw [hfirst, show hdF (hdA w vs now b) = .node false .tup [.node false .tup (qT (mkQ w vs now b)), .leaf (.int (b : Nat))] from rfl]
          walk_at "go"
          obtain ⟨j, hjl, hj⟩ := List.getElem_of_mem (inH_mem.mpr ⟨hb, hbv⟩)
          have hj : (inH vs (leastI w vs.sum) w.h)[j]? = some b := by rw [List.getElem?_eq_getElem hjl, hj]
          have hix : ixK (rksL vs (leastI w vs.sum) w.h) (Sum.inl (b : Int)) = some j := ixK_in (inH_nodup _ _ _) hj
          refine And.intro trivial ?_
          unfold rtDGet
          refine And.intro (by unfold rksL; rw [List.length_map, List.length_map]) ?_
          rw [hix]
          refine ⟨T.node false Sh.lst ((rwL w vs had w.s b (now.getD b 0 - had.getD b 0).toNat).map hdF), ?_, by rw [nf_node, frz_hds], ?_⟩
          · show ((inH vs (leastI w vs.sum) w.h).map _)[j]? = _
            rw [List.getElem?_map, hj]
            rfl
          walk_at "go"
          have hg1 := hnb b hb
          have hrl : (rksL vs (leastI w vs.sum) w.h).length < sizeLine := by
            unfold rksL
            rw [List.length_map]
            exact Nat.lt_of_le_of_lt (inH_len _ _ _) (Nat.lt_of_lt_of_le (show w.h < 13 by omega) (by decide))
          refine ⟨rks_nodup _ _ _, by unfold rksL; rw [List.length_map, List.length_map], hrl, ?_⟩
          rw [rows_adv hj (by omega) hg1.1]
          walk_at "go"
          refine rows_get hj ?_
          refine ⟨_, rfl, by rw [nf_node, frz_hds], ?_⟩
          walk_at "go"
          have hrok := rw_lim (n := w.s) (g := ((addAt now b 1).getD b 0 - had.getD b 0).toNat) ok vok hd hb hs60
          have hrl2 := rw_len w vs had w.s b ((addAt now b 1).getD b 0 - had.getD b 0).toNat
          refine ⟨_, _, toP_hds _, rfl, (good_hds hrok (by omega)).shaped, rfl, ?_⟩
          rw [eqv_nil]
          have hstep : (found ++ [hdA w vs now b]).length + k = w.s := by rw [List.length_append, List.length_singleton]; omega
          have hnx : ∀ t5 : T, (∃ ks ts, t5 = .node true (.dK ks) ts ∧ ts.length = ks.length) → (0 < k → t5 = rowsT w vs had (leastI w vs.sum) w.s w.h fun h => ((addAt now b 1).getD h 0 - had.getD h 0).toNat) → ∀ g6 g7 g8 g9 : Option T, R [some (landF w as), some (T.node false Sh.lst (intsT vs)), some (T.node false Sh.lst (intsT had)), some (T.leaf (V.int (leastI w vs.sum))), some (T.node true Sh.lst ((found ++ [hdA w vs now b]).map hdM)), some t5, g6, g7, g8, g9] := fun t5 h5 h6 g6 g7 g8 g9 => by
            refine hR k _ (by omega) ⟨found ++ [hdA w vs now b], addAt now b 1, t5, g6, g7, g8, g9, rfl, hstep, ?_, by rw [addAt_len, hnl], fun h hh => ?_, h5, h6⟩
            · rw [← hfd, rounds_some hdue, List.map_cons, item_due hb hbv, List.append_assoc]
              rfl
            · rw [getD_addAt (by omega), List.length_append, List.length_singleton]
              have := hnb h hh
              split
              · rename_i e
                subst e
                omega
              · omega
          rw [show found.map hdM ++ [T.node true Sh.tup [T.node false Sh.tup [T.leaf (V.int (mkQ w vs now b).num), T.leaf (V.int (mkQ w vs now b).den)], T.leaf (V.int b)]] = (found ++ [hdA w vs now b]).map hdM by rw [List.map_append]; rfl]
          cases hE : (rwL w vs had w.s b ((addAt now b 1).getD b 0 - had.getD b 0).toNat).isEmpty with
          | false =>
            walk_at "go"
            exact hnx _ ⟨_, _, rfl, by unfold rksL; rw [List.length_map, List.length_map]⟩ (fun _ => rfl) _ _ _ _
          | true =>
            have hk0 : k = 0 := by
              rw [List.isEmpty_iff] at hE
              have hl0 := hrl2
              rw [hE, getD_addAt (by omega), if_pos rfl] at hl0
              have : ([] : List Hd).length = 0 := rfl
              omega
            walk_at "go"
            refine And.intro trivial ?_
            walk_at "go"
            refine ⟨rks_nodup _ _ _, by unfold rksL; rw [List.length_map, List.length_map], j, _, hix, by rw [List.getElem?_map, hj]; rfl, ?_⟩
            walk_at "go"
            exact hnx _ ⟨_, _, rfl, by unfold rksL; rw [List.length_eraseIdx, List.length_eraseIdx, List.length_map, List.length_map]⟩ (fun h => absurd h (by omega)) _ _ _ _
      · rw [decide_eq_false c]
        walk_at "go"
        rw [hdone (.inl (by omega))]
        exact q
theorem rd__law_many {ts : List T} {Q : T → List T → Prop} {E : Value → List (Str × V) → List T → Prop} (h : sp__law_many ts Q E) : t__law_many (bodyEnds [true, false] Q E) (startE 4 (frzP [true, false] ts)) := by
  obtain ⟨bag, h, rfl, hb, h1, h2, q⟩ := h
  show t__law_many _ [some bag, some (.leaf (.int h)), none, none]
  walk_at "go"
  refine ⟨bag, 4, rfl, hb, by decide, .inl (by decide), fun r bag2 r0 r1 hb2 => ?_⟩
  walk_at "go"
  obtain ⟨k, rfl⟩ : ∃ k : Nat, r = k := ⟨r.toNat, by omega⟩
  obtain ⟨far, hfar, hf1, hf2⟩ : ∃ far : Int, atI [T.leaf (.int 4), .leaf (.int 30), .leaf (.int 1000), .leaf ((fun i j : Int => V.int (i ^ j.toNat)) 10 9)] (k : Int) = some (.leaf (.int far)) ∧ 1 ≤ far ∧ far ≤ 2 ^ 60 := by
    match k, r1 with
    | 0, _ => exact ⟨4, rfl, by decide, by decide⟩
    | 1, _ => exact ⟨30, rfl, by decide, by decide⟩
    | 2, _ => exact ⟨1000, rfl, by decide, by decide⟩
    | 3, _ => exact ⟨10 ^ 9, rfl, by decide, by decide⟩
    | n + 4, h => omega
  refine ⟨_, hfar, ?_⟩
  walk_at "go"
  refine Lc.fit (List.range (h + 1)) (fun k => .leaf (.int (0 + (k : Nat)))) (by rw [show ((h : Int) + 1).toNat = h + 1 by omega]; rfl) (fun bag : T => [some (some bag), some (some (.leaf (.int (h : Nat)))), some (some (.leaf (.int far))), none]) (fun i bag acc => IsBag bag ∧ ∃ L : List Int, acc = intsT L ∧ L.length = i ∧ ∀ x ∈ L, 0 ≤ x ∧ x < 2 ^ 60) bag2 ⟨hb2, [], rfl, rfl, fun x hx => by cases hx⟩ (by repeat' (first | exact Fits.e | refine Fits.n ?_ | refine Fits.s rfl ?_)) (fun k x bag g acc hk hI hF R' hR' => ?_) fun bag g acc hI hF => ?_
  · obtain ⟨hb3, L, rfl, hL, hb4⟩ := hI
    have hk2 := (List.getElem?_eq_some_iff.mp hk).1
    rw [List.length_range] at hk2
    (obtain ⟨ws_, rfl⟩ := Fits.fill (k := 0) hF; clear hF; dsimp only [fillQ, Nat.reduceAdd])
    walk_at "go"
    refine ⟨bag, far, rfl, hb3, by omega, .inl (by omega), fun r5 bag5 r50 r51 hb5 => ?_⟩
    walk_at "go"
    exact hR' _ _ _ ⟨hb5, L ++ [r5], by simp [intsT], by rw [List.length_append, hL]; rfl, fun x hx => by
      rcases List.mem_append.mp hx with hx | hx
      · exact hb4 x hx
      · rw [List.mem_singleton.mp hx]
        omega⟩ (by repeat' (first | exact Fits.e | refine Fits.n ?_ | refine Fits.s rfl ?_))
  · obtain ⟨hb3, L, rfl, hL, hb4⟩ := hI
    rw [List.length_range] at hL
    (obtain ⟨ws_, rfl⟩ := Fits.fill (k := 0) hF; clear hF; dsimp only [fillQ, Nat.reduceAdd])
    walk_at "go"
    exact q L bag hL hb4 hb3
def rwT (w : Lw) (r : Nat × Int) : T := .node true .tup [.leaf (.int (r.1 : Nat)), .leaf (.int (btQ w r.2))]
def rwF (w : Lw) (r : Nat × Int) : T := .node false .tup [.leaf (.int (r.1 : Nat)), .leaf (.int (btQ w r.2))]
theorem frz_rwT (w : Lw) (L : List (Nat × Int)) : frzL (L.map (rwT w)) = L.map (rwF w) := by
  rw [frzL_map, List.map_map]
  exact List.map_congr_left fun x _ => rfl
theorem frz_rwF (w : Lw) (L : List (Nat × Int)) : frzL (L.map (rwF w)) = L.map (rwF w) := by
  rw [frzL_map, List.map_map]
  exact List.map_congr_left fun x _ => rfl
theorem rd__law_due {ts : List T} {Q : T → List T → Prop} {E : Value → List (Str × V) → List T → Prop} (h : sp__law_due ts Q E) : t__law_due (bodyEnds [false, false, false] Q E) (startE 15 (frzP [false, false, false] ts)) := by
  obtain ⟨τ, w, o, p, vs, had, rfl, ⟨th, tl, hτ, hh, hl⟩, ok, hs40, vok, hd, q⟩ := h
  have hfn := num_fr hτ
  have hh12 := ok.h
  show t__law_due _ [some (frz τ), some (.node false .lst (frzL (intsT vs))), some (.node false .lst (frzL (intsT had))), none, none, none, none, none, none, none, none, none, none, none, none]
  rw [hτ, intsT_frz, intsT_frz]
  walk_at "go"
  rw [ints_len, vok.hl]
  refine ⟨_, w, rfl, ⟨th, tl, hfn, hh, hl⟩, ok, fun oo => ?_⟩
  walk_at "go"
  have hsb := sum_bdD vok.v (by have := vok.vl; have := ok.h; omega)
  refine ⟨_, w, vs.sum, rfl, ⟨th, tl, hfn, hh, hl⟩, ok, hsb.2, hsb.1, ?_⟩
  walk_at "go"
  rw [Int.toNat_natCast]
  refine Loop.rg (fun z : Nat => [some (some (T.node false (Sh.dK numKs) [T.leaf (V.int w.s), th, T.leaf (V.int w.step), tl])), some (some (T.node false Sh.lst (intsT vs))), some (some (T.node false Sh.lst (intsT had))), some (some (T.leaf (V.int w.h))), some (some (T.leaf (V.int w.step))), some (some (T.node false Sh.lst (intsT w.lots))), some (some (T.leaf (V.int (leastI w vs.sum)))), some (some (T.node true Sh.lst ((rowsN vs had (leastI w vs.sum) w.s z).map (rwT w)))), some (some (T.leaf (V.int 1))), none, none, none, none, none, none]) (fun i z => z = i) 0 rfl (by rw [show (rowsN vs had (leastI w vs.sum) w.s 0).map (rwT w) = [] from rfl]; (repeat' (first | exact Fits.e | refine Fits.n ?_ | refine Fits.s rfl ?_))) (fun i z g hi hI hF R hR => ?_) fun z g hI hF => ?_
  · subst hI
    (obtain ⟨ws_, rfl⟩ := Fits.fill (k := 0) hF; clear hF; dsimp only [fillQ, Nat.reduceAdd])
    simp only [Int.zero_add]
    have hzv : z < vs.length := by have := vok.vl; omega
    have hzh : z < had.length := by have := vok.hl; omega
    have hgv := atI_nat (ints_at hzv)
    have hgh := atI_nat (ints_at hzh)
    walk_at "go"
    refine ⟨_, hgv, ?_⟩
    walk_at "go"
    have hcm : CMulA (w.s : Nat) (if decide (leastI w vs.sum ≤ vs.getD z 0) = true then 1 else 0) := mulA (k := 6) (j := 1) (by omega) (by split <;> decide) (by omega)
    refine And.intro hcm ?_
    have hrg : ((w.s : Nat) : Int) * (if decide (leastI w vs.sum ≤ vs.getD z 0) = true then 1 else 0) = ((if leastI w vs.sum ≤ vs.getD z 0 then w.s else 0 : Nat) : Int) := by
      by_cases c : leastI w vs.sum ≤ vs.getD z 0
      · rw [decide_eq_true c, if_pos rfl, if_pos c, Int.mul_one]
      · rw [decide_eq_false c, if_neg (by decide), if_neg c, Int.mul_zero]
        rfl
    rw [hrg]
    have hnm : (if leastI w vs.sum ≤ vs.getD z 0 then w.s else 0) ≤ 60 := by split <;> omega
    generalize hN : (if leastI w vs.sum ≤ vs.getD z 0 then w.s else 0) = N at hnm
    walk_at "go"
    rw [Int.toNat_natCast]
    refine Loop.rg (fun m : Nat => [some (some (T.node false (Sh.dK numKs) [T.leaf (V.int w.s), th, T.leaf (V.int w.step), tl])), some (some (T.node false Sh.lst (intsT vs))), some (some (T.node false Sh.lst (intsT had))), some (some (T.leaf (V.int w.h))), some (some (T.leaf (V.int w.step))), some (some (T.node false Sh.lst (intsT w.lots))), some (some (T.leaf (V.int (leastI w vs.sum)))), some (some (T.node true Sh.lst ((rowsN vs had (leastI w vs.sum) w.s z ++ (List.range m).map fun k : Nat => (z, had.getD z 0 + (k : Int))).map (rwT w)))), some (some (T.leaf (V.int 1))), some (some (T.leaf (V.int z))), none, none, none, none, none]) (fun i m => m = i) 0 rfl (by rw [show (List.range 0).map (fun k : Nat => (z, had.getD z 0 + (k : Int))) = [] from rfl, List.append_nil]; (repeat' (first | exact Fits.e | refine Fits.n ?_ | refine Fits.s rfl ?_))) (fun i m g hi hI hF R' hR' => ?_) fun m g hI hF => ?_
    · subst hI
      (obtain ⟨ws_, rfl⟩ := Fits.fill (k := 0) hF; clear hF; dsimp only [fillQ, Nat.reduceAdd])
      simp only [Int.zero_add]
      walk_at "go"
      refine ⟨_, hgh, ?_⟩
      walk_at "go"
      have hdz := hd (had.getD z 0) (by rw [List.getD_eq_getElem?_getD, List.getElem?_eq_getElem hzh]; exact List.getElem_mem hzh)
      have hdz0 := (vok.d (had.getD z 0) (by rw [List.getD_eq_getElem?_getD, List.getElem?_eq_getElem hzh]; exact List.getElem_mem hzh)).1
      refine And.intro (mulA (k := 5) (j := 10) (by have := ok.step; omega) (by omega) (by omega)) ?_
      walk_at "go"
      rw [List.length_map, List.length_append, List.length_map, List.length_range]
      refine And.intro (Nat.lt_of_le_of_lt (Nat.add_le_add (rows_len _ _ _ _ _) (Nat.le_of_lt hi)) (Nat.lt_of_le_of_lt (Nat.add_le_add (Nat.mul_le_mul (show z ≤ 12 by omega) hs40) (show N ≤ 60 by omega)) (by decide))) ?_
      walk_at "go"
      have e : ((rowsN vs had (leastI w vs.sum) w.s z ++ (List.range m).map fun k : Nat => (z, had.getD z 0 + (k : Int))).map (rwT w)) ++ [T.node true Sh.tup [T.leaf (V.int z), T.leaf (V.int (1 + w.step * (had.getD z 0 + m)))]] = (rowsN vs had (leastI w vs.sum) w.s z ++ (List.range (m + 1)).map fun k : Nat => (z, had.getD z 0 + (k : Int))).map (rwT w) := by
        rw [List.range_succ, List.map_append, List.map_append, List.map_append, List.map_append, List.append_assoc]
        rfl
      rw [e]
      exact hR' (m + 1) _ rfl (by repeat' (first | exact Fits.e | refine Fits.n ?_ | refine Fits.s rfl ?_))
    · subst hI
      (obtain ⟨ws_, rfl⟩ := Fits.fill (k := 0) hF; clear hF; dsimp only [fillQ, Nat.reduceAdd])
      walk_at "go"
      have e : rowsN vs had (leastI w vs.sum) w.s (z + 1) = rowsN vs had (leastI w vs.sum) w.s z ++ (List.range m).map fun k : Nat => (z, had.getD z 0 + (k : Int)) := by
        unfold rowsN
        rw [List.range_succ, List.flatMap_append, ← hN]
        simp only [List.flatMap_cons, List.flatMap_nil, List.append_nil]
      rw [← e]
      exact hR (z + 1) _ rfl (by repeat' (first | exact Fits.e | refine Fits.n ?_ | refine Fits.s rfl ?_))
  · subst hI
    (obtain ⟨ws_, rfl⟩ := Fits.fill (k := 0) hF; clear hF; dsimp only [fillQ, Nat.reduceAdd])
    walk_at "go"
    rw [frz_rwT, frz_rwF]
    refine Lc.fit (rowsN vs had (leastI w vs.sum) w.s w.h) (rwF w) rfl (fun _ : Unit => [none, none, none, none, none, none, none, none, none, none, none, none, none, none, none]) (fun i _ acc => acc = intsT (((rowsN vs had (leastI w vs.sum) w.s w.h).take i).map fun r => btQ w r.2)) () rfl (by repeat' (first | exact Fits.e | refine Fits.n ?_ | refine Fits.s rfl ?_)) (fun k x _ g acc hk hI hF2 R' hR' => ?_) fun _ g acc hI hF2 => ?_
    · (obtain ⟨ws_, rfl⟩ := Fits.fill (k := 0) hF2; clear hF2; dsimp only [fillQ, Nat.reduceAdd])
      rw [show rwF w x = .node false .tup [.leaf (.int (x.1 : Nat)), .leaf (.int (btQ w x.2))] from rfl]
      walk_at "go"
      refine And.intro ?_ (hR' () _ _ ?_ (by repeat' (first | exact Fits.e | refine Fits.n ?_ | refine Fits.s rfl ?_)))
      · rw [hI, ints_len, List.length_map, List.length_take]
        exact Nat.lt_of_le_of_lt (Nat.min_le_right _ _) (Nat.lt_of_le_of_lt (rows_len _ _ _ _ _) (Nat.lt_of_le_of_lt (Nat.mul_le_mul hh12.2 hs40) (by decide)))
      · rw [hI, List.take_add_one, hk, List.map_append]
        simp [intsT]
        rfl
    · (obtain ⟨ws_, rfl⟩ := Fits.fill (k := 0) hF2; clear hF2; dsimp only [fillQ, Nat.reduceAdd])
      walk_at "go"
      rw [List.take_length] at hI
      refine ⟨_, hI, ?_, fun ns' hp hm => And.intro (by show (true && pureL (intsT ns')) = true; rw [pure_intsL]; rfl) ?_⟩
      · rw [List.length_map]
        exact Nat.lt_of_le_of_lt (rows_len _ _ _ _ _) (Nat.lt_of_le_of_lt (Nat.mul_le_mul hh12.2 hs40) (by decide))
      rw [intsT_frz]
      have hns : ∀ k ∈ ns', 0 < k ∧ k < 2 ^ 10 := fun k hk => by
        obtain ⟨r, hr, rfl⟩ := List.mem_map.mp ((hm k).mp hk)
        obtain ⟨h1, h2, h3, h4⟩ := rows_mem.mp (show (r.1, r.2) ∈ _ from hr)
        have hdz := vok.d (had.getD r.1 0) (by rw [List.getD_eq_getElem?_getD, List.getElem?_eq_getElem (by have := vok.hl; omega)]; exact List.getElem_mem _)
        have hdz2 := hd (had.getD r.1 0) (by rw [List.getD_eq_getElem?_getD, List.getElem?_eq_getElem (by have := vok.hl; omega)]; exact List.getElem_mem _)
        refine ⟨bt_pos ok (by omega), ?_⟩
        have : w.step * r.2 ≤ 9 * 70 := Int.mul_le_mul ok.step.2 (by omega) (by omega) (by omega)
        unfold btQ
        omega
      have hnl : ns'.length ≤ 480 := by
        have hnd : ns'.Nodup := hp.imp fun h => by omega
        have hsub : ns'.length ≤ ((rowsN vs had (leastI w vs.sum) w.s w.h).map fun r => btQ w r.2).length := List.Nodup.length_le_of_subset hnd fun x hx => (hm x).mp hx
        have := hsub
        rw [List.length_map] at this
        exact Nat.le_trans this (Nat.le_trans (rows_len _ _ _ _ _) (Nat.mul_le_mul hh12.2 hs40))
      refine Loop.fit ns' (fun k => T.leaf (.int k)) (by simp [intsT_eq]) (fun W : Int => [some (some (T.node false (Sh.dK numKs) [T.leaf (V.int w.s), th, T.leaf (V.int w.step), tl])), some (some (T.node false Sh.lst (intsT vs))), some (some (T.node false Sh.lst (intsT had))), some (some (T.leaf (V.int w.h))), some (some (T.leaf (V.int w.step))), some (some (T.node false Sh.lst (intsT w.lots))), some (some (T.leaf (V.int (leastI w vs.sum)))), some (some (T.node true Sh.lst ((rowsN vs had (leastI w vs.sum) w.s w.h).map (rwT w)))), some (some (T.leaf (V.int W))), none, none, none, none, none, none]) (fun i W => W = (ns'.take i).foldl (· * ·) 1) 1 rfl (by repeat' (first | exact Fits.e | refine Fits.n ?_ | refine Fits.s rfl ?_)) (fun i x W g hi hI hF R hR => ?_) fun W g hI hF => ?_
      · (obtain ⟨ws_, rfl⟩ := Fits.fill (k := 0) hF; clear hF; dsimp only [fillQ, Nat.reduceAdd])
        have hb := prod_bd (ns'.take i) 1 1 (by decide) (by decide) fun y hy => hns y (List.mem_of_mem_take hy)
        rw [← hI] at hb
        have hx := hns x (List.mem_of_getElem? hi)
        walk_at "go"
        have hW2 : W.natAbs < 2 ^ 4801 := Nat.lt_of_lt_of_le (natAbs_ltP hb.1 hb.2) (Nat.pow_le_pow_right (by decide) (by rw [List.length_take]; omega))
        refine And.intro (mulA (k := 4800) (j := 10) hW2 (by omega) (by decide)) ?_
        walk_at "go"
        refine hR (W * x) _ ?_ (by repeat' (first | exact Fits.e | refine Fits.n ?_ | refine Fits.s rfl ?_))
        rw [List.take_add_one, hi, Option.toList_some, List.foldl_append, ← hI]
        rfl
      · (obtain ⟨ws_, rfl⟩ := Fits.fill (k := 0) hF; clear hF; dsimp only [fillQ, Nat.reduceAdd])
        rw [List.take_length] at hI
        walk_at "go"
        rw [frz_rwT, frz_rwF]
        have hbW := prod_bd ns' 1 1 (by decide) (by decide) hns
        rw [← hI] at hbW
        have hdW := prod_dvd ns' 1
        rw [← hI] at hdW
        have hW2 : W.natAbs < 2 ^ 4801 := Nat.lt_of_lt_of_le (natAbs_ltP hbW.1 hbW.2) (Nat.pow_le_pow_right (by decide) (by omega))
        refine Lc.fit (rowsN vs had (leastI w vs.sum) w.s w.h) (rwF w) rfl (fun _ : Unit => [some (some (T.node false (Sh.dK numKs) [T.leaf (V.int w.s), th, T.leaf (V.int w.step), tl])), some (some (T.node false Sh.lst (intsT vs))), some (some (T.node false Sh.lst (intsT had))), none, none, some (some (T.node false Sh.lst (intsT w.lots))), none, none, some (some (T.leaf (V.int W))), none, none, none, none, none, none]) (fun i _ acc => acc = (((rowsN vs had (leastI w vs.sum) w.s w.h).take i).map fun r => T.node true Sh.tup (intsT (itQ w vs W r.1 r.2)))) () rfl (by repeat' (first | exact Fits.e | refine Fits.n ?_ | refine Fits.s rfl ?_)) (fun k x _ g acc hk hI2 hF2 R' hR' => ?_) fun _ g acc hI2 hF2 => ?_
        · (obtain ⟨ws_, rfl⟩ := Fits.fill (k := 0) hF2; clear hF2; dsimp only [fillQ, Nat.reduceAdd])
          obtain ⟨h, j⟩ := x
          obtain ⟨r1, r2, r3, r4⟩ := rows_mem.mp (List.mem_of_getElem? hk)
          rw [show rwF w (h, j) = .node false .tup [.leaf (.int (h : Nat)), .leaf (.int (btQ w j))] from rfl]
          walk_at "go"
          have hvh : h < vs.length := by have := vok.vl; omega
          have hhh : h < had.length := by have := vok.hl; omega
          have hdz := vok.d (had.getD h 0) (by rw [List.getD_eq_getElem?_getD, List.getElem?_eq_getElem hhh]; exact List.getElem_mem _)
          have hdz2 := hd (had.getD h 0) (by rw [List.getD_eq_getElem?_getD, List.getElem?_eq_getElem hhh]; exact List.getElem_mem _)
          have hvv := vok.v (vs.getD h 0) (by rw [List.getD_eq_getElem?_getD, List.getElem?_eq_getElem hvh]; exact List.getElem_mem _)
          have hbp := bt_pos (w := w) ok (show 0 ≤ j by omega)
          have hb10 : btQ w j < 2 ^ 10 := by
            have : w.step * j ≤ 9 * 70 := Int.mul_le_mul ok.step.2 (by omega) (by omega) (by omega)
            unfold btQ
            omega
          have hbl : (btQ w j).natAbs.log2 < 9000 := Nat.lt_of_lt_of_le (PySem.Flt.log2_lt_of (k := 10) (by decide) (by omega)) (by decide)
          refine ⟨_, atI_nat (ints_at hvh), ?_⟩
          walk_at "go"
          have hq : (W / btQ w j).natAbs < 2 ^ 4801 := by
            refine Nat.lt_of_le_of_lt ?_ hW2
            rw [Int.natAbs_ediv_of_nonneg (by omega)]
            exact Nat.div_le_self _ _
          refine And.intro (mulA (k := 60) (j := 4800) (by omega) hq (by decide)) ?_
          walk_at "go"
          refine And.intro ⟨_, _, rfl⟩ ?_
          walk_at "go"
          refine ⟨w.lots, w.lots.idxOf (h : Int), rfl, (idx_ok (in_lotsD ok r1)).1, (idx_ok (in_lotsD ok r1)).2, ?_⟩
          walk_at "go"
          refine And.intro ?_ (hR' () _ _ ?_ (by repeat' (first | exact Fits.e | refine Fits.n ?_ | refine Fits.s rfl ?_)))
          · rw [hI2, List.length_map, List.length_take]
            exact Nat.lt_of_le_of_lt (Nat.min_le_right _ _) (Nat.lt_of_le_of_lt (rows_len _ _ _ _ _) (Nat.lt_of_le_of_lt (Nat.mul_le_mul hh12.2 hs40) (by decide)))
          · rw [hI2, List.take_add_one, hk, Option.toList_some, List.map_append]
            rfl
        · (obtain ⟨ws_, rfl⟩ := Fits.fill (k := 0) hF2; clear hF2; dsimp only [fillQ, Nat.reduceAdd])
          rw [List.take_length] at hI2
          walk_at "go"
          have hfa : frzL acc = ((rowsN vs had (leastI w vs.sum) w.s w.h).map fun r => itQ w vs W r.1 r.2).map fun ns => T.node false Sh.tup (intsT ns) := by
            rw [hI2, frzL_map, List.map_map, List.map_map]
            exact List.map_congr_left fun r _ => by simp only [Function.comp, nf_node, intsT_frz]
          refine ⟨List Int, (rowsN vs had (leastI w vs.sum) w.s w.h).map fun r => itQ w vs W r.1 r.2, fun ns => T.node false Sh.tup (intsT ns), tupD, leL, ⟨by rw [hfa, frz_keysQ], fun b _ => toP_tupI false b, alike_keys, .inl fun d hd => ?_, fun b hb => ?_, fun a _ b _ => by rw [le_tupD]⟩, ?_⟩
          · obtain ⟨ns, _, rfl⟩ := List.mem_map.mp hd
            exact ⟨_, rfl⟩
          · show (PyData.tuple (b.map .int)).depth ≤ 40
            simp only [PyData.depth, depthAll_ints]
            omega
          walk_at "go"
          have hpm := List.mergeSort_perm ((rowsN vs had (leastI w vs.sum) w.s w.h).map fun r => itQ w vs W r.1 r.2) leL
          have hdue := due_rows (n := w.s) ok hbW.1 hsb.2 vok.hl (fun d h => (vok.d d h).1) (fun r hr => hdW.2 (btQ w r.2) ((hm _).mpr (List.mem_map.mpr ⟨r, hr, rfl⟩)))
          generalize hS : ((rowsN vs had (leastI w vs.sum) w.s w.h).map fun r => itQ w vs W r.1 r.2).mergeSort leL = S at hpm hdue
          rw [frz_keysQ]
          have hSm : ∀ x ∈ S, ∃ (h : Nat) (j : Int), x = itQ w vs W h j ∧ (h, j) ∈ rowsN vs had (leastI w vs.sum) w.s w.h := fun x hx => by
            obtain ⟨r, hr, rfl⟩ := List.mem_map.mp (hpm.mem_iff.mp hx)
            exact ⟨r.1, r.2, rfl, hr⟩
          refine Lc.fit S (fun ns => T.node false Sh.tup (intsT ns)) rfl (fun _ : Unit => [some (some (T.node false (Sh.dK numKs) [T.leaf (V.int w.s), th, T.leaf (V.int w.step), tl])), some (some (T.node false Sh.lst (intsT vs))), some (some (T.node false Sh.lst (intsT had))), none, none, none, none, none, none, none, none, none, none, none, none]) (fun i _ acc => acc = ((S.take i).map (hdQ vs)).map hdT) () rfl (by repeat' (first | exact Fits.e | refine Fits.n ?_ | refine Fits.s rfl ?_)) (fun k x _ g acc hk hI3 hF3 R3 hR3 => ?_) fun _ g acc hI3 hF3 => ?_
          · (obtain ⟨ws_, rfl⟩ := Fits.fill (k := 0) hF3; clear hF3; dsimp only [fillQ, Nat.reduceAdd])
            obtain ⟨h, j, rfl, hr⟩ := hSm x (List.mem_of_getElem? hk)
            obtain ⟨r1, r2, r3, r4⟩ := rows_mem.mp hr
            rw [show intsT (itQ w vs W h j) = [.leaf (.int (0 - vs.getD h 0 * (W / btQ w j))), .leaf (.int (w.lots.idxOf (h : Int) : Nat)), .leaf (.int (h : Nat)), .leaf (.int (btQ w j))] from rfl]
            walk_at "go"
            have hvh : h < vs.length := by have := vok.vl; omega
            have hhh : h < had.length := by have := vok.hl; omega
            have hdz := vok.d (had.getD h 0) (by rw [List.getD_eq_getElem?_getD, List.getElem?_eq_getElem hhh]; exact List.getElem_mem _)
            have hdz2 := hd (had.getD h 0) (by rw [List.getD_eq_getElem?_getD, List.getElem?_eq_getElem hhh]; exact List.getElem_mem _)
            have hvv := vok.v (vs.getD h 0) (by rw [List.getD_eq_getElem?_getD, List.getElem?_eq_getElem hvh]; exact List.getElem_mem _)
            have hbp := bt_pos (w := w) ok (show 0 ≤ j by omega)
            have hb10 : btQ w j < 2 ^ 10 := by
              have : w.step * j ≤ 9 * 70 := Int.mul_le_mul ok.step.2 (by omega) (by omega) (by omega)
              unfold btQ
              omega
            refine ⟨_, atI_nat (ints_at hvh), ?_⟩
            walk_at "go"
            refine ⟨vs.getD h 0, btQ w j, rfl, hvv.1, hbp, by omega, by omega, ?_⟩
            walk_at "go"
            refine And.intro ?_ (hR3 () _ _ ?_ (by repeat' (first | exact Fits.e | refine Fits.n ?_ | refine Fits.s rfl ?_)))
            · rw [hI3, List.length_map, List.length_map, List.length_take]
              refine Nat.lt_of_le_of_lt (Nat.min_le_right _ _) ?_
              rw [hpm.length_eq, List.length_map]
              exact Nat.lt_of_le_of_lt (rows_len _ _ _ _ _) (Nat.lt_of_le_of_lt (Nat.mul_le_mul hh12.2 hs40) (by decide))
            · rw [hI3, List.take_add_one, hk, Option.toList_some, List.map_append, List.map_append]
              rfl
          · (obtain ⟨ws_, rfl⟩ := Fits.fill (k := 0) hF3; clear hF3; dsimp only [fillQ, Nat.reduceAdd])
            rw [List.take_length] at hI3
            walk_at "go"
            rw [hI3, frz_hdT, frz_hds, cut_take, ← List.map_take, hdue]
            rw [frz_hdT] at q
            exact q
theorem rd__law_made {ts : List T} {Q : T → List T → Prop} {E : Value → List (Str × V) → List T → Prop} (h : sp__law_made ts Q E) : t__law_made (bodyEnds [false, false, false] Q E) (startE 3 (frzP [false, false, false] ts)) := by
  obtain ⟨τ, w, s, rfl, ⟨th, tl, hτ, hh, hl⟩, ok, hs, q⟩ := h
  have hfn := num_fr hτ
  show t__law_made _ [some (frz τ), some (.leaf (.int (w.h : Nat))), some (.leaf (.int (s : Nat)))]
  rw [hτ]
  walk_at "go"
  have hfh : frz th = th := by rcases hh with ⟨rfl, _⟩ | rfl <;> rfl
  have hft : frz tl = tl := by
    rcases hl with ⟨rfl, _⟩ | rfl
    · rfl
    · rw [nf_node, intsT_frz]
  intro dx
  refine ⟨dx, ⟨w.h, 1, rangeI w.h, 0, 1, 1⟩, .leaf .non, .leaf .non, rfl, ⟨ok.h, ⟨Nat.le_refl 1, show (1 : Nat) ≤ 60 by decide⟩, List.Perm.refl _, ⟨Int.le_refl 1, show (1 : Int) ≤ 2 ^ 199 by decide⟩, ⟨Int.le_refl 0, show (0 : Int) ≤ 1 by decide⟩, show Int.gcd 0 1 = 1 by decide, ⟨Int.le_refl 1, show (1 : Int) ≤ 9 by decide⟩⟩, .inr ⟨rfl, rfl⟩, .inl ⟨rfl, rfl, rfl⟩, fun p => ?_⟩
  walk_at "go"
  have hww : WaysT w.h [T.node true (Sh.ins C_Lists dx ns_Lists) (wayK true p { h := w.h, s := 1, lots := rangeI w.h, top := 0, bot := 1, step := 1 })] := ⟨fun x hx => ⟨⟨w.h, 1, rangeI w.h, 0, 1, 1⟩, ⟨dx, by rw [List.mem_singleton.mp hx]; exact frz_wayT p dx _⟩, rfl⟩, Nat.le_refl 1, show 1 ≤ 6 by decide⟩
  refine ⟨{ w with s := s }, true, _, tl, th, ?_, ⟨ok.h, hs, ok.lots, ok.bot, ok.top, ok.red, ok.step⟩, hww, ?_, ?_, fun p' q' => ?_⟩
  · simp only [nf_leaf, hfh, hft]
    rfl
  · rcases hl with ⟨e, e2⟩ | e
    · exact .inr ⟨e, e2⟩
    · exact .inl ⟨_, e⟩
  · rcases hh with e | e
    · exact .inl e
    · exact .inr ⟨_, e⟩
  walk_at "go"
  exact q _ ⟨_, frz_landO _ _ _ _⟩
theorem rd__law_parted_right {ts : List T} {Q : T → List T → Prop} {E : Value → List (Str × V) → List T → Prop} (h : sp__law_parted_right ts Q E) : t__law_parted_right (bodyEnds [true, false, false, false, false] Q E) (startE 11 (frzP [true, false, false, false, false] ts)) := by
  obtain ⟨bag, τn, o, p, r, w, vs, had, xs, rfl, hx, hb, ⟨th, tl, hτ, hh, hl⟩, ok, vok, hd, q⟩ := h
  have hfn := num_fr hτ
  show t__law_parted_right _ [some bag, some (frz τn), some (.node false .lst (frzL (intsT vs))), some (.node false .lst (frzL (intsT had))), some (.node false .lst (frzL xs)), none, none, none, none, none, none]
  rw [hτ, intsT_frz, intsT_frz, hx]
  walk_at "go"
  refine And.intro (by rw [nf_node, frz_hds]) ?_
  walk_at "go"
  rw [List.length_map]
  have hwl : (waitL w vs had w.s).length ≤ w.s := by
    unfold waitL
    rw [List.length_map]
    exact (rounds_ok (w := w) (vs := vs) (least := leastI w vs.sum) w.s had).1
  have hs60 := ok.s
  have hh12 := ok.h
  refine ⟨bag, _, rfl, hb, by omega, .inl (by omega), fun at_ bag2 a0 a1 hb2 => ?_⟩
  obtain ⟨a, rfl⟩ : ∃ a : Nat, at_ = a := ⟨at_.toNat, by omega⟩
  walk_at "go"
  refine ⟨_, _, _, rfl, ?_⟩
  walk_at "go"
  refine And.intro (by rw [nf_node, frz_hds]) ?_
  walk_at "go"
  rw [frz_hds, cut_take, ← List.map_take, frz_hds, ints_len]
  have hwo := wait_ok ok vok (n := w.s) (by omega) (fun d h => by have := hd d h; omega)
  have hwd := fun (a : Nat) (h : a ≤ (waitL w vs had w.s).length) => wait_drop (w := w) (vs := vs) (had := had) (n := w.s) h
  generalize hWL : waitL w vs had w.s = WL at *
  refine Loop.fit (WL.take a) hdF rfl (fun now : List Int => [some (some bag2), some (some (T.node false (Sh.dK numKs) [T.leaf (V.int w.s), th, T.leaf (V.int w.step), tl])), some (some (T.node false Sh.lst (intsT vs))), some (some (T.node false Sh.lst (intsT had))), some (some (T.node false Sh.lst (WL.map hdF))), some (some (T.leaf (V.int (had.length : Nat)))), some (some (T.leaf (V.int (a : Nat)))), some (some (T.node true Sh.lst (intsT now))), none, none, none]) (fun i now => now = giveL had (((WL.take a).take i).map (·.2)) ∧ now.length = w.h ∧ ∀ d ∈ now, 0 ≤ d ∧ d ≤ 30 + i) had ⟨rfl, vok.hl, fun d h => ⟨(vok.d d h).1, hd d h⟩⟩ (by repeat' (first | exact Fits.e | refine Fits.n ?_ | refine Fits.s rfl ?_)) (fun i x now g hi hI hF R hR => ?_) fun now g hI hF => ?_
  · (obtain ⟨ws_, rfl⟩ := Fits.fill (k := 0) hF; clear hF; dsimp only [fillQ, Nat.reduceAdd])
    obtain ⟨i1, i2, i3⟩ := hI
    have hxl : x.2 < now.length := by have := (hwo x (List.mem_of_mem_take (List.mem_of_getElem? hi))).1; omega
    rw [show hdF x = .node false .tup [.node false .tup (qT x.1), .leaf (.int (x.2 : Nat))] from rfl]
    walk_at "go"
    refine ⟨_, by rw [Int.toNat_natCast]; exact ints_at hxl, ?_⟩
    walk_at "go"
    refine And.intro (by rw [ints_len, Int.toNat_natCast]; omega) ?_
    rw [Int.toNat_natCast, show (fun i j : Int => V.int (i + j)) (now.getD x.2 0) 1 = V.int (now.getD x.2 0 + 1) from rfl, ints_set]
    refine hR (addAt now x.2 1) _ ⟨?_, ?_, ?_⟩ (by repeat' (first | exact Fits.e | refine Fits.n ?_ | refine Fits.s rfl ?_))
    · rw [List.take_add_one, hi, Option.toList_some, List.map_append, List.map_singleton, giveL_snoc, ← i1]
    · rw [addAt_len, i2]
    · intro d hdm
      rcases List.mem_or_eq_of_mem_set hdm with hdm | rfl
      · have := i3 d hdm
        omega
      · have := i3 (now.getD x.2 0) (by rw [List.getD_eq_getElem?_getD, List.getElem?_eq_getElem hxl]; exact List.getElem_mem _)
        omega
  · (obtain ⟨ws_, rfl⟩ := Fits.fill (k := 0) hF; clear hF; dsimp only [fillQ, Nat.reduceAdd])
    obtain ⟨i1, i2, i3⟩ := hI
    walk_at "go"
    rw [frzL_ln, List.length_map, vok.hl]
    have hst : a ≤ WL.length := by omega
    refine ⟨frz (T.node false (Sh.dK numKs) [T.leaf (V.int w.s), th, T.leaf (V.int w.step), tl]), w, WL.length - a, ?_, ⟨th, tl, by rw [frz_frz]; exact hfn, hh, hl⟩, ok, by omega, fun τ' hland => ?_⟩
    · rw [show (fun i j : Int => V.int (i - j)) (WL.length : Nat) (a : Nat) = V.int ((WL.length - a : Nat) : Int) by show V.int _ = _; congr 1; omega, nf_leaf]
    walk_at "go"
    have hla : (WL.take a).length = a := by rw [List.length_take]; omega
    rw [hla] at i3
    refine ⟨τ', { w with s := WL.length - a }, false, false, vs, now, by simp only [nf_node, intsT_frz], hland, ⟨ok.h, by show WL.length - a ≤ 60; omega, ok.lots, ok.bot, ok.top, ok.red, ok.step⟩, ⟨vok.vl, i2, vok.v, fun d h => by have := i3 d h; omega⟩, fun d h => by have := i3 d h; omega, And.intro (pure_hdM _) ?_⟩
    walk_at "go"
    rw [hla, List.take_of_length_le (Nat.le_of_eq hla)] at i1
    have hWd := hwd a hst
    rw [← i1] at hWd
    refine And.intro (by rw [nf_node, frz_hds]) ?_
    walk_at "go"
    refine ⟨_, _, .list ((WL.drop a).map hdD), rfl, ?_, ?_, good_hds (fun x hx => ?_) (by rw [List.length_drop]; omega), ?_⟩
    · rw [wait_lw, hWd, frz_hdM]
      exact toP_hds _
    · rw [frz_hds, cut_drop, ← List.map_drop]
      exact toP_hdsO true _
    · have := hwo x (List.mem_of_mem_drop hx)
      exact ⟨this.2, by have := this.1; omega⟩
    walk_at "go"
    exact q bag2 hb2
theorem rd__law_right {ts : List T} {Q : T → List T → Prop} {E : Value → List (Str × V) → List T → Prop} (h : sp__law_right ts Q E) : t__law_right (bodyEnds [true, false, false, false, false] Q E) (startE 16 (frzP [true, false, false, false, false] ts)) := by
  obtain ⟨bag, τl, τn, o, p, w, vs, had, rfl, hb, ⟨as, hτl⟩, ⟨th, tl, hτ, hh, hl⟩, ok, hs40, vok, hd, q⟩ := h
  have hfn := num_fr hτ
  have hfl := land_fr hτl
  have hh12 := ok.h
  show t__law_right _ [some bag, some (frz τl), some (frz τn), some (.node false .lst (frzL (intsT vs))), some (.node false .lst (frzL (intsT had))), none, none, none, none, none, none, none, none, none, none, none]
  rw [hτ, hτl, intsT_frz, intsT_frz]
  walk_at "go"
  refine ⟨_, w, false, false, vs, had, rfl, ⟨th, tl, hfn, hh, hl⟩, ok, hs40, vok, hd, ?_⟩
  walk_at "go"
  refine ⟨_, w, false, false, vs, had, rfl, ⟨as, hfl⟩, ok, vok, fun d h => by have := hd d h; omega, ?_⟩
  walk_at "go"
  rw [frz_hdT]
  have hwl : (waitL w vs had w.s).length ≤ w.s := by
    unfold waitL
    rw [List.length_map]
    exact (rounds_ok (w := w) (vs := vs) (least := leastI w vs.sum) w.s had).1
  have hwok : ∀ x ∈ waitL w vs had w.s, Lim 300 x.1 ∧ x.2 < 13 := fun x hx => by
    have := wait_ok ok vok (n := w.s) (by omega) (fun d h => by have := hd d h; omega) x hx
    exact ⟨this.2, by have := this.1; omega⟩
  refine ⟨_, _, .list ((waitL w vs had w.s).map hdD), rfl, by rw [nf_node, frz_hdM]; exact toP_hds _, by rw [nf_node, frz_hds]; exact toP_hds _, good_hds hwok (by omega), ?_⟩
  walk_at "go"
  refine ⟨_, w, false, false, vs, had, rfl, ⟨as, hfl⟩, ok, vok, fun d h => by have := hd d h; omega, ?_⟩
  walk_at "go"
  refine ⟨_, w, false, false, vs, had, rfl, ⟨as, hfl⟩, ok, vok, fun d h => by have := hd d h; omega, ?_⟩
  walk_at "go"
  refine ⟨_, _, .list ((waitL w vs had w.s).map hdD), rfl, by rw [nf_node, frz_hdM]; exact toP_hds _, by rw [nf_node, frz_hds]; exact toP_hds _, good_hds hwok (by omega), ?_⟩
  walk_at "go"
  rw [frz_roundsT, frz_rounds, frz_rounds, frz_rounds]
  have hrk := (rounds_ok (w := w) (vs := vs) (least := leastI w vs.sum) w.s had).2
  have hrm := rounds_msD ok (least := leastI w vs.sum) vok.vl vok.v w.s had vok.hl (fun d h => by have := vok.d d h; have := hd d h; have := ok.s; omega)
  have hWe : waitL w vs had w.s = (roundsL w vs (leastI w vs.sum) w.s had).map itemR := rfl
  refine Lc.fit (roundsL w vs (leastI w vs.sum) w.s had) (roundT false false) rfl (fun _ : Unit => [none, none, none, none, none, none, none, some (some (frz (T.node true Sh.lst ((waitL w vs had w.s).map hdM)))), none, none, none, none, none, none, none, none]) (fun i _ acc => acc = (((roundsL w vs (leastI w vs.sum) w.s had).take i).map itemR).map hdM) () rfl (by repeat' (first | exact Fits.e | refine Fits.n ?_ | refine Fits.s rfl ?_)) (fun k r _ g acc hk hI hF R hR => ?_) fun _ g acc hI hF => ?_
  · (obtain ⟨ws_, rfl⟩ := Fits.fill (k := 0) hF; clear hF; dsimp only [fillQ, Nat.reduceAdd])
    have hr := List.mem_of_getElem? hk
    have hr2 := hrk r hr
    have hrm2 := hrm r hr
    rw [show roundT false false r = .node false .tup [.node false .lst (r.1.map (markT false)), .leaf (.int (r.2 : Nat))] from rfl]
    walk_at "go"
    rw [frz_hdMn]
    obtain ⟨hdue, hr1⟩ := rounds_at hk
    obtain ⟨q0, hq0⟩ := due_some ok.lw (n := r.2) (ms := r.1) (by rw [hr1]; exact hdue)
    have hgq : r.1[r.2]? = some (some q0) := by
      have hlt : r.2 < r.1.length := by rw [hrm2.1]; exact hr2
      rw [List.getD_eq_getElem?_getD, List.getElem?_eq_getElem hlt] at hq0
      rw [List.getElem?_eq_getElem hlt]
      exact congrArg some hq0
    rw [frz_marks, frz_marks]
    refine ⟨markT false (some q0), atI_nat (by rw [List.getElem?_map, hgq]; rfl), ?_⟩
    walk_at "go"
    refine And.intro ?_ (hR () _ _ ?_ (by rw [← frz_hdMn true]; (repeat' (first | exact Fits.e | refine Fits.n ?_ | refine Fits.s rfl ?_))))
    · rw [hI, List.length_map, List.length_map, List.length_take]
      exact Nat.lt_of_le_of_lt (Nat.min_le_right _ _) (Nat.lt_of_le_of_lt (rounds_ok (w := w) (vs := vs) (least := leastI w vs.sum) w.s had).1 (Nat.lt_of_lt_of_le (show w.s < 61 by omega) (by decide)))
    · rw [hI, List.take_add_one, hk, Option.toList_some, List.map_append, List.map_append]
      have : itemR r = (q0, r.2) := by
        unfold itemR
        rw [hq0]
        rfl
      rw [List.map_singleton, List.map_singleton, this]
      rfl
  · (obtain ⟨ws_, rfl⟩ := Fits.fill (k := 0) hF; clear hF; dsimp only [fillQ, Nat.reduceAdd])
    rw [List.take_length] at hI
    rw [frz_hdMn]
    walk_at "go"
    have hgd := good_hds hwok (by omega)
    refine And.intro (by rw [nf_node, frz_hds]) ?_
    refine ⟨_, _, by rw [hI, ← hWe]; exact toP_hdMs true _, toP_hds _, hgd.shaped, hgd.shaped, ?_⟩
    rw [hgd.refl]
    walk_at "go"
    rw [ints_len, vok.hl]
    refine ⟨_, w, w.s + 1, rfl, ⟨th, tl, hfn, hh, hl⟩, ok, by omega, fun τw hw => ?_⟩
    have okw : LdOk { w with s := w.s + 1 } := ⟨ok.h, by show w.s + 1 ≤ 60; omega, ok.lots, ok.bot, ok.top, ok.red, ok.step⟩
    have hw2 : IsLand (frz τw) { w with s := w.s + 1 } := by
      obtain ⟨as2, e⟩ := hw
      exact ⟨as2, by rw [frz_frz]; exact e⟩
    have vokw : VOd { w with s := w.s + 1 } vs had := ⟨vok.vl, vok.hl, vok.v, vok.d⟩
    have hd39 : ∀ d ∈ had, d ≤ 2 ^ 39 := fun d h => by have := hd d h; omega
    walk_at "go"
    refine ⟨_, _, false, false, vs, had, rfl, hw2, okw, vokw, hd39, ?_⟩
    rw [show waitL { w with s := w.s + 1 } vs had ({ w with s := w.s + 1 } : Lw).s = waitL w vs had (w.s + 1) from wait_lw w _ vs had _]
    walk_at "go"
    refine ⟨.list ((waitL w vs had w.s).map hdD), .list ((waitL w vs had w.s).map hdD), ?_, by rw [frz_hdMn]; exact toP_hds _, hgd.shaped, hgd.shaped, ?_⟩
    · rw [frz_hdM, frz_hds, frz_hds, frzL_ln, List.length_map, cut_take, ← List.map_take, wait_take]
      exact toP_hdsO true _
    rw [hgd.refl]
    walk_at "go"
    refine ⟨vs.take w.h, by rw [intsT_frz, intsT_frz, cut_take, ints_take], by rw [List.length_take]; have := vok.vl; omega, fun mx hm1 hm2 => ?_⟩
    have hmx : leastI w vs.sum ≤ mx ↔ inH vs (leastI w vs.sum) w.h ≠ [] := by
      constructor
      · intro h e
        obtain ⟨i, hi, e2⟩ := List.getElem_of_mem hm1
        rw [List.length_take] at hi
        have hm : i ∈ inH vs (leastI w vs.sum) w.h := inH_mem.mpr ⟨by omega, by
          rw [List.getElem_take] at e2
          rw [List.getD_eq_getElem?_getD, List.getElem?_eq_getElem (by omega), e2]
          exact h⟩
        rw [e] at hm
        cases hm
      · intro h
        obtain ⟨k, hk⟩ := List.exists_mem_of_ne_nil _ h
        obtain ⟨h1, h2⟩ := inH_mem.mp hk
        have hkl : k < vs.length := by have := vok.vl; omega
        have := hm2 (vs.getD k 0) (by
          rw [List.getD_eq_getElem?_getD, List.getElem?_eq_getElem hkl]
          exact List.mem_take_iff_getElem.mpr ⟨k, by omega, rfl⟩)
        omega
    walk_at "go"
    have hlen : ((frzL (frzL ((waitL w vs had (w.s + 1)).map hdM))).length : Int) = (frzL ((waitL w vs had w.s).map hdM)).length + if decide (leastI w vs.sum ≤ mx) = true then 1 else 0 := by
      rw [frzL_ln, frzL_ln, frzL_ln, List.length_map, List.length_map, wait_len ok, wait_len ok]
      by_cases c : inH vs (leastI w vs.sum) w.h = []
      · rw [if_pos c, if_pos c, decide_eq_false (fun z => hmx.mp z c)]
        rfl
      · rw [if_neg c, if_neg c, decide_eq_true (hmx.mpr c)]
        rfl
    rw [if_pos rfl, decide_eq_true hlen]
    walk_at "go"
    have hev : ∀ s : Nat, frz (evT true { w with s := s } vs had) = T.node false .tup [T.node false .lst (intsT vs), T.leaf (.int (leastI w vs.sum)), T.node false .lst ((roundsL w vs (leastI w vs.sum) s had).map (roundT false false))] := fun s => by
      have e : roundsL { w with s := s } vs (leastI { w with s := s } vs.sum) ({ w with s := s } : Lw).s had = roundsL w vs (leastI w vs.sum) s had := rounds_lw w s vs _ s had
      unfold evT
      rw [e]
      simp only [nf_node, nf_cons, nf_nil, nf_leaf, intsT_frz, frz_roundsT]
      rfl
    refine ⟨_, _, w, _, _, roundsL w vs (leastI w vs.sum) w.s had, rfl, ⟨as, hfl⟩, ok, by rw [frz_frz]; exact hev w.s, by have := (rounds_ok (w := w) (vs := vs) (least := leastI w vs.sum) w.s had).1; omega, hrk, ?_⟩
    walk_at "go"
    refine ⟨_, { w with s := w.s + 1 }, false, false, vs, had, rfl, hw2, okw, vokw, hd39, ?_⟩
    walk_at "go"
    refine ⟨_, _, { w with s := w.s + 1 }, _, _, roundsL w vs (leastI w vs.sum) (w.s + 1) had, rfl, hw2, okw, hev (w.s + 1), by have := (rounds_ok (w := w) (vs := vs) (least := leastI w vs.sum) (w.s + 1) had).1; omega, (rounds_ok (w := w) (vs := vs) (least := leastI w vs.sum) (w.s + 1) had).2, ?_⟩
    walk_at "go"
    refine ⟨true, _, true, _, rfl, ?_⟩
    rw [intsT_frz, intsT_frz, zip_two]
    generalize hA : toldL w.h ((roundsL w vs (leastI w vs.sum) w.s had).map fun x => x.2) = A
    have hgp := grown_perm w vs had (leastI w vs.sum) w.s
    rw [show ({ w with s := w.s + 1 } : Lw).h = w.h from rfl]
    rw [hA] at hgp
    generalize hB : toldL w.h ((roundsL w vs (leastI w vs.sum) (w.s + 1) had).map fun x => x.2) = B at hgp ⊢
    refine Lc.fit (A.zip B) (fun z : Int × Int => T.node true .tup [.leaf (.int z.1), .leaf (.int z.2)]) rfl (fun _ : Unit => [some (some bag), none, some (some (T.node false (Sh.dK numKs) [T.leaf (V.int w.s), th, T.leaf (V.int w.step), tl])), some (some (T.node false Sh.lst (intsT vs))), some (some (T.node false Sh.lst (intsT had))), some (some (T.leaf (V.int w.h))), none, some (some (T.node true Sh.lst ((waitL w vs had w.s).map hdM))), none, none, some (some (T.node false Sh.lst (frzL ((waitL w vs had (w.s + 1)).map hdM)))), none, none, none, none, none]) (fun i _ acc => acc = intsT (((A.zip B).take i).map fun z => z.2 - z.1)) () rfl (by repeat' (first | exact Fits.e | refine Fits.n ?_ | refine Fits.s rfl ?_)) (fun k x _ g acc hk hI hF R hR => ?_) fun _ g acc hI hF => ?_
    · (obtain ⟨ws_, rfl⟩ := Fits.fill (k := 0) hF; clear hF; dsimp only [fillQ, Nat.reduceAdd])
      walk_at "go"
      have hAl : (A.zip B).length < sizeLine := by
        have h1 : (A.zip B).length ≤ w.h := by rw [List.length_zip, ← hA, told_len]; exact Nat.min_le_left _ _
        exact Nat.lt_of_le_of_lt h1 (Nat.lt_of_lt_of_le (show w.h < 13 by omega) (by decide))
      refine And.intro ?_ (hR () _ _ ?_ (by repeat' (first | exact Fits.e | refine Fits.n ?_ | refine Fits.s rfl ?_)))
      · rw [hI, ints_len, List.length_map, List.length_take]
        exact Nat.lt_of_le_of_lt (Nat.min_le_right _ _) hAl
      · rw [hI, List.take_add_one, hk, Option.toList_some, List.map_append]
        simp [intsT]
    · (obtain ⟨ws_, rfl⟩ := Fits.fill (k := 0) hF; clear hF; dsimp only [fillQ, Nat.reduceAdd])
      rw [List.take_length] at hI
      walk_at "go"
      have hfa : frzL (frzL acc) = intsT ((A.zip B).map fun z => z.2 - z.1) := by rw [hI, intsT_frz, intsT_frz]
      refine ⟨_, hfa, fun ns' p1 p2 => ?_⟩
      have hns := sorted_eq (p1.trans hgp) p2 (grown_sorted _ _)
      have hml : (frzL (frzL ((waitL w vs had (w.s + 1)).map hdM))).length = (roundsL w vs (leastI w vs.sum) (w.s + 1) had).length := by
        rw [frzL_ln, frzL_ln, List.length_map]
        exact List.length_map _
      have hrl : (frzL ((waitL w vs had w.s).map hdM)).length = (roundsL w vs (leastI w vs.sum) w.s had).length := by
        rw [frzL_ln, List.length_map]
        exact List.length_map _
      walk_at "go"
      rw [hml, hrl]
      generalize hM : (roundsL w vs (leastI w vs.sum) (w.s + 1) had).length = M at hns
      generalize hN : (roundsL w vs (leastI w vs.sum) w.s had).length = N at hns
      have hMN : N ≤ M ∧ M ≤ N + 1 := by
        rcases rounds_ext (w := w) (vs := vs) (least := leastI w vs.sum) w.s had with e | ⟨r, _, e⟩
        · rw [e, hN] at hM
          omega
        · rw [e, List.length_append, List.length_singleton, hN] at hM
          omega
      have e1 : ((M : Int) - (N : Int)) = ((M - N : Nat) : Int) := by omega
      have e2 : ((w.h : Int) - (M : Int) + (N : Int)) = ((w.h - (M - N) : Nat) : Int) := by omega
      rw [e1, e2, show frzL [T.leaf (V.int 0)] = [T.leaf (V.int 0)] from rfl, show frzL [T.leaf (V.int 1)] = [T.leaf (V.int 1)] from rfl, repC, repC]
      refine And.intro ⟨by omega, by omega, by rw [Int.toNat_natCast]; exact Nat.le_trans (show 1 * (M - N) ≤ 12 by omega) (by decide)⟩ ?_
      walk_at "go"
      refine And.intro (by rw [ints_len, ints_len, List.length_replicate, List.length_replicate]; exact Nat.le_trans (show w.h - (M - N) + (M - N) ≤ 13 by omega) (by decide)) ?_
      rw [intsT_frz, intsT_frz, show intsT (List.replicate (w.h - (M - N)) 0) ++ intsT (List.replicate (M - N) 1) = intsT ns' by rw [hns]; simp [intsT]]
      have hgn : GoodD (.list (ns'.map .int)) := good_ints (N := 1) (fun x hx => by
        rw [hns] at hx
        rcases List.mem_append.mp hx with hx | hx
        · rw [(List.mem_replicate.mp hx).2]; decide
        · rw [(List.mem_replicate.mp hx).2]; decide) (by decide) (by rw [hns, List.length_append, List.length_replicate, List.length_replicate]; omega)
      refine ⟨_, _, toP_lI true ns', toP_lI true ns', hgn.shaped, hgn.shaped, ?_⟩
      rw [hgn.refl]
      walk_at "go"
      refine ⟨bag, _, false, false, false, w, vs, had, frzL ((waitL w vs had w.s).map hdM), rfl, by rw [frzL_frzL, frz_hdM], hb, ⟨th, tl, hfn, hh, hl⟩, ok, vok, hd, fun bag' hb' => ?_⟩
      walk_at "go"
      exact q bag' hb'
theorem rd_law {ts : List T} {Q : T → List T → Prop} {E : Value → List (Str × V) → List T → Prop} (h : sp_law ts Q E) : t_law (bodyEnds [false] Q E) (startE 12 (frzP [false] ts)) := by
  obtain ⟨script, rfl, q⟩ := h
  show t_law _ [some _, none, none, none, none, none, none, none, none, none, none, none]
  walk_at "go"
  intro bag hb
  walk_at "go"
  refine Loop.rg (fun bag => [none, some (some bag), none, none, none, none, none, none, none, none, none, none]) (fun _ bag => IsBag bag) bag hb (by repeat' (first | exact Fits.e | refine Fits.n ?_ | refine Fits.s rfl ?_)) (fun i bag2 g hi hb2 hF R hR => ?_) fun bag2 g hb2 hF => ?_
  · (obtain ⟨ws_, rfl⟩ := Fits.fill (k := 0) hF; clear hF; dsimp only [fillQ, Nat.reduceAdd])
    walk_at "go"
    refine ⟨bag2, 8, rfl, hb2, by decide, .inl (by decide), fun r bag3 r0 r1 hb3 => ?_⟩
    walk_at "go"
    refine ifB_gen (x := 12) (y := 6) (F := fun m => xC (V.int m) _ _ _) (fun m hm => ?_)
    walk_at "go"
    refine ⟨bag3, m, rfl, hb3, by omega, .inl (by omega), fun r4 bag4 r40 r41 hb4 => ?_⟩
    walk_at "go"
    refine ifB_gen (x := 41) (y := 11) (F := fun m => xC (V.int m) _ _ _) (fun m2 hm2 => ?_)
    walk_at "go"
    refine ⟨bag4, m2, rfl, hb4, by omega, .inl (by omega), fun r5 bag5 r50 r51 hb5 => ?_⟩
    walk_at "go"
    obtain ⟨h, hh, hh12⟩ : ∃ h : Nat, 1 + r4 = h ∧ 1 ≤ h ∧ h ≤ 12 := ⟨(1 + r4).toNat, by omega, by omega, by omega⟩
    obtain ⟨s, rfl⟩ : ∃ s : Nat, r5 = s := ⟨r5.toNat, by omega⟩
    rw [hh]
    refine ⟨bag5, h, s, rfl, hb5, hh12.1, hh12.2, by omega, fun w τ bag7 hwh hws ok hnum hb7 => ?_⟩
    obtain ⟨th, tl, hτ, hHur, hLot⟩ := hnum
    have hfn := num_fr hτ
    walk_at "go"
    rw [hτ, hfn]
    walk_at "go"
    refine ⟨_, w, w.s, by rw [hwh], ⟨th, tl, hfn, hHur, hLot⟩, ok, ok.s, fun τl hland => ?_⟩
    walk_at "go"
    refine Loop.rg (fun z : T × List T => [none, some (some z.1), none, none, some (some (T.leaf (V.int h))), some (some (T.node false (Sh.dK numKs) [T.leaf (V.int w.s), th, T.leaf (V.int w.step), tl])), some (some (T.node true Sh.lst z.2)), some (some (frz τl)), none, none, none, none]) (fun i z => IsBag z.1 ∧ ∃ L : List (List Int × List Int), z.2 = L.map askT ∧ L.length = i ∧ ∀ x ∈ L, VOd w x.1 x.2 ∧ ∀ d ∈ x.2, d ≤ 30) (bag7, []) ⟨hb7, [], rfl, rfl, fun x hx => by cases hx⟩ (by repeat' (first | exact Fits.e | refine Fits.n ?_ | refine Fits.s rfl ?_)) (fun k z g hk hI hF2 R' hR' => ?_) fun z g hI hF2 => ?_
    · obtain ⟨bag, acc⟩ := z
      obtain ⟨hb8, L, rfl, hL, hLo⟩ := hI
      dsimp only at *
      (obtain ⟨ws_, rfl⟩ := Fits.fill (k := 0) hF2; clear hF2; dsimp only [fillQ, Nat.reduceAdd])
      walk_at "go"
      refine ⟨bag, h, rfl, hb8, hh12.1, hh12.2, fun vs bag8 hvl hv hb9 => ?_⟩
      walk_at "go"
      refine Lc.fit (List.range h) (fun k => .leaf (.int (0 + (k : Nat)))) (by rw [Int.toNat_natCast]; rfl) (fun bag : T => [none, some (some bag), none, none, some (some (.leaf (.int (h : Nat)))), some (some (T.node false (Sh.dK numKs) [T.leaf (V.int w.s), th, T.leaf (V.int w.step), tl])), some (some (T.node true Sh.lst (L.map askT))), some (some (frz τl)), none, none, none, none]) (fun i bag acc => IsBag bag ∧ ∃ M : List Int, acc = intsT M ∧ M.length = i ∧ ∀ x ∈ M, 0 ≤ x ∧ x ≤ 30) bag8 ⟨hb9, [], rfl, rfl, fun x hx => by cases hx⟩ (by repeat' (first | exact Fits.e | refine Fits.n ?_ | refine Fits.s rfl ?_)) (fun k2 x bag g acc hk2 hI hF3 R3 hR3 => ?_) fun bag g acc hI hF3 => ?_
      · obtain ⟨hb10, M, rfl, hM, hMo⟩ := hI
        have hk3 := (List.getElem?_eq_some_iff.mp hk2).1
        rw [List.length_range] at hk3
        (obtain ⟨ws_, rfl⟩ := Fits.fill (k := 0) hF3; clear hF3; dsimp only [fillQ, Nat.reduceAdd])
        walk_at "go"
        refine ⟨bag, true, _, rfl, hb10, by simp, by decide, fun t bag' ht hb' => ?_⟩
        obtain ⟨n, rfl, hn0, hn1⟩ : ∃ n : Int, t = .leaf (.int n) ∧ 0 ≤ n ∧ n ≤ 30 := by
          simp only [List.mem_cons, List.not_mem_nil, or_false] at ht
          rcases ht with rfl | rfl | rfl | rfl | rfl
          · exact ⟨0, rfl, by decide, by decide⟩
          · exact ⟨0, rfl, by decide, by decide⟩
          · exact ⟨1, rfl, by decide, by decide⟩
          · exact ⟨3, rfl, by decide, by decide⟩
          · exact ⟨30, rfl, by decide, by decide⟩
        walk_at "go"
        exact hR3 bag' _ _ ⟨hb', M ++ [n], by simp [intsT]; rfl, by rw [List.length_append, hM]; rfl, fun x hx => by
          rcases List.mem_append.mp hx with hx | hx
          · exact hMo x hx
          · rw [List.mem_singleton.mp hx]
            exact ⟨hn0, hn1⟩⟩ (by repeat' (first | exact Fits.e | refine Fits.n ?_ | refine Fits.s rfl ?_))
      · obtain ⟨hb10, M, rfl, hM, hMo⟩ := hI
        rw [List.length_range] at hM
        (obtain ⟨ws_, rfl⟩ := Fits.fill (k := 0) hF3; clear hF3; dsimp only [fillQ, Nat.reduceAdd])
        walk_at "go"
        refine hR' (bag, L.map askT ++ [askT (vs, M)]) _ ⟨hb10, L ++ [(vs, M)], by rw [List.map_append]; rfl, by rw [List.length_append, hL]; rfl, fun x hx => ?_⟩ (by repeat' (first | exact Fits.e | refine Fits.n ?_ | refine Fits.s rfl ?_))
        rcases List.mem_append.mp hx with hx | hx
        · exact hLo x hx
        · rw [List.mem_singleton.mp hx]
          exact ⟨⟨by rw [hvl, hwh], by rw [hM, hwh], hv, fun d h => by have := hMo d h; omega⟩, fun d h => (hMo d h).2⟩
    · obtain ⟨bag, acc⟩ := z
      obtain ⟨hb8, L, rfl, hL, hLo⟩ := hI
      dsimp only at *
      (obtain ⟨ws_, rfl⟩ := Fits.fill (k := 0) hF2; clear hF2; dsimp only [fillQ, Nat.reduceAdd])
      walk_at "go"
      rw [frz_askT, frz_askF, frz_askF, show cutA (L.map askF) none (some 1) = (L.take 1).map askF from by rw [List.map_take]; exact cut_take _ 1]
      refine And.intro (by rw [List.length_map, List.length_map, List.length_take, hL]; decide) ?_
      walk_at "go"
      rw [frz_askF, ← List.map_append, frz_askF]
      refine Loop.fit (L ++ L.take 1) askF rfl (fun bag : T => [none, some (some bag), none, none, none, some (some (T.node false (Sh.dK numKs) [T.leaf (V.int w.s), th, T.leaf (V.int w.step), tl])), none, some (some (frz τl)), none, none, none, none]) (fun _ bag => IsBag bag) bag hb8 (by repeat' (first | exact Fits.e | refine Fits.n ?_ | refine Fits.s rfl ?_)) (fun j x bag3 g hj hI hF3 R' hR' => ?_) fun bag3 g hI hF3 => ?_
      · (obtain ⟨ws_, rfl⟩ := Fits.fill (k := 0) hF3; clear hF3; dsimp only [fillQ, Nat.reduceAdd])
        have hx : VOd w x.1 x.2 ∧ ∀ d ∈ x.2, d ≤ 30 := by
          rcases List.mem_append.mp (List.mem_of_getElem? hj) with hm | hm
          · exact hLo x hm
          · exact hLo x (List.mem_of_mem_take hm)
        rw [show askF x = .node false .tup [.node false .lst (intsT x.1), .node false .lst (intsT x.2)] from rfl]
        walk_at "go"
        refine ⟨bag3, _, _, false, false, w, x.1, x.2, by simp only [Bool.false_eq_true, if_false, frz_frz, nf_node, intsT_frz]; rfl, hI, ?_, ⟨th, tl, hfn, hHur, hLot⟩, ok, by omega, hx.1, hx.2, fun bag4 hb4 => ?_⟩
        · obtain ⟨as, e⟩ := hland
          exact ⟨as, by rw [frz_frz]; exact e⟩
        walk_at "go"
        exact hR' bag4 _ hb4 (by repeat' (first | exact Fits.e | refine Fits.n ?_ | refine Fits.s rfl ?_))
      · (obtain ⟨ws_, rfl⟩ := Fits.fill (k := 0) hF3; clear hF3; dsimp only [fillQ, Nat.reduceAdd])
        walk_at "go"
        exact hR bag3 _ hI (by repeat' (first | exact Fits.e | refine Fits.n ?_ | refine Fits.s rfl ?_))
  · (obtain ⟨ws_, rfl⟩ := Fits.fill (k := 0) hF; clear hF; dsimp only [fillQ, Nat.reduceAdd])
    walk_at "go"
    exact q.2
end L72
set_option Elab.async false
set_option linter.all false
set_option maxRecDepth 100000
set_option maxHeartbeats 4000000
namespace L72
open PySem L2 DL
section
variable [Kls]
theorem ok_is_whole {P : Program} {w : World} {K : PySem.W.Frag} {mg : Str → Option Value} {base : Heap} (T : Txt K mg) : FnG P w K mg base 1 T.a_is_whole T.d_is_whole ["thing"] (spD K mg [false] sp_is_whole) := by
  refine fnD_of2 (N := N_is_whole) (k := 0) T.F_is_whole sc_is_whole rfl fun cdv A outer s H E hr hgd => ⟨t_is_whole, ?_, fun ts Q E hl h => rd_is_whole h⟩
  exact (dss_one (ds_ret (d_and (d_callB (n_isi .int) (by rfl) T.n_isinstance bo_isinstance (da_cons (d_var 0 (pv 0)) (da_cons (d_ty (by rfl) T.n_int bo_int) da_nil))) (d_one (d_not (d_callB (n_isi .bl) (by rfl) T.n_isinstance bo_isinstance (da_cons (d_var 0 (pv 0)) (da_cons (d_ty (by rfl) T.n_bool bo_bool) da_nil))))))))
theorem ok_divisor {P : Program} {w : World} {K : PySem.W.Frag} {mg : Str → Option Value} {base : Heap} (T : Txt K mg) : FnG P w K mg base 1 T.a_divisor T.d_divisor ["one", "other"] (spD K mg [false, false] sp_divisor) := by
  refine fnD_of2 (N := N_divisor) (k := 0) T.F_divisor sc_divisor rfl fun cdv A outer s H E hr hgd => ⟨t_divisor, ?_, fun ts Q E hl h => rd_divisor h⟩
  exact (dss_cons (ds_set (i := 0) false (sc_divisor).nd rfl (by first | exact Or.inl rfl | exact Or.inr rfl) (d_callB n_abs (by rfl) T.n_abs bo_abs (da_cons (d_var 0 (pv 0)) da_nil)) rfl)
(dss_cons (ds_set (i := 1) false (sc_divisor).nd rfl (by first | exact Or.inl rfl | exact Or.inr rfl) (d_callB n_abs (by rfl) T.n_abs bo_abs (da_cons (d_var 1 (pv 1)) da_nil)) rfl)
(dss_cons (ds_while (passes_of rfl) (dt_gt (d_var 1 (pv 1)) d_int)
 (dss_cons (ds_set (i := 2) false (sc_divisor).nd rfl (by first | exact Or.inl rfl | exact Or.inr rfl) (d_mod (d_var 0 (pv 0)) (d_var 1 (pv 1))) rfl)
(dss_cons (ds_set (i := 0) false (sc_divisor).nd rfl (by first | exact Or.inl rfl | exact Or.inr rfl) (d_var 1 (pv 1)) rfl)
(dss_one (ds_set (i := 1) false (sc_divisor).nd rfl (by first | exact Or.inl rfl | exact Or.inr rfl) (d_var 2 (pv 2)) rfl)))))
(dss_one (ds_ret (d_var 0 (pv 0)))))))
theorem ok_up {P : Program} {w : World} {K : PySem.W.Frag} {mg : Str → Option Value} {base : Heap} (T : Txt K mg) : FnG P w K mg base 1 T.a_up T.d_up ["top", "bottom"] (spD K mg [false, false] sp_up) := by
  refine fnD_of2 (N := N_up) (k := 0) T.F_up sc_up rfl fun cdv A outer s H E hr hgd => ⟨t_up, ?_, fun ts Q E hl h => rd_up h⟩
  exact (dss_cons (ds_asg (d_callB n_divmod (by rfl) T.n_divmod bo_divmod (da_cons (d_var 0 (pv 0)) (da_cons (d_var 1 (pv 1)) da_nil))) (dg_seq rfl (dgs_cons (dg_name false (i := 2) (sc_up).nd rfl (by first | exact Or.inl rfl | exact Or.inr rfl) rfl) (dgs_cons (dg_name false (i := 3) (sc_up).nd rfl (by first | exact Or.inl rfl | exact Or.inr rfl) rfl) dgs_nil))))
(dss_cons (ds_if (dt_gt (d_var 3 (pv 3)) d_int)
 (dss_one (ds_aug (i := 2) (sc_up).nd rfl (by first | exact Or.inl rfl | exact Or.inr rfl) d_int iop_add op2_I0 rfl))
 dss_nil)
(dss_one (ds_ret (d_var 2 (pv 2))))))
theorem ok_under {P : Program} {w : World} {K : PySem.W.Frag} {mg : Str → Option Value} {base : Heap} (T : Txt K mg) : FnG P w K mg base 1 T.a_under T.d_under ["one", "other"] (spD K mg [false, false] sp_under) := by
  refine fnD_of2 (N := N_under) (k := 0) T.F_under sc_under rfl fun cdv A outer s H E hr hgd => ⟨t_under, ?_, fun ts Q E hl h => rd_under h⟩
  exact (dss_one (ds_ret (d_lt (d_mul3 (d_ix (d_var 0 (pv 0)) d_int) (d_ix (d_var 1 (pv 1)) d_int)) (d_mul3 (d_ix (d_var 1 (pv 1)) d_int) (d_ix (d_var 0 (pv 0)) d_int)))))
theorem ok_evened_by {P : Program} {w : World} {K : PySem.W.Frag} {mg : Str → Option Value} {base : Heap} (T : Txt K mg) : FnG P w K mg base 1 T.a_evened_by T.d_evened_by ["land", "paper"] (spD K mg [false, false] sp_evened_by) := by
  refine fnD_of2 (N := N_evened_by) (k := 0) T.F_evened_by sc_evened_by rfl fun cdv A outer s H E hr hgd => ⟨t_evened_by, ?_, fun ts Q E hl h => rd_evened_by h⟩
  exact (dss_cons (ds_set (i := 2) true (sc_evened_by).nd rfl (by first | exact Or.inl rfl | exact Or.inr rfl) (d_mul3 (d_lst (da_cons d_int da_nil)) (d_sv (C0 := C_Land) (ix0 := ix_Land) (j := 1) (d_var 0 (pv 0)) T.cl_Land T.sl_Land_hands rfl)) rfl)
(dss_cons (ds_for (passes_of rfl) rfl (di_seq (d_ix (d_var 1 (pv 1)) d_int)) (dg_seq rfl (dgs_cons (dg_name false (i := 3) (sc_evened_by).nd rfl (by first | exact Or.inl rfl | exact Or.inr rfl) rfl) (dgs_cons (dg_name false (i := 4) (sc_evened_by).nd rfl (by first | exact Or.inl rfl | exact Or.inr rfl) rfl) dgs_nil)))
 (dss_one (ds_augI 2 (pv 2) (d_var 4 (pv 4)) d_int iop_add op2_I0)))
(dss_one (ds_ret (d_mov 2 (pv 2))))))
theorem ok_areas_of {P : Program} {w : World} {K : PySem.W.Frag} {mg : Str → Option Value} {base : Heap} (T : Txt K mg) : FnG P w K mg base 1 T.a_areas_of T.d_areas_of ["areas"] (spD K mg [false] sp_areas_of) := by
  refine fnD_of2 (N := N_areas_of) (k := 0) T.F_areas_of sc_areas_of rfl fun cdv A outer s H E hr hgd => ⟨t_areas_of, ?_, fun ts Q E hl h => rd_areas_of h⟩
  exact (dss_cons (ds_if ((dw_or (dt_not (dt_truth (d_callB (n_isiT [.lst, .tup]) (by rfl) T.n_isinstance bo_isinstance (da_cons (d_var 0 (pv 0)) (da_cons (d_tup (da_cons (d_ty (by rfl) T.n_list bo_list) (da_cons (d_ty (by rfl) T.n_tuple bo_tuple) da_nil))) da_nil))))) (dw_or1 (dt_not (dt_chain op_le op2_I0 op_le op2_I0 d_int (d_callB n_len (by rfl) T.n_len bo_len (da_cons (d_var 0 (pv 0)) da_nil)) (d_glob (by rfl) T.G_MOST_AREAS)))))).dt
 (dss_one (ds_raise (n := 12) rfl (takesN (takes_of rfl rfl rfl rfl)) PySem.F.excBase_ValueError T.q_NoLand T.g_NoLand rfl T.k_NoLand (raises_own T.b_NoLand T.t_NoLand) (by rfl)))
 dss_nil)
(dss_cons (ds_if (dt_not (dt_truth (d_callB (n_all rfl) (by rfl) T.n_all bo_all (da_cons (d_lc (own := [("way", 1)]) rfl (sc_areas_of).nd (di_seq (d_var 0 (pv 0))) (blkOk_by (N := N_areas_of) (sc := defScope s_areas_of) (by decide +kernel)) (fun _ _ _ _ _ => (dg_name false (i := 1) (sc_areas_of).nd rfl (by first | exact Or.inl rfl | exact Or.inr rfl) rfl)) (fun _ _ _ _ _ => dts_nil) (fun _ _ _ _ _ => (d_callB (n_isCT (C := C_Lists) (Ds := [(C_Pairs, false), (C_Lists, true)]) (by nofun) (fun d hd => by
 simp only [List.mem_cons, List.not_mem_nil, or_false] at hd
 rcases hd with rfl | rfl
 · exact T.isC_Lists_Pairs
 · exact T.isC_Lists_Lists)) (by rfl) T.n_isinstance bo_isinstance (da_cons (d_var 1 (pv 1)) (da_cons (d_tup (da_cons (d_cls (by rfl) T.gC_Pairs) (da_cons (d_cls (by rfl) T.gC_Lists) da_nil))) da_nil))))) da_nil))))
 (dss_one (ds_raise (n := 12) rfl (takesN (takes_of rfl rfl rfl rfl)) PySem.F.excBase_ValueError T.q_NoLand T.g_NoLand rfl T.k_NoLand (raises_own T.b_NoLand T.t_NoLand) (by rfl)))
 dss_nil)
(dss_cons (ds_if (dt_truth (d_callB (n_any rfl) (by rfl) T.n_any bo_any (da_cons (d_lc (own := [("way", 1)]) rfl (sc_areas_of).nd (di_seq (d_var 0 (pv 0))) (blkOk_by (N := N_areas_of) (sc := defScope s_areas_of) (by decide +kernel)) (fun _ _ _ _ _ => (dg_name false (i := 1) (sc_areas_of).nd rfl (by first | exact Or.inl rfl | exact Or.inr rfl) rfl)) (fun _ _ _ _ _ => dts_nil) (fun _ _ _ _ _ => (d_ne hr.units (d_fld (C0 := C_Lists) (ns0 := ns_Lists) (j := 0) (d_var 1 (pv 1)) T.cl_Lists T.na_Lists_hands (by decide +kernel)) (d_fld (C0 := C_Lists) (ns0 := ns_Lists) (j := 0) (d_ix (d_var 0 (pv 0)) d_int) T.cl_Lists T.na_Lists_hands (by decide +kernel))))) da_nil)))
 (dss_one (ds_raise (n := 12) rfl (takesN (takes_of rfl rfl rfl rfl)) PySem.F.excBase_ValueError T.q_NoLand T.g_NoLand rfl T.k_NoLand (raises_own T.b_NoLand T.t_NoLand) (by rfl)))
 dss_nil)
(dss_one (ds_ret (d_callTy n_list (by rfl) T.n_list bo_list (da_cons (d_var 0 (pv 0)) da_nil)))))))
theorem ok_Land_ahead {P : Program} {w : World} {K : PySem.W.Frag} {mg : Str → Option Value} {base : Heap} (T : Txt K mg) : FnG P w K mg base 1 T.a_Land_ahead T.d_Land_ahead ["self", "one", "other"] (spD K mg [false, false, false] sp_Land_ahead) := by
  refine fnD_of2 (N := N_Land_ahead) (k := 0) T.F_Land_ahead sc_Land_ahead rfl fun cdv A outer s H E hr hgd => ⟨t_Land_ahead, ?_, fun ts Q E hl h => rd_Land_ahead h⟩
  exact (dss_one (ds_ret (d_lt (d_index (d_sv (C0 := C_Land) (ix0 := ix_Land) (j := 2) (d_var 0 (pv 0)) T.cl_Land T.sl_Land_lots rfl) (d_var 1 (pv 1))) (d_index (d_sv (C0 := C_Land) (ix0 := ix_Land) (j := 2) (d_var 0 (pv 0)) T.cl_Land T.sl_Land_lots rfl) (d_var 2 (pv 2))))))
theorem ok__law_bag {P : Program} {w : World} {K : PySem.W.Frag} {mg : Str → Option Value} {base : Heap} (T : Txt K mg) : FnG P w K mg base 1 T.a__law_bag T.d__law_bag ["_law_script"] (spD K mg [false] sp__law_bag) := by
  refine fnD_of2 (N := N__law_bag) (k := 0) T.F__law_bag sc__law_bag rfl fun cdv A outer s H E hr hgd => ⟨t__law_bag, ?_, fun ts Q E hl h => rd__law_bag h⟩
  exact (dss_one (ds_ret (d_lst (da_cons d_int (da_cons d_int (da_cons d_int (da_cons (d_lc (own := [("_law_cell", 1)]) rfl (sc__law_bag).nd (di_seq (d_sliceA (d_var 0 (pv 0)) do_none (do_some d_int))) (blkOk_by (N := N__law_bag) (sc := defScope s__law_bag) (by decide +kernel)) (fun _ _ _ _ _ => (dg_name false (i := 1) (sc__law_bag).nd rfl (by first | exact Or.inl rfl | exact Or.inr rfl) rfl)) (fun _ _ _ _ _ => dts_nil) (fun _ _ _ _ _ => (d_callB n_abs (by rfl) T.n_abs bo_abs (da_cons (d_var 1 (pv 1)) da_nil)))) da_nil)))))))
theorem ok__law_take {P : Program} {w : World} {K : PySem.W.Frag} {mg : Str → Option Value} {base : Heap} (T : Txt K mg) : FnG P w K mg base 1 T.a__law_take T.d__law_take ["_law_bag_here", "_law_many_here"] (spD K mg [true, false] sp__law_take) := by
  refine fnD_of2 (N := N__law_take) (k := 0) T.F__law_take sc__law_take rfl fun cdv A outer s H E hr hgd => ⟨t__law_take, ?_, fun ts Q E hl h => rd__law_take h⟩
  exact (dss_cons (ds_if (dt_inT (u65 hr) (by with_unfolding_all rfl) (d_ixO 0 (pv 0) d_int) (d_tup (da_cons (d_lst da_nil) (da_cons (d_lst (da_cons d_int da_nil)) da_nil))))
 (dss_one (ds_ret (d_mul3 (d_sub (d_var 1 (pv 1)) d_int) (d_callB n_len (by rfl) T.n_len bo_len (da_cons (d_ixO 0 (pv 0) d_int) da_nil)))))
 dss_nil)
(dss_cons (ds_if (dt_eq hr.units (d_ixO 0 (pv 0) d_int) d_int)
 (dss_cons (ds_set (i := 4) false (sc__law_take).nd rfl (by first | exact Or.inl rfl | exact Or.inr rfl) d_int rfl)
(dss_cons (ds_if (dt_lt (d_ixO 0 (pv 0) d_int) (d_callB n_len (by rfl) T.n_len bo_len (da_cons (d_ixO 0 (pv 0) d_int) da_nil)))
 (dss_one (ds_set (i := 4) false (sc__law_take).nd rfl (by first | exact Or.inl rfl | exact Or.inr rfl) (d_ix (d_ixO 0 (pv 0) d_int) (d_ixO 0 (pv 0) d_int)) rfl))
 dss_nil)
(dss_cons (ds_augI 0 (pv 0) d_int d_int iop_add op2_I0)
(dss_cons (ds_if (dt_ge (d_var 4 (pv 4)) d_int)
 (dss_one (ds_asg (d_var 4 (pv 4)) (dg_setI 0 (pv 0) d_int)))
 dss_nil)
(dss_cons (ds_set (i := 5) false (sc__law_take).nd rfl (by first | exact Or.inl rfl | exact Or.inr rfl) (d_add4 (d_add4 (d_mul3 (d_ixO 0 (pv 0) d_int) d_int) (d_mod (d_callTy n_int2 (by rfl) T.n_int bo_int (da_cons (d_var 4 (pv 4)) da_nil)) d_int)) (d_mul3 d_int (d_ixO 0 (pv 0) d_int))) rfl)
(dss_one (ds_asg (d_mod (d_callTy n_int2 (by rfl) T.n_int bo_int (da_cons (d_var 5 (pv 5)) da_nil)) d_int) (dg_setI 0 (pv 0) d_int))))))))
 dss_nil)
(dss_cons (ds_if (dt_gt (d_ixO 0 (pv 0) d_int) d_int)
 (dss_cons (ds_set (i := 6) false (sc__law_take).nd rfl (by first | exact Or.inl rfl | exact Or.inr rfl) (d_mod (d_callTy n_int2 (by rfl) T.n_int bo_int (da_cons (d_ixO 0 (pv 0) d_int) da_nil)) (d_var 1 (pv 1))) rfl)
(dss_cons (ds_asg (d_div (d_callTy n_int2 (by rfl) T.n_int bo_int (da_cons (d_ixO 0 (pv 0) d_int) da_nil)) (d_var 1 (pv 1))) (dg_setI 0 (pv 0) d_int))
(dss_one (ds_ret (d_var 6 (pv 6))))))
 dss_nil)
(dss_cons (ds_set (i := 2) false (sc__law_take).nd rfl (by first | exact Or.inl rfl | exact Or.inr rfl) (d_mod (d_callTy n_int2 (by rfl) T.n_int bo_int (da_cons (d_mul3 (d_add4 (d_ixO 0 (pv 0) d_int) d_int) d_int) da_nil)) d_int) rfl)
(dss_cons (ds_set (i := 3) false (sc__law_take).nd rfl (by first | exact Or.inl rfl | exact Or.inr rfl) (d_mod (d_callTy n_int2 (by rfl) T.n_int bo_int (da_cons (d_mul3 (d_mod (d_callTy n_int2 (by rfl) T.n_int bo_int (da_cons (d_mul3 (d_var 2 (pv 2)) (d_var 2 (pv 2))) da_nil)) d_int) d_int) da_nil)) d_int) rfl)
(dss_one (ds_ret (d_mod (d_callTy n_int2 (by rfl) T.n_int bo_int (da_cons (d_div (d_var 3 (pv 3)) d_int) da_nil)) (d_var 1 (pv 1))))))))))
theorem ok__law_alike {P : Program} {w : World} {K : PySem.W.Frag} {mg : Str → Option Value} {base : Heap} (T : Txt K mg) : FnG P w K mg base 1 T.a__law_alike T.d__law_alike ["_law_found", "_law_due_here"] (spD K mg [false, false] sp__law_alike) := by
  refine fnD_of2 (N := N__law_alike) (k := 0) T.F__law_alike sc__law_alike rfl fun cdv A outer s H E hr hgd => ⟨t__law_alike, ?_, fun ts Q E hl h => rd__law_alike h⟩
  exact (dss_one (ds_ret (d_and (d_eq hr.units (d_var 0 (pv 0)) (d_var 1 (pv 1))) (d_one (d_eq hr.units (d_callB (n_repr2 hgd hr.units) (by rfl) T.n_repr bo_repr (da_cons (d_var 0 (pv 0)) da_nil)) (d_callB (n_repr2 hgd hr.units) (by rfl) T.n_repr bo_repr (da_cons (d_var 1 (pv 1)) da_nil)))))))
theorem ok__law_need {P : Program} {w : World} {K : PySem.W.Frag} {mg : Str → Option Value} {base : Heap} (T : Txt K mg) : FnG P w K mg base 1 T.a__law_need T.d__law_need ["_law_numbers_here", "_law_ballots"] (spD K mg [false, false] sp__law_need) := by
  refine fnD_of2 (N := N__law_need) (k := 0) T.F__law_need sc__law_need rfl fun cdv A outer s H E hr hgd => ⟨t__law_need, ?_, fun ts Q E hl h => rd__law_need h⟩
  exact (dss_cons (ds_asg (d_orG (d_dget (du1 hr.units) (d_var 0 (pv 0)) d_str) (d_one (d_tup (da_cons d_int (da_cons d_int da_nil))))) (dg_seq rfl (dgs_cons (dg_name false (i := 2) (sc__law_need).nd rfl (by first | exact Or.inl rfl | exact Or.inr rfl) rfl) (dgs_cons (dg_name false (i := 3) (sc__law_need).nd rfl (by first | exact Or.inl rfl | exact Or.inr rfl) rfl) dgs_nil))))
(dss_one (ds_ret (d_callB (n_max2 rfl) (by rfl) T.n_max bo_max (da_cons d_int (da_cons (d_div (d_sub (d_add4 (d_mul3 (d_var 2 (pv 2)) (d_var 1 (pv 1))) (d_var 3 (pv 3))) d_int) (d_var 3 (pv 3))) da_nil))))))
theorem ok__law_part {P : Program} {w : World} {K : PySem.W.Frag} {mg : Str → Option Value} {base : Heap} (T : Txt K mg) : FnG P w K mg base 1 T.a__law_part T.d__law_part ["_law_top", "_law_bottom"] (spD K mg [false, false] sp__law_part) := by
  refine fnD_of2 (N := N__law_part) (k := 0) T.F__law_part sc__law_part rfl fun cdv A outer s H E hr hgd => ⟨t__law_part, ?_, fun ts Q E hl h => rd__law_part h⟩
  exact (dss_cons (ds_par (i := 2) (j := 3) rfl (sc__law_part).nd rfl rfl (by decide) rfl rfl rfl rfl (da_cons (d_var 0 (pv 0)) (da_cons (d_var 1 (pv 1)) da_nil)) (by rfl))
(dss_cons (ds_for (passes_of rfl) rfl (di_range1 (by rfl) T.n_range (da_cons d_int da_nil)) (dg_name false (i := 4) (sc__law_part).nd rfl (by first | exact Or.inl rfl | exact Or.inr rfl) rfl)
 (dss_cons (ds_if (dt_eq hr.units (d_var 3 (pv 3)) d_int)
 (dss_one ds_break)
 dss_nil)
(dss_one (ds_par (i := 2) (j := 3) rfl (sc__law_part).nd rfl rfl (by decide) rfl rfl rfl rfl (da_cons (d_var 3 (pv 3)) (da_cons (d_mod (d_callTy n_int2 (by rfl) T.n_int bo_int (da_cons (d_var 2 (pv 2)) da_nil)) (d_var 3 (pv 3))) da_nil)) (by rfl)))))
(dss_one (ds_ret (d_tup (da_cons (d_div (d_var 0 (pv 0)) (d_var 2 (pv 2))) (da_cons (d_div (d_var 1 (pv 1)) (d_var 2 (pv 2))) da_nil)))))))
theorem ok__law_order {P : Program} {w : World} {K : PySem.W.Frag} {mg : Str → Option Value} {base : Heap} (T : Txt K mg) : FnG P w K mg base 1 T.a__law_order T.d__law_order ["_law_numbers_here", "_law_hands"] (spD K mg [false, false] sp__law_order) := by
  refine fnD_of2 (N := N__law_order) (k := 0) T.F__law_order sc__law_order rfl fun cdv A outer s H E hr hgd => ⟨t__law_order, ?_, fun ts Q E hl h => rd__law_order h⟩
  exact (dss_one (ds_ret (d_ite (dt_is (d_dget (du1 hr.units) (d_var 0 (pv 0)) d_str) d_non) (d_listRg rfl (by rfl) T.n_list (dr_1 (by rfl) T.n_range (d_var 1 (pv 1)))) (d_dget (du1 hr.units) (d_var 0 (pv 0)) d_str))))
theorem ok_fraction {P : Program} {w : World} {K : PySem.W.Frag} {mg : Str → Option Value} {base : Heap} (T : Txt K mg) : FnG P w K mg base 2 T.a_fraction T.d_fraction ["top", "bottom"] (spD K mg [false, false] sp_fraction) := by
  refine fnD_of2 (N := N_fraction) (k := 1) T.F_fraction sc_fraction rfl fun cdv A outer s H E hr hgd => ⟨t_fraction, ?_, fun ts Q E hl h => rd_fraction h⟩
  exact (dss_cons (ds_if ((dw_or (dt_not (dt_truth (d_call (ok_is_whole T) mono_is_whole hr hgd (by rfl) T.g_is_whole T.F_is_whole.kp T.b_is_whole (takesN (takes_of rfl rfl rfl rfl)) (da_cons (d_var 0 (pv 0)) da_nil)))) (dw_or1 (dt_not (dt_truth (d_call (ok_is_whole T) mono_is_whole hr hgd (by rfl) T.g_is_whole T.F_is_whole.kp T.b_is_whole (takesN (takes_of rfl rfl rfl rfl)) (da_cons (d_var 1 (pv 1)) da_nil))))))).dt
 (dss_one (ds_raise (n := 1) rfl (takesN (takes_of rfl rfl rfl rfl)) PySem.F.excBase_ValueError T.q_NoNumber T.g_NoNumber rfl T.k_NoNumber (raises_own T.b_NoNumber T.t_NoNumber) (by rfl)))
 dss_nil)
(dss_cons (ds_if (dt_eq hr.units (d_var 1 (pv 1)) d_int)
 (dss_one (ds_raise (n := 1) rfl (takesN (takes_of rfl rfl rfl rfl)) PySem.F.excBase_ValueError T.q_NoNumber T.g_NoNumber rfl T.k_NoNumber (raises_own T.b_NoNumber T.t_NoNumber) (by rfl)))
 dss_nil)
(dss_cons (ds_set (i := 2) false (sc_fraction).nd rfl (by first | exact Or.inl rfl | exact Or.inr rfl) (d_call (ok_divisor T) mono_divisor hr hgd (by rfl) T.g_divisor T.F_divisor.kp T.b_divisor (takesN (takes_of rfl rfl rfl rfl)) (da_cons (d_var 0 (pv 0)) (da_cons (d_var 1 (pv 1)) da_nil))) rfl)
(dss_cons (ds_if (dt_lt (d_var 1 (pv 1)) d_int)
 (dss_one (ds_set (i := 2) false (sc_fraction).nd rfl (by first | exact Or.inl rfl | exact Or.inr rfl) (d_neg (d_var 2 (pv 2))) rfl))
 dss_nil)
(dss_one (ds_ret (d_tup (da_cons (d_divS (d_var 0 (pv 0)) (d_var 2 (pv 2))) (da_cons (d_divS (d_var 1 (pv 1)) (d_var 2 (pv 2))) da_nil)))))))))
theorem ok_lots_of {P : Program} {w : World} {K : PySem.W.Frag} {mg : Str → Option Value} {base : Heap} (T : Txt K mg) : FnG P w K mg base 2 T.a_lots_of T.d_lots_of ["hands", "lots"] (spD K mg [false, false] sp_lots_of) := by
  refine fnD_of2 (N := N_lots_of) (k := 1) T.F_lots_of sc_lots_of rfl fun cdv A outer s H E hr hgd => ⟨t_lots_of, ?_, fun ts Q E hl h => rd_lots_of h⟩
  exact (dss_cons (ds_if (dt_is (d_var 1 (pv 1)) d_non)
 (dss_one (ds_ret (d_listRg rfl (by rfl) T.n_list (dr_1 (by rfl) T.n_range (d_var 0 (pv 0))))))
 dss_nil)
(dss_cons (ds_if ((dw_or (dt_not (dt_truth (d_callB (n_isi .lst) (by rfl) T.n_isinstance bo_isinstance (da_cons (d_var 1 (pv 1)) (da_cons (d_ty (by rfl) T.n_list bo_list) da_nil))))) (dw_or1 (dt_ne hr.units (d_callB n_len (by rfl) T.n_len bo_len (da_cons (d_var 1 (pv 1)) da_nil)) (d_var 0 (pv 0)))))).dt
 (dss_one (ds_raise (n := 8) rfl (takesN (takes_of rfl rfl rfl rfl)) PySem.F.excBase_ValueError T.q_NoWay T.g_NoWay rfl T.k_NoWay (raises_own T.b_NoWay T.t_NoWay) (by rfl)))
 dss_nil)
(dss_cons (ds_for (passes_of rfl) rfl (di_seq (d_var 1 (pv 1))) (dg_name false (i := 2) (sc_lots_of).nd rfl (by first | exact Or.inl rfl | exact Or.inr rfl) rfl)
 (dss_one (ds_if (dt_not (dt_truth (d_call (ok_is_whole T) mono_is_whole hr hgd (by rfl) T.g_is_whole T.F_is_whole.kp T.b_is_whole (takesN (takes_of rfl rfl rfl rfl)) (da_cons (d_var 2 (pv 2)) da_nil))))
 (dss_one (ds_raise (n := 8) rfl (takesN (takes_of rfl rfl rfl rfl)) PySem.F.excBase_ValueError T.q_NoWay T.g_NoWay rfl T.k_NoWay (raises_own T.b_NoWay T.t_NoWay) (by rfl)))
 dss_nil)))
(dss_cons (ds_if (dt_ne hr.units (d_callB n_sortedI (by rfl) T.n_sorted bo_sorted (da_cons (d_var 1 (pv 1)) da_nil)) (d_listRg rfl (by rfl) T.n_list (dr_1 (by rfl) T.n_range (d_var 0 (pv 0)))))
 (dss_one (ds_raise (n := 8) rfl (takesN (takes_of rfl rfl rfl rfl)) PySem.F.excBase_ValueError T.q_NoWay T.g_NoWay rfl T.k_NoWay (raises_own T.b_NoWay T.t_NoWay) (by rfl)))
 dss_nil)
(dss_one (ds_ret (d_callTy n_list (by rfl) T.n_list bo_list (da_cons (d_var 1 (pv 1)) da_nil))))))))
theorem ok_hurdle_of {P : Program} {w : World} {K : PySem.W.Frag} {mg : Str → Option Value} {base : Heap} (T : Txt K mg) : FnG P w K mg base 2 T.a_hurdle_of T.d_hurdle_of ["hurdle"] (spD K mg [false] sp_hurdle_of) := by
  refine fnD_of2 (N := N_hurdle_of) (k := 1) T.F_hurdle_of sc_hurdle_of rfl fun cdv A outer s H E hr hgd => ⟨t_hurdle_of, ?_, fun ts Q E hl h => rd_hurdle_of h⟩
  exact (dss_cons (ds_if (dt_is (d_var 0 (pv 0)) d_non)
 (dss_one (ds_ret (d_tup (da_cons d_int (da_cons d_int da_nil)))))
 dss_nil)
(dss_cons (ds_if ((dw_or (dt_not (dt_truth (d_callB (n_isi .tup) (by rfl) T.n_isinstance bo_isinstance (da_cons (d_var 0 (pv 0)) (da_cons (d_ty (by rfl) T.n_tuple bo_tuple) da_nil))))) (dw_or1 (dt_ne hr.units (d_callB n_len (by rfl) T.n_len bo_len (da_cons (d_var 0 (pv 0)) da_nil)) d_int)))).dt
 (dss_one (ds_raise (n := 8) rfl (takesN (takes_of rfl rfl rfl rfl)) PySem.F.excBase_ValueError T.q_NoWay T.g_NoWay rfl T.k_NoWay (raises_own T.b_NoWay T.t_NoWay) (by rfl)))
 dss_nil)
(dss_cons (ds_asg (d_var 0 (pv 0)) (dg_seq rfl (dgs_cons (dg_name false (i := 1) (sc_hurdle_of).nd rfl (by first | exact Or.inl rfl | exact Or.inr rfl) rfl) (dgs_cons (dg_name false (i := 2) (sc_hurdle_of).nd rfl (by first | exact Or.inl rfl | exact Or.inr rfl) rfl) dgs_nil))))
(dss_cons (ds_if ((dw_or (dt_not (dt_truth (d_call (ok_is_whole T) mono_is_whole hr hgd (by rfl) T.g_is_whole T.F_is_whole.kp T.b_is_whole (takesN (takes_of rfl rfl rfl rfl)) (da_cons (d_var 1 (pv 1)) da_nil)))) (dw_or1 (dt_not (dt_truth (d_call (ok_is_whole T) mono_is_whole hr hgd (by rfl) T.g_is_whole T.F_is_whole.kp T.b_is_whole (takesN (takes_of rfl rfl rfl rfl)) (da_cons (d_var 2 (pv 2)) da_nil))))))).dt
 (dss_one (ds_raise (n := 8) rfl (takesN (takes_of rfl rfl rfl rfl)) PySem.F.excBase_ValueError T.q_NoWay T.g_NoWay rfl T.k_NoWay (raises_own T.b_NoWay T.t_NoWay) (by rfl)))
 dss_nil)
(dss_cons (ds_if ((dw_or (dt_lt (d_var 2 (pv 2)) d_int) (dw_or (dt_not (dt_chain op_le op2_I0 op_le op2_I0 d_int (d_var 1 (pv 1)) (d_var 2 (pv 2)))) (dw_or1 (dt_ne hr.units (d_call (ok_divisor T) mono_divisor hr hgd (by rfl) T.g_divisor T.F_divisor.kp T.b_divisor (takesN (takes_of rfl rfl rfl rfl)) (da_cons (d_var 1 (pv 1)) (da_cons (d_var 2 (pv 2)) da_nil))) d_int))))).dt
 (dss_one (ds_raise (n := 8) rfl (takesN (takes_of rfl rfl rfl rfl)) PySem.F.excBase_ValueError T.q_NoWay T.g_NoWay rfl T.k_NoWay (raises_own T.b_NoWay T.t_NoWay) (by rfl)))
 dss_nil)
(dss_one (ds_ret (d_var 0 (pv 0)))))))))
theorem ok_goes_ahead {P : Program} {w : World} {K : PySem.W.Frag} {mg : Str → Option Value} {base : Heap} (T : Txt K mg) : FnG P w K mg base 2 T.a_goes_ahead T.d_goes_ahead ["way", "marks", "one", "other"] (spD K mg [false, false, false, false] sp_goes_ahead) := by
  refine fnD_of2 (N := N_goes_ahead) (k := 1) T.F_goes_ahead sc_goes_ahead rfl fun cdv A outer s H E hr hgd => ⟨t_goes_ahead, ?_, fun ts Q E hl h => rd_goes_ahead h⟩
  exact (dss_cons (ds_if (dt_truth (d_call (ok_under T) mono_under hr hgd (by rfl) T.g_under T.F_under.kp T.b_under (takesN (takes_of rfl rfl rfl rfl)) (da_cons (d_ix (d_var 1 (pv 1)) (d_var 3 (pv 3))) (da_cons (d_ix (d_var 1 (pv 1)) (d_var 2 (pv 2))) da_nil))))
 (dss_one (ds_ret d_bl))
 dss_nil)
(dss_one (ds_ret (d_and (d_eq hr.units (d_ix (d_var 1 (pv 1)) (d_var 3 (pv 3))) (d_ix (d_var 1 (pv 1)) (d_var 2 (pv 2)))) (d_one (d_methVS (ix0 := ix_Land) (dvs := []) (d_var 0 (pv 0)) ⟨⟨_, _, _, (ok_Land_ahead T), T.m_Land_Land_ahead, ⟨[], .nil, T.b_Land_ahead⟩⟩, T.cl_Land, mono_Land_ahead, hr, hgd, (takesN (takes_of rfl rfl rfl rfl))⟩ (da_cons (d_var 2 (pv 2)) (da_cons (d_var 3 (pv 3)) da_nil))))))))
theorem ok_goes_first {P : Program} {w : World} {K : PySem.W.Frag} {mg : Str → Option Value} {base : Heap} (T : Txt K mg) : FnG P w K mg base 2 T.a_goes_first T.d_goes_first ["land", "one", "other"] (spD K mg [false, false, false] sp_goes_first) := by
  refine fnD_of2 (N := N_goes_first) (k := 1) T.F_goes_first sc_goes_first rfl fun cdv A outer s H E hr hgd => ⟨t_goes_first, ?_, fun ts Q E hl h => rd_goes_first h⟩
  exact (dss_cons (ds_if (dt_eq hr.units (d_ix (d_var 1 (pv 1)) d_int) (d_ix (d_var 2 (pv 2)) d_int))
 (dss_one (ds_ret (d_methVS (ix0 := ix_Land) (dvs := []) (d_var 0 (pv 0)) ⟨⟨_, _, _, (ok_Land_ahead T), T.m_Land_Land_ahead, ⟨[], .nil, T.b_Land_ahead⟩⟩, T.cl_Land, mono_Land_ahead, hr, hgd, (takesN (takes_of rfl rfl rfl rfl))⟩ (da_cons (d_ix (d_var 1 (pv 1)) d_int) (da_cons (d_ix (d_var 2 (pv 2)) d_int) da_nil)))))
 dss_nil)
(dss_one (ds_ret (d_call (ok_under T) mono_under hr hgd (by rfl) T.g_under T.F_under.kp T.b_under (takesN (takes_of rfl rfl rfl rfl)) (da_cons (d_ix (d_var 2 (pv 2)) d_int) (da_cons (d_ix (d_var 1 (pv 1)) d_int) da_nil))))))
theorem ok_is_count {P : Program} {w : World} {K : PySem.W.Frag} {mg : Str → Option Value} {base : Heap} (T : Txt K mg) : FnG P w K mg base 2 T.a_is_count T.d_is_count ["thing", "most"] (spD K mg [false, false] sp_is_count) := by
  refine fnD_of2 (N := N_is_count) (k := 1) T.F_is_count sc_is_count rfl fun cdv A outer s H E hr hgd => ⟨t_is_count, ?_, fun ts Q E hl h => rd_is_count h⟩
  exact (dss_one (ds_ret (d_and (d_call (ok_is_whole T) mono_is_whole hr hgd (by rfl) T.g_is_whole T.F_is_whole.kp T.b_is_whole (takesN (takes_of rfl rfl rfl rfl)) (da_cons (d_var 0 (pv 0)) da_nil)) (d_one (d_chain op_le op2_I0 op_le op2_I0 d_int (d_var 0 (pv 0)) (d_var 1 (pv 1)))))))
theorem ok_Land_least_votes {P : Program} {w : World} {K : PySem.W.Frag} {mg : Str → Option Value} {base : Heap} (T : Txt K mg) : FnG P w K mg base 2 T.a_Land_least_votes T.d_Land_least_votes ["self", "ballots"] (spD K mg [false, false] sp_Land_least_votes) := by
  refine fnD_of2 (N := N_Land_least_votes) (k := 1) T.F_Land_least_votes sc_Land_least_votes rfl fun cdv A outer s H E hr hgd => ⟨t_Land_least_votes, ?_, fun ts Q E hl h => rd_Land_least_votes h⟩
  exact (dss_one (ds_ret (d_callB (n_max2 rfl) (by rfl) T.n_max bo_max (da_cons d_int (da_cons (d_call (ok_up T) mono_up hr hgd (by rfl) T.g_up T.F_up.kp T.b_up (takesN (takes_of rfl rfl rfl rfl)) (da_cons (d_mul3 (d_ix (d_sv (C0 := C_Land) (ix0 := ix_Land) (j := 3) (d_var 0 (pv 0)) T.cl_Land T.sl_Land_hurdle rfl) d_int) (d_var 1 (pv 1))) (da_cons (d_ix (d_sv (C0 := C_Land) (ix0 := ix_Land) (j := 3) (d_var 0 (pv 0)) T.cl_Land T.sl_Land_hurdle rfl) d_int) da_nil))) da_nil)))))
theorem ok__law_one {P : Program} {w : World} {K : PySem.W.Frag} {mg : Str → Option Value} {base : Heap} (T : Txt K mg) : FnG P w K mg base 2 T.a__law_one T.d__law_one ["_law_bag_here", "_law_menu"] (spD K mg [true, false] sp__law_one) := by
  refine fnD_of2 (N := N__law_one) (k := 1) T.F__law_one sc__law_one rfl fun cdv A outer s H E hr hgd => ⟨t__law_one, ?_, fun ts Q E hl h => rd__law_one h⟩
  exact (dss_one (ds_ret (d_ix (d_var 1 (pv 1)) (d_call (ok__law_take T) mono__law_take hr hgd (by rfl) T.g__law_take T.F__law_take.kp T.b__law_take (takesN (takes_of rfl rfl rfl rfl)) (da_late 0 (pv 0) (da_cons (d_callB n_len (by rfl) T.n_len bo_len (da_cons (d_var 1 (pv 1)) da_nil)) da_nil))))))
theorem ok__law_mixed {P : Program} {w : World} {K : PySem.W.Frag} {mg : Str → Option Value} {base : Heap} (T : Txt K mg) : FnG P w K mg base 2 T.a__law_mixed T.d__law_mixed ["_law_bag_here", "_law_things"] (spD K mg [true, false] sp__law_mixed) := by
  refine fnD_of2 (N := N__law_mixed) (k := 1) T.F__law_mixed sc__law_mixed rfl fun cdv A outer s H E hr hgd => ⟨t__law_mixed, ?_, fun ts Q E hl h => rd__law_mixed h⟩
  exact (dss_cons (ds_set (i := 2) true (sc__law_mixed).nd rfl (by first | exact Or.inl rfl | exact Or.inr rfl) (d_lst da_nil) rfl)
(dss_cons (ds_for (passes_of rfl) rfl (di_seq (d_var 1 (pv 1))) (dg_name false (i := 3) (sc__law_mixed).nd rfl (by first | exact Or.inl rfl | exact Or.inr rfl) rfl)
 (dss_one (ds_expr (d_ins 2 (pv 2) (d_call (ok__law_take T) mono__law_take hr hgd (by rfl) T.g__law_take T.F__law_take.kp T.b__law_take (takesN (takes_of rfl rfl rfl rfl)) (da_late 0 (pv 0) (da_cons (d_bor (d_add4 (d_callB n_len (by rfl) T.n_len bo_len (da_cons (d_var 2 (pv 2)) da_nil)) d_int)) da_nil))) (d_var 3 (pv 3))))))
(dss_one (ds_ret (d_mov 2 (pv 2))))))
theorem ok__law_many {P : Program} {w : World} {K : PySem.W.Frag} {mg : Str → Option Value} {base : Heap} (T : Txt K mg) : FnG P w K mg base 2 T.a__law_many T.d__law_many ["_law_bag_here", "_law_hands"] (spD K mg [true, false] sp__law_many) := by
  refine fnD_of2 (N := N__law_many) (k := 1) T.F__law_many sc__law_many rfl fun cdv A outer s H E hr hgd => ⟨t__law_many, ?_, fun ts Q E hl h => rd__law_many h⟩
  exact (dss_cons (ds_set (i := 2) false (sc__law_many).nd rfl (by first | exact Or.inl rfl | exact Or.inr rfl) (d_ix (d_lst (da_cons d_int (da_cons d_int (da_cons d_int (da_cons (d_pow d_int d_int) da_nil))))) (d_call (ok__law_take T) mono__law_take hr hgd (by rfl) T.g__law_take T.F__law_take.kp T.b__law_take (takesN (takes_of rfl rfl rfl rfl)) (da_late 0 (pv 0) (da_cons d_int da_nil)))) rfl)
(dss_one (ds_ret (d_lc (own := [("_law_hand", 3)]) rfl (sc__law_many).nd (di_range1 (by rfl) T.n_range (da_cons (d_add4 (d_var 1 (pv 1)) d_int) da_nil)) (blkOk_by (N := N__law_many) (sc := defScope s__law_many) (by decide +kernel)) (fun _ _ _ _ _ => (dg_name false (i := 3) (sc__law_many).nd rfl (by first | exact Or.inl rfl | exact Or.inr rfl) rfl)) (fun _ _ _ _ _ => dts_nil) (fun _ _ _ _ _ => (d_call (ok__law_take T) mono__law_take hr hgd (by rfl) T.g__law_take T.F__law_take.kp T.b__law_take DL.takes0 (da_late 0 (pv 0) (da_cons (d_var 2 (pv 2)) da_nil))))))))
theorem ok__law_due {P : Program} {w : World} {K : PySem.W.Frag} {mg : Str → Option Value} {base : Heap} (T : Txt K mg) : FnG P w K mg base 2 T.a__law_due T.d__law_due ["_law_own", "_law_votes", "_law_had"] (spD K mg [false, false, false] sp__law_due) := by
  refine fnD_of2 (N := N__law_due) (k := 1) T.F__law_due sc__law_due rfl fun cdv A outer s H E hr hgd => ⟨t__law_due, ?_, fun ts Q E hl h => rd__law_due h⟩
  exact (dss_cons (ds_asg (d_tup (da_cons (d_callB n_len (by rfl) T.n_len bo_len (da_cons (d_var 2 (pv 2)) da_nil)) (da_cons (d_dget (du1 hr.units) (d_var 0 (pv 0)) d_str) (da_cons (d_call (ok__law_order T) mono__law_order hr hgd (by rfl) T.g__law_order T.F__law_order.kp T.b__law_order (takesN (takes_of rfl rfl rfl rfl)) (da_cons (d_var 0 (pv 0)) (da_cons (d_callB n_len (by rfl) T.n_len bo_len (da_cons (d_var 2 (pv 2)) da_nil)) da_nil))) da_nil)))) (dg_seq rfl (dgs_cons (dg_name false (i := 3) (sc__law_due).nd rfl (by first | exact Or.inl rfl | exact Or.inr rfl) rfl) (dgs_cons (dg_name false (i := 4) (sc__law_due).nd rfl (by first | exact Or.inl rfl | exact Or.inr rfl) rfl) (dgs_cons (dg_name false (i := 5) (sc__law_due).nd rfl (by first | exact Or.inl rfl | exact Or.inr rfl) rfl) dgs_nil)))))
(dss_cons (ds_asg (d_tup (da_cons (d_call (ok__law_need T) mono__law_need hr hgd (by rfl) T.g__law_need T.F__law_need.kp T.b__law_need (takesN (takes_of rfl rfl rfl rfl)) (da_cons (d_var 0 (pv 0)) (da_cons (d_callB (n_sum rfl) (by rfl) T.n_sum bo_sum (da_cons (d_var 1 (pv 1)) da_nil)) da_nil))) (da_cons (d_lst da_nil) (da_cons d_int da_nil)))) (dg_seqO rfl (dgs_cons (dg_name false (i := 6) (sc__law_due).nd rfl (by first | exact Or.inl rfl | exact Or.inr rfl) rfl) (dgs_cons (dg_name true (i := 7) (sc__law_due).nd rfl (by first | exact Or.inl rfl | exact Or.inr rfl) rfl) (dgs_cons (dg_name false (i := 8) (sc__law_due).nd rfl (by first | exact Or.inl rfl | exact Or.inr rfl) rfl) dgs_nil)))))
(dss_cons (ds_for (passes_of rfl) rfl (di_range1 (by rfl) T.n_range (da_cons (d_var 3 (pv 3)) da_nil)) (dg_name false (i := 9) (sc__law_due).nd rfl (by first | exact Or.inl rfl | exact Or.inr rfl) rfl)
 (dss_one (ds_for (passes_of rfl) rfl (di_range1 (by rfl) T.n_range (da_cons (d_mul3 (d_dget (du1 hr.units) (d_var 0 (pv 0)) d_str) (d_callTy n_int2 (by rfl) T.n_int bo_int (da_cons (d_ge (d_ix (d_var 1 (pv 1)) (d_var 9 (pv 9))) (d_var 6 (pv 6))) da_nil))) da_nil)) (dg_name false (i := 13) (sc__law_due).nd rfl (by first | exact Or.inl rfl | exact Or.inr rfl) rfl)
 (dss_one (ds_expr (d_app 7 (pv 7) (d_tup (da_cons (d_var 9 (pv 9)) (da_cons (d_add4 d_int (d_mul3 (d_var 4 (pv 4)) (d_add4 (d_ix (d_var 2 (pv 2)) (d_var 9 (pv 9))) (d_var 13 (pv 13))))) da_nil)))))))))
(dss_cons (ds_for (passes_of rfl) rfl (di_seq (d_bor (d_sortSetB hr.units (by rfl) T.n_sorted (by rfl) T.n_set (d_lc (own := [("_law_hand", 9), ("_law_bottom", 10)]) rfl (sc__law_due).nd (di_seq (d_var 7 (pv 7))) (blkOk_by (N := N__law_due) (sc := defScope s__law_due) (by decide +kernel)) (fun _ _ _ _ _ => (dg_seq rfl (dgs_cons (dg_name false (i := 9) (sc__law_due).nd rfl (by first | exact Or.inl rfl | exact Or.inr rfl) rfl) (dgs_cons (dg_name false (i := 10) (sc__law_due).nd rfl (by first | exact Or.inl rfl | exact Or.inr rfl) rfl) dgs_nil)))) (fun _ _ _ _ _ => dts_nil) (fun _ _ _ _ _ => (d_var 10 (pv 10))))))) (dg_name false (i := 10) (sc__law_due).nd rfl (by first | exact Or.inl rfl | exact Or.inr rfl) rfl)
 (dss_one (ds_set (i := 8) false (sc__law_due).nd rfl (by first | exact Or.inl rfl | exact Or.inr rfl) (d_mul3 (d_var 8 (pv 8)) (d_var 10 (pv 10))) rfl)))
(dss_cons (ds_setLc (i := 11) (own := [("_law_hand", 9), ("_law_bottom", 10)]) false rfl (sc__law_due).nd rfl rfl rfl (sw_true rfl rfl rfl (by decide +kernel)) (di_seq (d_frz 7 (pv 7))) (blkOk_by (N := N__law_due) (sc := defScope s__law_due) (by decide +kernel)) (fun _ _ _ _ _ => (dg_seq rfl (dgs_cons (dg_name false (i := 9) (sc__law_due).nd rfl (by first | exact Or.inl rfl | exact Or.inr rfl) rfl) (dgs_cons (dg_name false (i := 10) (sc__law_due).nd rfl (by first | exact Or.inl rfl | exact Or.inr rfl) rfl) dgs_nil)))) (fun _ _ _ _ _ => dts_nil) (fun _ _ _ _ _ => (d_tup (da_cons (d_sub d_int (d_mul3 (d_ix (d_var 1 (pv 1)) (d_var 9 (pv 9))) (d_div (d_var 8 (pv 8)) (d_var 10 (pv 10))))) (da_cons (d_index (d_var 5 (pv 5)) (d_var 9 (pv 9))) (da_cons (d_var 9 (pv 9)) (da_cons (d_var 10 (pv 10)) da_nil)))))))
(dss_cons (ds_setLc (i := 12) (own := [("_law_row", 14)]) false rfl (sc__law_due).nd rfl rfl rfl (sw_true rfl rfl rfl (by decide +kernel)) (di_seq (d_callB (n_sortedB hr.units) (by rfl) T.n_sorted bo_sorted (da_cons (d_var 11 (pv 11)) da_nil))) (blkOk_by (N := N__law_due) (sc := defScope s__law_due) (by decide +kernel)) (fun _ _ _ _ _ => (dg_name false (i := 14) (sc__law_due).nd rfl (by first | exact Or.inl rfl | exact Or.inr rfl) rfl)) (fun _ _ _ _ _ => dts_nil) (fun _ _ _ _ _ => (d_tup (da_cons (d_call (ok__law_part T) mono__law_part hr hgd (by rfl) T.g__law_part T.F__law_part.kp T.b__law_part DL.takes0 (da_cons (d_ix (d_var 1 (pv 1)) (d_ix (d_var 14 (pv 14)) d_int)) (da_cons (d_ix (d_var 14 (pv 14)) d_int) da_nil))) (da_cons (d_ix (d_var 14 (pv 14)) d_int) da_nil)))))
(dss_one (ds_ret (d_sliceA (d_var 12 (pv 12)) do_none (do_some (d_dget (du1 hr.units) (d_var 0 (pv 0)) d_str)))))))))))
theorem ok_Way_init {P : Program} {w : World} {K : PySem.W.Frag} {mg : Str → Option Value} {base : Heap} (T : Txt K mg) : FnG P w K mg base 3 T.a_Way_init T.d_Way_init ["self", "hands", "seats", "lots"] (spD K mg [true, false, false, false] sp_Way_init) := by
  refine fnD_of2X (N := N_Way_init) (k := 2) T.F_Way_init sc_Way_init rfl fun cdv A outer s H E hr hgd => ⟨t_Way_init, ?_, fun ts Q E hl h => rd_Way_init h⟩
  exact (dss_cons (ds_if ((dw_or (dt_not (dt_truth (d_call ((ok_is_whole T).mono (by decide)) mono_is_whole hr hgd (by rfl) T.g_is_whole T.F_is_whole.kp T.b_is_whole (takesN (takes_of rfl rfl rfl rfl)) (da_cons (d_var 1 (pv 1)) da_nil)))) (dw_or1 (dt_not (dt_chain op_le op2_I0 op_le op2_I0 d_int (d_var 1 (pv 1)) (d_glob (by rfl) T.G_MOST_HANDS)))))).dt
 (dss_one (ds_raise (n := 8) rfl (takesN (takes_of rfl rfl rfl rfl)) PySem.F.excBase_ValueError T.q_NoWay T.g_NoWay rfl T.k_NoWay (raises_own T.b_NoWay T.t_NoWay) (by rfl)))
 dss_nil)
(dss_cons (ds_if ((dw_or (dt_not (dt_truth (d_call ((ok_is_whole T).mono (by decide)) mono_is_whole hr hgd (by rfl) T.g_is_whole T.F_is_whole.kp T.b_is_whole (takesN (takes_of rfl rfl rfl rfl)) (da_cons (d_var 2 (pv 2)) da_nil)))) (dw_or1 (dt_not (dt_chain op_le op2_I0 op_le op2_I0 d_int (d_var 2 (pv 2)) (d_glob (by rfl) T.G_MOST_SEATS)))))).dt
 (dss_one (ds_raise (n := 8) rfl (takesN (takes_of rfl rfl rfl rfl)) PySem.F.excBase_ValueError T.q_NoWay T.g_NoWay rfl T.k_NoWay (raises_own T.b_NoWay T.t_NoWay) (by rfl)))
 dss_nil)
(dss_cons (ds_fldN (C0 := C_Lists) (ns0 := []) 0 (pv 0) (d_var 1 (pv 1)) T.cl_Lists T.na_Lists_hands (by decide +kernel) (by decide))
(dss_cons (ds_fldN (C0 := C_Lists) (ns0 := ["hands"]) 0 (pv 0) (d_var 2 (pv 2)) T.cl_Lists T.na_Lists_seats (by decide +kernel) (by decide))
(dss_one (ds_fldN (C0 := C_Lists) (ns0 := ["hands", "seats"]) 0 (pv 0) (d_call (ok_lots_of T) mono_lots_of hr hgd (by rfl) T.g_lots_of T.F_lots_of.kp T.b_lots_of (takesN (takes_of rfl rfl rfl rfl)) (da_cons (d_var 1 (pv 1)) (da_cons (d_var 3 (pv 3)) da_nil))) T.cl_Lists T.na_Lists_lots (by decide +kernel) (by decide)))))))
theorem ok_seat_due {P : Program} {w : World} {K : PySem.W.Frag} {mg : Str → Option Value} {base : Heap} (T : Txt K mg) : FnG P w K mg base 3 T.a_seat_due T.d_seat_due ["way", "marks"] (spD K mg [false, false] sp_seat_due) := by
  refine fnD_of2 (N := N_seat_due) (k := 2) T.F_seat_due sc_seat_due rfl fun cdv A outer s H E hr hgd => ⟨t_seat_due, ?_, fun ts Q E hl h => rd_seat_due h⟩
  exact (dss_cons (ds_set (i := 2) false (sc_seat_due).nd rfl (by first | exact Or.inl rfl | exact Or.inr rfl) d_non rfl)
(dss_cons (ds_for (passes_of rfl) rfl (di_range1 (by rfl) T.n_range (da_cons (d_sv (C0 := C_Land) (ix0 := ix_Land) (j := 1) (d_var 0 (pv 0)) T.cl_Land T.sl_Land_hands rfl) da_nil)) (dg_name false (i := 3) (sc_seat_due).nd rfl (by first | exact Or.inl rfl | exact Or.inr rfl) rfl)
 (dss_one (ds_if ((dw_and (dt_isnot (d_ix (d_var 1 (pv 1)) (d_var 3 (pv 3))) d_non) (dw_and1 ((dw_or (dt_is (d_var 2 (pv 2)) d_non) (dw_or1 (dt_truth (d_call (ok_goes_ahead T) mono_goes_ahead hr hgd (by rfl) T.g_goes_ahead T.F_goes_ahead.kp T.b_goes_ahead (takesN (takes_of rfl rfl rfl rfl)) (da_cons (d_var 0 (pv 0)) (da_cons (d_var 1 (pv 1)) (da_cons (d_var 3 (pv 3)) (da_cons (d_var 2 (pv 2)) da_nil))))))))).dt))).dt
 (dss_one (ds_set (i := 2) false (sc_seat_due).nd rfl (by first | exact Or.inl rfl | exact Or.inr rfl) (d_var 3 (pv 3)) rfl))
 dss_nil)))
(dss_one (ds_ret (d_var 2 (pv 2))))))
theorem ok_first_of {P : Program} {w : World} {K : PySem.W.Frag} {mg : Str → Option Value} {base : Heap} (T : Txt K mg) : FnG P w K mg base 3 T.a_first_of T.d_first_of ["land", "some"] (spD K mg [false, false] sp_first_of) := by
  refine fnD_of2 (N := N_first_of) (k := 2) T.F_first_of sc_first_of rfl fun cdv A outer s H E hr hgd => ⟨t_first_of, ?_, fun ts Q E hl h => rd_first_of h⟩
  exact (dss_cons (ds_set (i := 2) false (sc_first_of).nd rfl (by first | exact Or.inl rfl | exact Or.inr rfl) (d_ix (d_var 1 (pv 1)) d_int) rfl)
(dss_cons (ds_for (passes_of rfl) rfl (di_seq (d_sliceA (d_var 1 (pv 1)) (do_some d_int) do_none)) (dg_name false (i := 3) (sc_first_of).nd rfl (by first | exact Or.inl rfl | exact Or.inr rfl) rfl)
 (dss_one (ds_if (dt_truth (d_call (ok_goes_first T) mono_goes_first hr hgd (by rfl) T.g_goes_first T.F_goes_first.kp T.b_goes_first (takesN (takes_of rfl rfl rfl rfl)) (da_cons (d_var 0 (pv 0)) (da_cons (d_var 3 (pv 3)) (da_cons (d_var 2 (pv 2)) da_nil)))))
 (dss_one (ds_set (i := 2) false (sc_first_of).nd rfl (by first | exact Or.inl rfl | exact Or.inr rfl) (d_var 3 (pv 3)) rfl))
 dss_nil)))
(dss_one (ds_ret (d_var 2 (pv 2))))))
theorem ok_Land_init {P : Program} {w : World} {K : PySem.W.Frag} {mg : Str → Option Value} {base : Heap} (T : Txt K mg) : FnG P w K mg base 3 T.a_Land_init T.d_Land_init ["self", "areas", "evened", "lots", "hurdle", "step"] (spD K mg [true, false, false, false, false, false] sp_Land_init) := by
  refine fnD_of2X (N := N_Land_init) (k := 2) T.F_Land_init sc_Land_init rfl fun cdv A outer s H E hr hgd => ⟨t_Land_init, ?_, fun ts Q E hl h => rd_Land_init h⟩
  exact (dss_cons (ds_svN (C0 := C_Land) (ix0 := []) 0 (pv 0) (d_call ((ok_areas_of T).mono (by decide)) mono_areas_of hr hgd (by rfl) T.g_areas_of T.F_areas_of.kp T.b_areas_of (takesN (takes_of rfl rfl rfl rfl)) (da_cons (d_var 1 (pv 1)) da_nil)) T.cl_Land T.sl_Land_areas rfl)
(dss_cons (ds_svN (C0 := C_Land) (ix0 := [0]) 0 (pv 0) (d_fld (C0 := C_Lists) (ns0 := ns_Lists) (j := 0) (d_ix (d_svO (C0 := C_Land) (ix0 := [0]) (j := 0) 0 (pv 0) T.cl_Land T.sl_Land_areas rfl) d_int) T.cl_Lists T.na_Lists_hands (by decide +kernel)) T.cl_Land T.sl_Land_hands rfl)
(dss_cons (ds_if ((dw_or (dt_not (dt_truth (d_call (ok_is_count T) mono_is_count hr hgd (by rfl) T.g_is_count T.F_is_count.kp T.b_is_count (takesN (takes_of rfl rfl rfl rfl)) (da_cons (d_var 2 (pv 2)) (da_cons (d_glob (by rfl) T.G_MOST_EVENED) da_nil))))) (dw_or (dt_not (dt_truth (d_call (ok_is_count T) mono_is_count hr hgd (by rfl) T.g_is_count T.F_is_count.kp T.b_is_count (takesN (takes_of rfl rfl rfl rfl)) (da_cons (d_var 5 (pv 5)) (da_cons (d_glob (by rfl) T.G_MOST_STEP_lands) da_nil))))) (dw_or1 (dt_lt (d_var 5 (pv 5)) d_int))))).dt
 (dss_one (ds_raise (n := 12) rfl (takesN (takes_of rfl rfl rfl rfl)) PySem.F.excBase_ValueError T.q_NoLand T.g_NoLand rfl T.k_NoLand (raises_own T.b_NoLand T.t_NoLand) (by rfl)))
 dss_nil)
(dss_cons (ds_try (k := 8) rfl rfl ⟨rfl, by decide, .inl T.g_NoWay⟩ (takesN (takes_of rfl rfl rfl rfl)) T.em_NoWay (fun W1 pn xe tk po => (dss_one (ds_asg (d_tup (da_cons (d_call (ok_lots_of T) mono_lots_of hr hgd (by rfl) T.g_lots_of T.F_lots_of.kp T.b_lots_of tk (da_cons (d_svO (C0 := C_Land) (ix0 := [0, 2]) (j := 1) 0 (pv 0) T.cl_Land T.sl_Land_hands rfl) (da_cons (d_var 3 (pv 3)) da_nil))) (da_cons (d_call (ok_hurdle_of T) mono_hurdle_of hr hgd (by rfl) T.g_hurdle_of T.F_hurdle_of.kp T.b_hurdle_of tk (da_cons (d_var 4 (pv 4)) da_nil)) da_nil))) (dg_seqO rfl (dgs_cons (dg_svN (C0 := C_Land) (ix0 := [0, 2]) 0 (pv 0) T.cl_Land T.sl_Land_lots rfl) (dgs_cons (dg_svN (C0 := C_Land) (ix0 := [0, 2, 4]) 0 (pv 0) T.cl_Land T.sl_Land_hurdle rfl) dgs_nil))))))
 (fun a oe pn hd => (dss_one ds_never)))
(dss_one (ds_asg (d_tup (da_cons (d_var 2 (pv 2)) (da_cons (d_var 5 (pv 5)) da_nil))) (dg_seqO rfl (dgs_cons (dg_svN (C0 := C_Land) (ix0 := [0, 2, 4, 3]) 0 (pv 0) T.cl_Land T.sl_Land_evened rfl) (dgs_cons (dg_svN (C0 := C_Land) (ix0 := [0, 2, 4, 3, 1]) 0 (pv 0) T.cl_Land T.sl_Land_step rfl) dgs_nil)))))))))
theorem ok_Land_mark {P : Program} {w : World} {K : PySem.W.Frag} {mg : Str → Option Value} {base : Heap} (T : Txt K mg) : FnG P w K mg base 3 T.a_Land_mark T.d_Land_mark ["self", "many", "had"] (spD K mg [false, false, false] sp_Land_mark) := by
  refine fnD_of2 (N := N_Land_mark) (k := 2) T.F_Land_mark sc_Land_mark rfl fun cdv A outer s H E hr hgd => ⟨t_Land_mark, ?_, fun ts Q E hl h => rd_Land_mark h⟩
  exact (dss_one (ds_ret (d_call (ok_fraction T) mono_fraction hr hgd (by rfl) T.g_fraction T.F_fraction.kp T.b_fraction (takesN (takes_of rfl rfl rfl rfl)) (da_cons (d_var 1 (pv 1)) (da_cons (d_add4 d_int (d_mul3 (d_sv (C0 := C_Land) (ix0 := ix_Land) (j := 5) (d_var 0 (pv 0)) T.cl_Land T.sl_Land_step rfl) (d_var 2 (pv 2)))) da_nil)))))
theorem ok__law_numbers {P : Program} {w : World} {K : PySem.W.Frag} {mg : Str → Option Value} {base : Heap} (T : Txt K mg) : FnG P w K mg base 3 T.a__law_numbers T.d__law_numbers ["_law_bag_here", "_law_hands", "_law_seats"] (spD K mg [true, false, false] sp__law_numbers) := by
  refine fnD_of2 (N := N__law_numbers) (k := 2) T.F__law_numbers sc__law_numbers rfl fun cdv A outer s H E hr hgd => ⟨t__law_numbers, ?_, fun ts Q E hl h => rd__law_numbers h⟩
  exact (dss_cons (ds_set (i := 3) false (sc__law_numbers).nd rfl (by first | exact Or.inl rfl | exact Or.inr rfl) (d_lst (da_cons d_non (da_cons (d_tup (da_cons d_int (da_cons d_int da_nil))) (da_cons (d_tup (da_cons d_int (da_cons d_int da_nil))) (da_cons (d_tup (da_cons d_int (da_cons d_int da_nil))) (da_cons (d_tup (da_cons d_int (da_cons d_int da_nil))) (da_cons (d_tup (da_cons d_int (da_cons d_int da_nil))) (da_cons (d_tup (da_cons d_int (da_cons d_int da_nil))) (da_cons (d_tup (da_cons d_int (da_cons d_int da_nil))) (da_cons (d_tup (da_cons d_int (da_cons d_int da_nil))) (da_cons (d_tup (da_cons d_int (da_cons d_int da_nil))) da_nil))))))))))) rfl)
(dss_cons (ds_set (i := 4) true (sc__law_numbers).nd rfl (by first | exact Or.inl rfl | exact Or.inr rfl) (d_dictL (keys := [.inr "seats", .inr "hurdle"]) (.cons pe_str (d_var 2 (pv 2)) (.cons pe_str (d_ix (d_var 3 (pv 3)) (d_call ((ok__law_take T).mono (by decide)) mono__law_take hr hgd (by rfl) T.g__law_take T.F__law_take.kp T.b__law_take (takesN (takes_of rfl rfl rfl rfl)) (da_late 0 (pv 0) (da_cons d_int da_nil)))) .nil)) (by nofun) (by decide) (by decide)) rfl)
(dss_cons (ds_dput 4 (du1 hr.units) (pv 4) d_str (d_ix (d_lst (da_cons d_int (da_cons d_int (da_cons (d_add4 d_int (d_call ((ok__law_take T).mono (by decide)) mono__law_take hr hgd (by rfl) T.g__law_take T.F__law_take.kp T.b__law_take (takesN (takes_of rfl rfl rfl rfl)) (da_late 0 (pv 0) (da_cons d_int da_nil)))) (da_cons d_int da_nil))))) (d_call ((ok__law_take T).mono (by decide)) mono__law_take hr hgd (by rfl) T.g__law_take T.F__law_take.kp T.b__law_take (takesN (takes_of rfl rfl rfl rfl)) (da_late 0 (pv 0) (da_cons d_int da_nil)))))
(dss_cons (ds_dput 4 (du1 hr.units) (pv 4) d_str (d_ite (dt_eq hr.units (d_call ((ok__law_take T).mono (by decide)) mono__law_take hr hgd (by rfl) T.g__law_take T.F__law_take.kp T.b__law_take (takesN (takes_of rfl rfl rfl rfl)) (da_late 0 (pv 0) (da_cons d_int da_nil))) d_int) d_non (d_call (ok__law_mixed T) mono__law_mixed hr hgd (by rfl) T.g__law_mixed T.F__law_mixed.kp T.b__law_mixed (takesN (takes_of rfl rfl rfl rfl)) (da_late 0 (pv 0) (da_cons (d_listRg rfl (by rfl) T.n_list (dr_1 (by rfl) T.n_range (d_var 1 (pv 1)))) da_nil)))))
(dss_one (ds_ret (d_mov 4 (pv 4))))))))
theorem ok_marks_of {P : Program} {w : World} {K : PySem.W.Frag} {mg : Str → Option Value} {base : Heap} (T : Txt K mg) : FnG P w K mg base 4 T.a_marks_of T.d_marks_of ["way", "votes", "least", "had"] (spD K mg [false, false, false, false] sp_marks_of) := by
  refine fnD_of2 (N := N_marks_of) (k := 3) T.F_marks_of sc_marks_of rfl fun cdv A outer s H E hr hgd => ⟨t_marks_of, ?_, fun ts Q E hl h => rd_marks_of h⟩
  exact (dss_cons (ds_set (i := 4) true (sc_marks_of).nd rfl (by first | exact Or.inl rfl | exact Or.inr rfl) (d_lst da_nil) rfl)
(dss_cons (ds_for (passes_of rfl) rfl (di_range1 (by rfl) T.n_range (da_cons (d_sv (C0 := C_Land) (ix0 := ix_Land) (j := 1) (d_var 0 (pv 0)) T.cl_Land T.sl_Land_hands rfl) da_nil)) (dg_name false (i := 5) (sc_marks_of).nd rfl (by first | exact Or.inl rfl | exact Or.inr rfl) rfl)
 (dss_one (ds_if (dt_lt (d_ix (d_var 1 (pv 1)) (d_var 5 (pv 5))) (d_var 2 (pv 2)))
 (dss_one (ds_expr (d_app 4 (pv 4) d_non)))
 (dss_one (ds_expr (d_app 4 (pv 4) (d_methVS (ix0 := ix_Land) (dvs := []) (d_var 0 (pv 0)) ⟨⟨_, _, _, (ok_Land_mark T), T.m_Land_Land_mark, ⟨[], .nil, T.b_Land_mark⟩⟩, T.cl_Land, mono_Land_mark, hr, hgd, (takesN (takes_of rfl rfl rfl rfl))⟩ (da_cons (d_ix (d_var 1 (pv 1)) (d_var 5 (pv 5))) (da_cons (d_ix (d_var 3 (pv 3)) (d_var 5 (pv 5))) da_nil)))))))))
(dss_one (ds_ret (d_mov 4 (pv 4))))))
theorem ok_Lists_init {P : Program} {w : World} {K : PySem.W.Frag} {mg : Str → Option Value} {base : Heap} (T : Txt K mg) : FnG P w K mg base 4 T.a_Lists_init T.d_Lists_init ["self", "hands", "seats", "lots", "hurdle", "step"] (spD K mg [true, false, false, false, false, false] sp_Lists_init) := by
  refine fnD_of2X (N := N_Lists_init) (k := 3) T.F_Lists_init sc_Lists_init rfl fun cdv A outer s H E hr hgd => ⟨t_Lists_init, ?_, fun ts Q E hl h => rd_Lists_init h⟩
  exact (dss_cons (ds_expr (d_callC T.cd_Way_init (ok_Way_init T) mono_Way_init hr hgd (by rfl) T.gC_Way T.b_Way_init (takesN (takes_of rfl rfl rfl rfl)) (da_late 0 (pv 0) (da_cons (d_var 1 (pv 1)) (da_cons (d_var 2 (pv 2)) (da_cons (d_var 3 (pv 3)) da_nil))))))
(dss_cons (ds_if ((dw_or (dt_not (dt_truth (d_call ((ok_is_whole T).mono (by decide)) mono_is_whole hr hgd (by rfl) T.g_is_whole T.F_is_whole.kp T.b_is_whole (takesN (takes_of rfl rfl rfl rfl)) (da_cons (d_var 5 (pv 5)) da_nil)))) (dw_or1 (dt_not (dt_chain op_le op2_I0 op_le op2_I0 d_int (d_var 5 (pv 5)) (d_glob (by rfl) T.G_MOST_STEP_lists)))))).dt
 (dss_one (ds_raise (n := 8) rfl (takesN (takes_of rfl rfl rfl rfl)) PySem.F.excBase_ValueError T.q_NoWay T.g_NoWay rfl T.k_NoWay (raises_own T.b_NoWay T.t_NoWay) (by rfl)))
 dss_nil)
(dss_cons (ds_fldN (C0 := C_Lists) (ns0 := ["hands", "seats", "lots"]) 0 (pv 0) (d_call ((ok_hurdle_of T).mono (by decide)) mono_hurdle_of hr hgd (by rfl) T.g_hurdle_of T.F_hurdle_of.kp T.b_hurdle_of (takesN (takes_of rfl rfl rfl rfl)) (da_cons (d_var 4 (pv 4)) da_nil)) T.cl_Lists T.na_Lists_hurdle (by decide +kernel) (by decide))
(dss_one (ds_fldN (C0 := C_Lists) (ns0 := ["hands", "seats", "lots", "hurdle"]) 0 (pv 0) (d_var 5 (pv 5)) T.cl_Lists T.na_Lists_step (by decide +kernel) (by decide))))))
theorem ok_waiting {P : Program} {w : World} {K : PySem.W.Frag} {mg : Str → Option Value} {base : Heap} (T : Txt K mg) : FnG P w K mg base 4 T.a_waiting T.d_waiting ["land", "votes", "had"] (spD K mg [false, false, false] sp_waiting) := by
  refine fnD_of2 (N := N_waiting) (k := 3) T.F_waiting sc_waiting rfl fun cdv A outer s H E hr hgd => ⟨t_waiting, ?_, fun ts Q E hl h => rd_waiting h⟩
  exact (dss_cons (ds_parO false true (i := 3) (j := 4) rfl (sc_waiting).nd rfl rfl (by decide) rfl rfl rfl rfl (da_cons (d_methVS (ix0 := ix_Land) (dvs := []) (d_var 0 (pv 0)) ⟨⟨_, _, _, ((ok_Land_least_votes T).mono (by decide)), T.m_Land_Land_least_votes, ⟨[], .nil, T.b_Land_least_votes⟩⟩, T.cl_Land, mono_Land_least_votes, hr, hgd, (takesN (takes_of rfl rfl rfl rfl))⟩ (da_cons (d_callB (n_sum rfl) (by rfl) T.n_sum bo_sum (da_cons (d_var 1 (pv 1)) da_nil)) da_nil)) (da_cons (d_lst da_nil) da_nil)) (by rfl))
(dss_cons (ds_set (i := 5) true (sc_waiting).nd rfl (by first | exact Or.inl rfl | exact Or.inr rfl) d_dict0 rfl)
(dss_cons (ds_for (passes_of rfl) rfl (di_range1 (by rfl) T.n_range (da_cons (d_sv (C0 := C_Land) (ix0 := ix_Land) (j := 1) (d_var 0 (pv 0)) T.cl_Land T.sl_Land_hands rfl) da_nil)) (dg_name false (i := 6) (sc_waiting).nd rfl (by first | exact Or.inl rfl | exact Or.inr rfl) rfl)
 (dss_one (ds_if (dt_ge (d_ix (d_var 1 (pv 1)) (d_var 6 (pv 6))) (d_var 3 (pv 3)))
 (dss_one (ds_dput 5 (du1 hr.units) (pv 5) (d_var 6 (pv 6)) (d_fz (d_lc (own := [("k", 8)]) rfl (sc_waiting).nd (di_range1 (by rfl) T.n_range (da_cons (d_sv (C0 := C_Land) (ix0 := ix_Land) (j := 4) (d_var 0 (pv 0)) T.cl_Land T.sl_Land_evened rfl) da_nil)) (blkOk_by (N := N_waiting) (sc := defScope s_waiting) (by decide +kernel)) (fun _ _ _ _ _ => (dg_name false (i := 8) (sc_waiting).nd rfl (by first | exact Or.inl rfl | exact Or.inr rfl) rfl)) (fun _ _ _ _ _ => dts_nil) (fun _ _ _ _ _ => (d_tup (da_cons (d_methVS (ix0 := ix_Land) (dvs := []) (d_var 0 (pv 0)) ⟨⟨_, _, _, (ok_Land_mark T), T.m_Land_Land_mark, ⟨[], .nil, T.b_Land_mark⟩⟩, T.cl_Land, mono_Land_mark, hr, hgd, DL.takes0⟩ (da_cons (d_ix (d_var 1 (pv 1)) (d_var 6 (pv 6))) (da_cons (d_add4 (d_ix (d_var 2 (pv 2)) (d_var 6 (pv 6))) (d_var 8 (pv 8))) da_nil))) (da_cons (d_var 6 (pv 6)) da_nil))))))))
 dss_nil)))
(dss_cons (ds_while (passes_of rfl) (dt_bor ((dw_and (dt_ne0 5 (Nat.lt_of_succ_lt (du1 hr.units)) (pv 5)) (dw_and1 (dt_lt (d_callB n_len (by rfl) T.n_len bo_len (da_cons (d_var 4 (pv 4)) da_nil)) (d_sv (C0 := C_Land) (ix0 := ix_Land) (j := 4) (d_var 0 (pv 0)) T.cl_Land T.sl_Land_evened rfl))))).dt)
 (dss_cons (ds_asg (d_call (ok_first_of T) mono_first_of hr hgd (by rfl) T.g_first_of T.F_first_of.kp T.b_first_of (takesN (takes_of rfl rfl rfl rfl)) (da_cons (d_var 0 (pv 0)) (da_cons (d_lcV (own := [("row", 9)]) 5 rfl (sc_waiting).nd (pv 5) (blkOk_by (N := N_waiting) (sc := defScope s_waiting) (by decide +kernel)) (fun _ _ _ _ _ => (dg_name false (i := 9) (sc_waiting).nd rfl (by first | exact Or.inl rfl | exact Or.inr rfl) rfl)) (fun _ _ _ _ _ => dts_nil) (fun _ _ _ _ _ => (d_ix (d_var 9 (pv 9)) d_int))) da_nil))) (dg_seq rfl (dgs_cons (dg_name false (i := 7) (sc_waiting).nd rfl (by first | exact Or.inl rfl | exact Or.inr rfl) rfl) (dgs_cons (dg_name false (i := 6) (sc_waiting).nd rfl (by first | exact Or.inl rfl | exact Or.inr rfl) rfl) dgs_nil))))
(dss_cons (ds_expr (d_app 4 (pv 4) (d_tup (da_cons (d_var 7 (pv 7)) (da_cons (d_var 6 (pv 6)) da_nil)))))
(dss_cons (ds_dput 5 (du1 hr.units) (pv 5) (d_var 6 (pv 6)) (d_fz (d_sliceA (d_dgetO 5 (du1 hr.units) (pv 5) (d_var 6 (pv 6))) (do_some d_int) do_none)))
(dss_one (ds_if (dt_eq hr.units (d_dgetO 5 (du1 hr.units) (pv 5) (d_var 6 (pv 6))) (d_lst da_nil))
 (dss_one (ds_expr (d_dpopO 5 (pv 5) (d_var 6 (pv 6)) ⟨(by rfl), (by rfl), (by rfl), (by rfl)⟩)))
 dss_nil))))))
(dss_one (ds_ret (d_mov 4 (pv 4))))))))
theorem ok_rounds_of {P : Program} {w : World} {K : PySem.W.Frag} {mg : Str → Option Value} {base : Heap} (T : Txt K mg) : FnG P w K mg base 5 T.a_rounds_of T.d_rounds_of ["land", "votes", "least", "had", "many"] (spD K mg [false, false, false, false, false] sp_rounds_of) := by
  refine fnD_of2 (N := N_rounds_of) (k := 4) T.F_rounds_of sc_rounds_of rfl fun cdv A outer s H E hr hgd => ⟨t_rounds_of, ?_, fun ts Q E hl h => rd_rounds_of h⟩
  exact (dss_cons (ds_parO true true (i := 5) (j := 6) rfl (sc_rounds_of).nd rfl rfl (by decide) rfl rfl rfl rfl (da_cons (d_callTy n_list (by rfl) T.n_list bo_list (da_cons (d_var 3 (pv 3)) da_nil)) (da_cons (d_lst da_nil) da_nil)) (by rfl))
(dss_cons (ds_while (passes_of rfl) (dt_bor (dt_lt (d_callB n_len (by rfl) T.n_len bo_len (da_cons (d_var 6 (pv 6)) da_nil)) (d_var 4 (pv 4))))
 (dss_cons (ds_set (i := 7) true (sc_rounds_of).nd rfl (by first | exact Or.inl rfl | exact Or.inr rfl) (d_bor (d_call (ok_marks_of T) mono_marks_of hr hgd (by rfl) T.g_marks_of T.F_marks_of.kp T.b_marks_of (takesN (takes_of rfl rfl rfl rfl)) (da_cons (d_var 0 (pv 0)) (da_cons (d_var 1 (pv 1)) (da_cons (d_var 2 (pv 2)) (da_cons (d_var 5 (pv 5)) da_nil)))))) rfl)
(dss_cons (ds_set (i := 8) false (sc_rounds_of).nd rfl (by first | exact Or.inl rfl | exact Or.inr rfl) (d_bor (d_call ((ok_seat_due T).mono (by decide)) mono_seat_due hr hgd (by rfl) T.g_seat_due T.F_seat_due.kp T.b_seat_due (takesN (takes_of rfl rfl rfl rfl)) (da_cons (d_var 0 (pv 0)) (da_cons (d_var 7 (pv 7)) da_nil)))) rfl)
(dss_cons (ds_if (dt_is (d_var 8 (pv 8)) d_non)
 (dss_one (ds_ret (d_lst da_nil)))
 dss_nil)
(dss_cons (ds_expr (d_app 6 (pv 6) (d_tup (da_cons (d_mov 7 (pv 7)) (da_cons (d_var 8 (pv 8)) da_nil)))))
(dss_one (ds_augI 5 (pv 5) (d_var 8 (pv 8)) d_int iop_add op2_I0)))))))
(dss_one (ds_ret (d_mov 6 (pv 6))))))
theorem ok_evening {P : Program} {w : World} {K : PySem.W.Frag} {mg : Str → Option Value} {base : Heap} (T : Txt K mg) : FnG P w K mg base 6 T.a_evening T.d_evening ["land", "votes", "had"] (spD K mg [false, false, false] sp_evening) := by
  refine fnD_of2 (N := N_evening) (k := 5) T.F_evening sc_evening rfl fun cdv A outer s H E hr hgd => ⟨t_evening, ?_, fun ts Q E hl h => rd_evening h⟩
  exact (dss_cons (ds_set (i := 3) false (sc_evening).nd rfl (by first | exact Or.inl rfl | exact Or.inr rfl) (d_methVS (ix0 := ix_Land) (dvs := []) (d_var 0 (pv 0)) ⟨⟨_, _, _, ((ok_Land_least_votes T).mono (by decide)), T.m_Land_Land_least_votes, ⟨[], .nil, T.b_Land_least_votes⟩⟩, T.cl_Land, mono_Land_least_votes, hr, hgd, (takesN (takes_of rfl rfl rfl rfl))⟩ (da_cons (d_callB (n_sum rfl) (by rfl) T.n_sum bo_sum (da_cons (d_var 1 (pv 1)) da_nil)) da_nil)) rfl)
(dss_one (ds_ret (d_tup (da_cons (d_callTy n_list (by rfl) T.n_list bo_list (da_cons (d_var 1 (pv 1)) da_nil)) (da_cons (d_var 3 (pv 3)) (da_cons (d_call (ok_rounds_of T) mono_rounds_of hr hgd (by rfl) T.g_rounds_of T.F_rounds_of.kp T.b_rounds_of (takesN (takes_of rfl rfl rfl rfl)) (da_cons (d_var 0 (pv 0)) (da_cons (d_var 1 (pv 1)) (da_cons (d_var 3 (pv 3)) (da_cons (d_var 2 (pv 2)) (da_cons (d_sv (C0 := C_Land) (ix0 := ix_Land) (j := 4) (d_var 0 (pv 0)) T.cl_Land T.sl_Land_evened rfl) da_nil)))))) da_nil)))))))
theorem ok__law_made {P : Program} {w : World} {K : PySem.W.Frag} {mg : Str → Option Value} {base : Heap} (T : Txt K mg) : FnG P w K mg base 6 T.a__law_made T.d__law_made ["_law_own", "_law_hands", "_law_seats"] (spD K mg [false, false, false] sp__law_made) := by
  refine fnD_of2 (N := N__law_made) (k := 5) T.F__law_made sc__law_made rfl fun cdv A outer s H E hr hgd => ⟨t__law_made, ?_, fun ts Q E hl h => rd__law_made h⟩
  exact (dss_one (ds_ret (d_makeSl (dvs := []) ⟨⟨_, _, _, ((ok_Land_init T).mono (by decide)), T.mk_Land, ⟨[], .nil, T.b_Land_init⟩⟩, mono_Land_init, hr, hgd, (by rfl), T.gC_Land, (takesN (takes_of rfl rfl rfl rfl))⟩ (da_cons (d_lst (da_cons (d_makeD (dvs := [.non, .non, (.int 1)]) ⟨⟨_, _, _, (ok_Lists_init T), T.mk_Lists, T.bd_Lists_init_0⟩, mono_Lists_init, hr, hgd, (by rfl), T.gC_Lists, (takesN (takes_of rfl rfl rfl rfl))⟩ (da_cons (d_var 1 (pv 1)) (da_cons d_int da_nil))) da_nil)) (da_cons (d_var 2 (pv 2)) (da_cons (d_dget (du1 hr.units) (d_var 0 (pv 0)) d_str) (da_cons (d_dget (du1 hr.units) (d_var 0 (pv 0)) d_str) (da_cons (d_dget (du1 hr.units) (d_var 0 (pv 0)) d_str) da_nil))))))))
theorem ok__law_parted_right {P : Program} {w : World} {K : PySem.W.Frag} {mg : Str → Option Value} {base : Heap} (T : Txt K mg) : FnG P w K mg base 7 T.a__law_parted_right T.d__law_parted_right ["_law_bag_here", "_law_own", "_law_votes", "_law_had", "_law_rows"] (spD K mg [true, false, false, false, false] sp__law_parted_right) := by
  refine fnD_of2 (N := N__law_parted_right) (k := 6) T.F__law_parted_right sc__law_parted_right rfl fun cdv A outer s H E hr hgd => ⟨t__law_parted_right, ?_, fun ts Q E hl h => rd__law_parted_right h⟩
  exact (dss_cons (ds_par3 false false true (i := 5) (j := 6) (l := 7) rfl (sc__law_parted_right).nd rfl rfl rfl (by decide) (by decide) (by decide) rfl rfl rfl rfl rfl rfl (da_cons (d_callB n_len (by rfl) T.n_len bo_len (da_cons (d_var 3 (pv 3)) da_nil)) (da_cons (d_call ((ok__law_take T).mono (by decide)) mono__law_take hr hgd (by rfl) T.g__law_take T.F__law_take.kp T.b__law_take (takesN (takes_of rfl rfl rfl rfl)) (da_late 0 (pv 0) (da_cons (d_add4 (d_callB n_len (by rfl) T.n_len bo_len (da_cons (d_var 4 (pv 4)) da_nil)) d_int) da_nil))) (da_cons (d_callTy n_list (by rfl) T.n_list bo_list (da_cons (d_var 3 (pv 3)) da_nil)) da_nil))) (by rfl))
(dss_cons (ds_for (passes_of rfl) rfl (di_seq (d_sliceA (d_var 4 (pv 4)) do_none (do_some (d_var 6 (pv 6))))) (dg_seq rfl (dgs_cons (dg_name false (i := 8) (sc__law_parted_right).nd rfl (by first | exact Or.inl rfl | exact Or.inr rfl) rfl) (dgs_cons (dg_name false (i := 9) (sc__law_parted_right).nd rfl (by first | exact Or.inl rfl | exact Or.inr rfl) rfl) dgs_nil)))
 (dss_one (ds_augI 7 (pv 7) (d_var 9 (pv 9)) d_int iop_add op2_I0)))
(dss_cons (ds_set (i := 10) false (sc__law_parted_right).nd rfl (by first | exact Or.inl rfl | exact Or.inr rfl) (d_bor (d_call ((ok_waiting T).mono (by decide)) mono_waiting hr hgd (by rfl) T.g_waiting T.F_waiting.kp T.b_waiting (takesN (takes_of rfl rfl rfl rfl)) (da_cons (d_call (ok__law_made T) mono__law_made hr hgd (by rfl) T.g__law_made T.F__law_made.kp T.b__law_made (takesN (takes_of rfl rfl rfl rfl)) (da_cons (d_var 1 (pv 1)) (da_cons (d_var 5 (pv 5)) (da_cons (d_sub (d_callB n_len (by rfl) T.n_len bo_len (da_cons (d_var 4 (pv 4)) da_nil)) (d_var 6 (pv 6))) da_nil)))) (da_cons (d_var 2 (pv 2)) (da_cons (d_var 7 (pv 7)) da_nil))))) rfl)
(dss_one (ds_ret (d_call ((ok__law_alike T).mono (by decide)) mono__law_alike hr hgd (by rfl) T.g__law_alike T.F__law_alike.kp T.b__law_alike (takesN (takes_of rfl rfl rfl rfl)) (da_cons (d_var 10 (pv 10)) (da_cons (d_sliceA (d_var 4 (pv 4)) (do_some (d_var 6 (pv 6))) do_none) da_nil))))))))
theorem ok__law_right {P : Program} {w : World} {K : PySem.W.Frag} {mg : Str → Option Value} {base : Heap} (T : Txt K mg) : FnG P w K mg base 8 T.a__law_right T.d__law_right ["_law_bag_here", "_law_land", "_law_own", "_law_votes", "_law_had"] (spD K mg [true, false, false, false, false] sp__law_right) := by
  refine fnD_of2 (N := N__law_right) (k := 7) T.F__law_right sc__law_right rfl fun cdv A outer s H E hr hgd => ⟨t__law_right, ?_, fun ts Q E hl h => rd__law_right h⟩
  exact (dss_cons (ds_par (i := 5) (j := 6) rfl (sc__law_right).nd rfl rfl (by decide) rfl rfl rfl rfl (da_cons (d_callB n_len (by rfl) T.n_len bo_len (da_cons (d_var 4 (pv 4)) da_nil)) (da_cons (d_call ((ok__law_due T).mono (by decide)) mono__law_due hr hgd (by rfl) T.g__law_due T.F__law_due.kp T.b__law_due (takesN (takes_of rfl rfl rfl rfl)) (da_cons (d_var 2 (pv 2)) (da_cons (d_var 3 (pv 3)) (da_cons (d_var 4 (pv 4)) da_nil)))) da_nil)) (by rfl))
(dss_cons (ds_set (i := 7) true (sc__law_right).nd rfl (by first | exact Or.inl rfl | exact Or.inr rfl) (d_call ((ok_waiting T).mono (by decide)) mono_waiting hr hgd (by rfl) T.g_waiting T.F_waiting.kp T.b_waiting (takesN (takes_of rfl rfl rfl rfl)) (da_cons (d_var 1 (pv 1)) (da_cons (d_var 3 (pv 3)) (da_cons (d_var 4 (pv 4)) da_nil)))) rfl)
(dss_cons (ds_if (dt_bor (dt_not (dt_truth (d_call ((ok__law_alike T).mono (by decide)) mono__law_alike hr hgd (by rfl) T.g__law_alike T.F__law_alike.kp T.b__law_alike (takesN (takes_of rfl rfl rfl rfl)) (da_cons (d_var 7 (pv 7)) (da_cons (d_var 6 (pv 6)) da_nil))))))
 (dss_one (ds_ret d_bl))
 dss_nil)
(dss_cons (ds_expr (d_app 7 (pv 7) d_non))
(dss_cons (ds_set (i := 7) true (sc__law_right).nd rfl (by first | exact Or.inl rfl | exact Or.inr rfl) (d_call ((ok_waiting T).mono (by decide)) mono_waiting hr hgd (by rfl) T.g_waiting T.F_waiting.kp T.b_waiting (takesN (takes_of rfl rfl rfl rfl)) (da_cons (d_var 1 (pv 1)) (da_cons (d_var 3 (pv 3)) (da_cons (d_var 4 (pv 4)) da_nil)))) rfl)
(dss_cons (ds_set (i := 8) false (sc__law_right).nd rfl (by first | exact Or.inl rfl | exact Or.inr rfl) (d_call ((ok_evening T).mono (by decide)) mono_evening hr hgd (by rfl) T.g_evening T.F_evening.kp T.b_evening (takesN (takes_of rfl rfl rfl rfl)) (da_cons (d_var 1 (pv 1)) (da_cons (d_var 3 (pv 3)) (da_cons (d_var 4 (pv 4)) da_nil)))) rfl)
(dss_cons (ds_if (dt_bor ((dw_or (dt_not (dt_truth (d_call ((ok__law_alike T).mono (by decide)) mono__law_alike hr hgd (by rfl) T.g__law_alike T.F__law_alike.kp T.b__law_alike (takesN (takes_of rfl rfl rfl rfl)) (da_cons (d_var 7 (pv 7)) (da_cons (d_var 6 (pv 6)) da_nil))))) (dw_or1 (dt_ne hr.units (d_lc (own := [("_law_marks", 14), ("_law_hand", 15)]) rfl (sc__law_right).nd (di_seq (d_ix (d_var 8 (pv 8)) d_int)) (blkOk_by (N := N__law_right) (sc := defScope s__law_right) (by decide +kernel)) (fun _ _ _ _ _ => (dg_seq rfl (dgs_cons (dg_name false (i := 14) (sc__law_right).nd rfl (by first | exact Or.inl rfl | exact Or.inr rfl) rfl) (dgs_cons (dg_name false (i := 15) (sc__law_right).nd rfl (by first | exact Or.inl rfl | exact Or.inr rfl) rfl) dgs_nil)))) (fun _ _ _ _ _ => dts_nil) (fun _ _ _ _ _ => (d_tup (da_cons (d_ix (d_var 14 (pv 14)) (d_var 15 (pv 15))) (da_cons (d_var 15 (pv 15)) da_nil))))) (d_var 7 (pv 7)))))).dt)
 (dss_one (ds_ret d_bl))
 dss_nil)
(dss_cons (ds_set (i := 9) false (sc__law_right).nd rfl (by first | exact Or.inl rfl | exact Or.inr rfl) (d_call ((ok__law_made T).mono (by decide)) mono__law_made hr hgd (by rfl) T.g__law_made T.F__law_made.kp T.b__law_made (takesN (takes_of rfl rfl rfl rfl)) (da_cons (d_var 2 (pv 2)) (da_cons (d_var 5 (pv 5)) (da_cons (d_add4 (d_dget (du1 hr.units) (d_var 2 (pv 2)) d_str) d_int) da_nil)))) rfl)
(dss_cons (ds_set (i := 10) false (sc__law_right).nd rfl (by first | exact Or.inl rfl | exact Or.inr rfl) (d_call ((ok_waiting T).mono (by decide)) mono_waiting hr hgd (by rfl) T.g_waiting T.F_waiting.kp T.b_waiting (takesN (takes_of rfl rfl rfl rfl)) (da_cons (d_var 9 (pv 9)) (da_cons (d_var 3 (pv 3)) (da_cons (d_var 4 (pv 4)) da_nil)))) rfl)
(dss_cons (ds_if (dt_bor ((dw_or (dt_ne hr.units (d_sliceA (d_var 10 (pv 10)) do_none (do_some (d_callB n_len (by rfl) T.n_len bo_len (da_cons (d_var 7 (pv 7)) da_nil)))) (d_var 7 (pv 7))) (dw_or1 (dt_ne hr.units (d_callB n_len (by rfl) T.n_len bo_len (da_cons (d_var 10 (pv 10)) da_nil)) (d_add4 (d_callB n_len (by rfl) T.n_len bo_len (da_cons (d_var 7 (pv 7)) da_nil)) (d_callTy n_int2 (by rfl) T.n_int bo_int (da_cons (d_ge (d_callB (n_maxL rfl) (by rfl) T.n_max bo_max (da_cons (d_sliceA (d_var 3 (pv 3)) do_none (do_some (d_var 5 (pv 5)))) da_nil)) (d_ix (d_var 8 (pv 8)) d_int)) da_nil))))))).dt)
 (dss_one (ds_ret d_bl))
 dss_nil)
(dss_cons (ds_setLc (i := 11) (own := [("_law_a", 12), ("_law_b", 13)]) false rfl (sc__law_right).nd rfl rfl rfl (sw_true rfl rfl rfl (by decide +kernel)) (di_zip (by rfl) T.n_zip (da_cons (d_call ((ok_evened_by T).mono (by decide)) mono_evened_by hr hgd (by rfl) T.g_evened_by T.F_evened_by.kp T.b_evened_by (takesN (takes_of rfl rfl rfl rfl)) (da_cons (d_var 1 (pv 1)) (da_cons (d_var 8 (pv 8)) da_nil))) (da_cons (d_call ((ok_evened_by T).mono (by decide)) mono_evened_by hr hgd (by rfl) T.g_evened_by T.F_evened_by.kp T.b_evened_by (takesN (takes_of rfl rfl rfl rfl)) (da_cons (d_var 9 (pv 9)) (da_cons (d_call ((ok_evening T).mono (by decide)) mono_evening hr hgd (by rfl) T.g_evening T.F_evening.kp T.b_evening (takesN (takes_of rfl rfl rfl rfl)) (da_cons (d_var 9 (pv 9)) (da_cons (d_var 3 (pv 3)) (da_cons (d_var 4 (pv 4)) da_nil)))) da_nil))) da_nil))) (blkOk_by (N := N__law_right) (sc := defScope s__law_right) (by decide +kernel)) (fun _ _ _ _ _ => (dg_seq rfl (dgs_cons (dg_name false (i := 12) (sc__law_right).nd rfl (by first | exact Or.inl rfl | exact Or.inr rfl) rfl) (dgs_cons (dg_name false (i := 13) (sc__law_right).nd rfl (by first | exact Or.inl rfl | exact Or.inr rfl) rfl) dgs_nil)))) (fun _ _ _ _ _ => dts_nil) (fun _ _ _ _ _ => (d_sub (d_var 13 (pv 13)) (d_var 12 (pv 12)))))
(dss_cons (ds_if (dt_bor (dt_ne hr.units (d_callB n_sortedI (by rfl) T.n_sorted bo_sorted (da_cons (d_var 11 (pv 11)) da_nil)) (d_add4 (d_mul3 (d_lst (da_cons d_int da_nil)) (d_add4 (d_sub (d_var 5 (pv 5)) (d_callB n_len (by rfl) T.n_len bo_len (da_cons (d_var 10 (pv 10)) da_nil))) (d_callB n_len (by rfl) T.n_len bo_len (da_cons (d_var 7 (pv 7)) da_nil)))) (d_mul3 (d_lst (da_cons d_int da_nil)) (d_sub (d_callB n_len (by rfl) T.n_len bo_len (da_cons (d_var 10 (pv 10)) da_nil)) (d_callB n_len (by rfl) T.n_len bo_len (da_cons (d_var 7 (pv 7)) da_nil)))))))
 (dss_one (ds_ret d_bl))
 dss_nil)
(dss_one (ds_ret (d_call (ok__law_parted_right T) mono__law_parted_right hr hgd (by rfl) T.g__law_parted_right T.F__law_parted_right.kp T.b__law_parted_right (takesN (takes_of rfl rfl rfl rfl)) (da_late 0 (pv 0) (da_cons (d_var 2 (pv 2)) (da_cons (d_var 3 (pv 3)) (da_cons (d_var 4 (pv 4)) (da_cons (d_frz 7 (pv 7)) da_nil))))))))))))))))))))
theorem ok_law {P : Program} {w : World} {K : PySem.W.Frag} {mg : Str → Option Value} {base : Heap} (T : Txt K mg) : FnG P w K mg base 9 T.a_law T.d_law ["_law_script"] (spD K mg [false] sp_law) := by
  refine fnD_of2 (N := N_law) (k := 8) T.F_law sc_law rfl fun cdv A outer s H E hr hgd => ⟨t_law, ?_, fun ts Q E hl h => rd_law h⟩
  exact (dss_cons (ds_set (i := 1) true (sc_law).nd rfl (by first | exact Or.inl rfl | exact Or.inr rfl) (d_call ((ok__law_bag T).mono (by decide)) mono__law_bag hr hgd (by rfl) T.g__law_bag T.F__law_bag.kp T.b__law_bag (takesN (takes_of rfl rfl rfl rfl)) (da_cons (d_var 0 (pv 0)) da_nil)) rfl)
(dss_cons (ds_for (passes_of rfl) rfl (di_range1 (by rfl) T.n_range (da_cons d_int da_nil)) (dg_name false (i := 2) (sc_law).nd rfl (by first | exact Or.inl rfl | exact Or.inr rfl) rfl)
 (dss_cons (ds_set (i := 3) false (sc_law).nd rfl (by first | exact Or.inl rfl | exact Or.inr rfl) (d_eq hr.units (d_call ((ok__law_take T).mono (by decide)) mono__law_take hr hgd (by rfl) T.g__law_take T.F__law_take.kp T.b__law_take (takesN (takes_of rfl rfl rfl rfl)) (da_late 1 (pv 1) (da_cons d_int da_nil))) d_int) rfl)
(dss_cons (ds_set (i := 4) false (sc_law).nd rfl (by first | exact Or.inl rfl | exact Or.inr rfl) (d_add4 d_int (d_call ((ok__law_take T).mono (by decide)) mono__law_take hr hgd (by rfl) T.g__law_take T.F__law_take.kp T.b__law_take (takesN (takes_of rfl rfl rfl rfl)) (da_late 1 (pv 1) (da_cons (d_ite (dt_truth (d_var 3 (pv 3))) d_int d_int) da_nil)))) rfl)
(dss_cons (ds_parO false true (i := 5) (j := 6) rfl (sc_law).nd rfl rfl (by decide) rfl rfl rfl rfl (da_cons (d_call ((ok__law_numbers T).mono (by decide)) mono__law_numbers hr hgd (by rfl) T.g__law_numbers T.F__law_numbers.kp T.b__law_numbers (takesN (takes_of rfl rfl rfl rfl)) (da_late 1 (pv 1) (da_cons (d_var 4 (pv 4)) (da_cons (d_call ((ok__law_take T).mono (by decide)) mono__law_take hr hgd (by rfl) T.g__law_take T.F__law_take.kp T.b__law_take (takesN (takes_of rfl rfl rfl rfl)) (da_late 1 (pv 1) (da_cons (d_ite (dt_truth (d_var 3 (pv 3))) d_int d_int) da_nil))) da_nil)))) (da_cons (d_lst da_nil) da_nil)) (by rfl))
(dss_cons (ds_set (i := 7) false (sc_law).nd rfl (by first | exact Or.inl rfl | exact Or.inr rfl) (d_call ((ok__law_made T).mono (by decide)) mono__law_made hr hgd (by rfl) T.g__law_made T.F__law_made.kp T.b__law_made (takesN (takes_of rfl rfl rfl rfl)) (da_cons (d_var 5 (pv 5)) (da_cons (d_var 4 (pv 4)) (da_cons (d_dget (du1 hr.units) (d_var 5 (pv 5)) d_str) da_nil)))) rfl)
(dss_cons (ds_for (passes_of rfl) rfl (di_range1 (by rfl) T.n_range (da_cons d_int da_nil)) (dg_name false (i := 8) (sc_law).nd rfl (by first | exact Or.inl rfl | exact Or.inr rfl) rfl)
 (dss_one (ds_expr (d_app 6 (pv 6) (d_tup (da_cons (d_call ((ok__law_many T).mono (by decide)) mono__law_many hr hgd (by rfl) T.g__law_many T.F__law_many.kp T.b__law_many (takesN (takes_of rfl rfl rfl rfl)) (da_late 1 (pv 1) (da_cons (d_var 4 (pv 4)) da_nil))) (da_cons (d_lc (own := [("_law_hand", 11)]) rfl (sc_law).nd (di_range1 (by rfl) T.n_range (da_cons (d_var 4 (pv 4)) da_nil)) (blkOk_by (N := N_law) (sc := defScope s_law) (by decide +kernel)) (fun _ _ _ _ _ => (dg_name false (i := 11) (sc_law).nd rfl (by first | exact Or.inl rfl | exact Or.inr rfl) rfl)) (fun _ _ _ _ _ => dts_nil) (fun _ _ _ _ _ => (d_call ((ok__law_one T).mono (by decide)) mono__law_one hr hgd (by rfl) T.g__law_one T.F__law_one.kp T.b__law_one DL.takes0 (da_late 1 (pv 1) (da_cons (d_lst (da_cons d_int (da_cons d_int (da_cons d_int (da_cons d_int (da_cons d_int da_nil)))))) da_nil))))) da_nil)))))))
(dss_one (ds_for (passes_of rfl) rfl (di_seq (d_add4 (d_frz 6 (pv 6)) (d_sliceA (d_frz 6 (pv 6)) do_none (do_some d_int)))) (dg_seq rfl (dgs_cons (dg_name false (i := 9) (sc_law).nd rfl (by first | exact Or.inl rfl | exact Or.inr rfl) rfl) (dgs_cons (dg_name false (i := 10) (sc_law).nd rfl (by first | exact Or.inl rfl | exact Or.inr rfl) rfl) dgs_nil)))
 (dss_one (ds_if (dt_not (dt_truth (d_call (ok__law_right T) mono__law_right hr hgd (by rfl) T.g__law_right T.F__law_right.kp T.b__law_right (takesN (takes_of rfl rfl rfl rfl)) (da_late 1 (pv 1) (da_cons (d_var 7 (pv 7)) (da_cons (d_var 5 (pv 5)) (da_cons (d_var 9 (pv 9)) (da_cons (d_var 10 (pv 10)) da_nil))))))))
 (dss_one (ds_ret d_bl))
 dss_nil))))))))))
(dss_one (ds_ret d_bl))))
end
theorem binds_nil {K : PySem.W.Frag} {fd : FuncData} {ps : List Str} (h : ∃ ds, Vals [] ds ∧ Binds K fd ps ds) : Binds K fd ps [] := by
  obtain ⟨ds, r, b⟩ := h
  cases r
  exact b
theorem all_mk {l : PySem.W.OpenLaw} {w : World} {K : PySem.W.Frag} {h : Heap} {mg : Str → Option Value} {fa f0 f1 f2 f3 f4 f5 f6 f7 f8 f9 f10 f11 f12 f13 f14 f15 f16 f17 f18 f19 f20 f21 f22 f23 f24 f25 f26 f27 f28 f29 f30 f31 f32 f33 f34 f35 f36 f37 f38 f39 f40 f41 : Addr} (X : K.In h) (G : h.Ns mainGlobals mg) (hfa : mg "law" = some (.ref fa))
    {od0 an0 od1 an1 od2 an2 od3 an3 od4 an4 od5 an5 od6 an6 od7 an7 od8 an8 od9 an9 od10 an10 od11 an11 od12 an12 od13 an13 od14 an14 od15 an15 od16 an16 od17 an17 od18 an18 od19 an19 od20 an20 od21 an21 od22 an22 od23 an23 od24 an24 od25 an25 od26 an26 od27 an27 od28 an28 od29 an29 od30 an30 od31 an31 od32 an32 od33 an33 od34 an34 od35 an35 od36 an36 od37 an37 od38 an38 od39 an39 od40 an40 od41 an41 : Option Addr} {sl0 sl1 sl2 sl3 sl4 sl5 sl6 sl7 sl8 sl9 sl10 sl11 sl12 sl13 sl14 sl15 sl16 sl17 sl18 sl19 sl20 sl21 sl22 sl23 sl24 sl25 sl26 sl27 sl28 sl29 sl30 sl31 sl32 sl33 sl34 sl35 sl36 sl37 sl38 sl39 sl40 sl41 : Array (Option Value)} {oc0 kV0 dc0 pm0 cd0 ct0 oc1 kV1 dc1 pm1 cd1 ct1 oc2 kV2 dc2 pm2 cd2 ct2 oc3 kV3 dc3 pm3 cd3 ct3 oc4 kV4 dc4 pm4 cd4 ct4 oc5 kV5 dc5 pm5 cd5 ct5 oc6 kV6 dc6 pm6 cd6 ct6 oc7 kV7 dc7 pm7 cd7 ct7 oc8 kV8 dc8 pm8 cd8 ct8 oc9 kV9 dc9 pm9 cd9 ct9 oc10 kV10 dc10 pm10 cd10 ct10 oc11 kV11 dc11 pm11 cd11 ct11 oc12 kV12 dc12 pm12 cd12 ct12 oc13 kV13 dc13 pm13 cd13 ct13 oc14 kV14 dc14 pm14 cd14 ct14 oc15 kV15 dc15 pm15 cd15 ct15 oc16 kV16 dc16 pm16 cd16 ct16 oc17 kV17 dc17 pm17 cd17 ct17 oc18 kV18 dc18 pm18 cd18 ct18 oc19 kV19 dc19 pm19 cd19 ct19 oc20 kV20 dc20 pm20 cd20 ct20 oc21 kV21 dc21 pm21 cd21 ct21 oc22 kV22 dc22 pm22 cd22 ct22 oc23 kV23 dc23 pm23 cd23 ct23 oc24 kV24 dc24 pm24 cd24 ct24 oc25 kV25 dc25 pm25 cd25 ct25 oc26 kV26 dc26 pm26 cd26 ct26 oc27 kV27 dc27 pm27 cd27 ct27 oc28 kV28 dc28 pm28 cd28 ct28 oc29 kV29 dc29 pm29 cd29 ct29 oc30 kV30 dc30 pm30 cd30 ct30 oc31 kV31 dc31 pm31 cd31 ct31 oc32 kV32 dc32 pm32 cd32 ct32 oc33 kV33 dc33 pm33 cd33 ct33 oc34 kV34 dc34 pm34 cd34 ct34 oc35 kV35 dc35 pm35 cd35 ct35 oc36 kV36 dc36 pm36 cd36 ct36 oc37 kV37 dc37 pm37 cd37 ct37 oc38 kV38 dc38 pm38 cd38 ct38 oc39 kV39 dc39 pm39 cd39 ct39 oc40 kV40 dc40 pm40 cd40 ct40 oc41 kV41 dc41 pm41 cd41 ct41 : Value}
    {kc0 kc1 kc2 kc3 : Addr}
    {sp3_0 sp3_1 sp3_2 sp3_3 sp3_4 sp3_5 : Addr}
    {dT7 : Addr} {dW7 : Option Addr} {dN7 : Nat} {dS7 : Array (Option Value)} {dT14 : Addr} {dW14 : Option Addr} {dN14 : Nat} {dS14 : Array (Option Value)} {dU14_2 : Tok} {dT23 : Addr} {dW23 : Option Addr} {dN23 : Nat} {dS23 : Array (Option Value)} {dU23_0 : Tok} {dU23_3 : Tok} {u_MOST_HANDS : Tok} {u_MOST_SEATS : Tok} {u_MOST_STEP_lists : Tok} {u_MOST_AREAS : Tok} {u_MOST_EVENED : Tok} {u_MOST_STEP_lands : Tok}
    {c0_ c1_ c8_ c12_ : Addr}
    (aC0 : PySem.W.nsIn K mainGlobals "Way" = some (some (.ref kc0)))
    (pg0 : PySem.W.plainGet K kc0 Str.empty = true)
    (hd0 : PySem.W.hasDictIn K kc0 = true)
    (po0 : PySem.W.plainOver K kc0 = true)
    (sa0 : PySem.W.findIn K (.ref kc0) "__setattr__" = some (some (.builtin "object.__setattr__")))
    (mk0 : PySem.W.makesIn K kc0 = true)
    (kk0 : PySem.W.keepIn K (.ref kc0) = true)
    (nA0_0 : PySem.W.findIn K (.ref kc0) "hands" = some none)
    (nA0_1 : PySem.W.findIn K (.ref kc0) "seats" = some none)
    (nA0_2 : PySem.W.findIn K (.ref kc0) "lots" = some none)
    (aC1 : PySem.W.nsIn K mainGlobals "Lists" = some (some (.ref kc1)))
    (pg1 : PySem.W.plainGet K kc1 Str.empty = true)
    (hd1 : PySem.W.hasDictIn K kc1 = true)
    (po1 : PySem.W.plainOver K kc1 = true)
    (sa1 : PySem.W.findIn K (.ref kc1) "__setattr__" = some (some (.builtin "object.__setattr__")))
    (mk1 : PySem.W.makesIn K kc1 = true)
    (kk1 : PySem.W.keepIn K (.ref kc1) = true)
    (nA1_0 : PySem.W.findIn K (.ref kc1) "hands" = some none)
    (nA1_1 : PySem.W.findIn K (.ref kc1) "seats" = some none)
    (nA1_2 : PySem.W.findIn K (.ref kc1) "lots" = some none)
    (nA1_3 : PySem.W.findIn K (.ref kc1) "hurdle" = some none)
    (nA1_4 : PySem.W.findIn K (.ref kc1) "step" = some none)
    (aC2 : PySem.W.nsIn K mainGlobals "Pairs" = some (some (.ref kc2)))
    (pg2 : PySem.W.plainGet K kc2 Str.empty = true)
    (hd2 : PySem.W.hasDictIn K kc2 = true)
    (po2 : PySem.W.plainOver K kc2 = true)
    (sa2 : PySem.W.findIn K (.ref kc2) "__setattr__" = some (some (.builtin "object.__setattr__")))
    (mk2 : PySem.W.makesIn K kc2 = true)
    (kk2 : PySem.W.keepIn K (.ref kc2) = true)
    (nA2_0 : PySem.W.findIn K (.ref kc2) "hands" = some none)
    (nA2_1 : PySem.W.findIn K (.ref kc2) "seats" = some none)
    (nA2_2 : PySem.W.findIn K (.ref kc2) "lots" = some none)
    (aC3 : PySem.W.nsIn K mainGlobals "Land" = some (some (.ref kc3)))
    (pg3 : PySem.W.plainGet K kc3 Str.empty = true)
    (hd3 : PySem.W.isClsIn K kc3 = true)
    (po3 : PySem.W.plainOver K kc3 = true)
    (sa3 : PySem.W.findIn K (.ref kc3) "__setattr__" = some (some (.builtin "object.__setattr__")))
    (mk3 : PySem.W.makesIn K kc3 = true)
    (kk3 : PySem.W.keepIn K (.ref kc3) = true)
    (nA3_0 : PySem.W.findIn K (.ref kc3) "areas" = some (some (.ref sp3_0)))
    (nB3_0 : PySem.W.specialIn K (.ref sp3_0) "__get__" = some (some (.builtin "member_descriptor.__get__")))
    (nC3_0 : PySem.W.takesIn K (.ref sp3_0) = some true)
    (nD3_0 : PySem.W.slotIn K sp3_0 kc3 = some 0)
    (nE3_0 : PySem.W.typeIn K (.ref sp3_0) = some (.type "member_descriptor"))
    (nA3_1 : PySem.W.findIn K (.ref kc3) "hands" = some (some (.ref sp3_1)))
    (nB3_1 : PySem.W.specialIn K (.ref sp3_1) "__get__" = some (some (.builtin "member_descriptor.__get__")))
    (nC3_1 : PySem.W.takesIn K (.ref sp3_1) = some true)
    (nD3_1 : PySem.W.slotIn K sp3_1 kc3 = some 2)
    (nE3_1 : PySem.W.typeIn K (.ref sp3_1) = some (.type "member_descriptor"))
    (nA3_2 : PySem.W.findIn K (.ref kc3) "lots" = some (some (.ref sp3_2)))
    (nB3_2 : PySem.W.specialIn K (.ref sp3_2) "__get__" = some (some (.builtin "member_descriptor.__get__")))
    (nC3_2 : PySem.W.takesIn K (.ref sp3_2) = some true)
    (nD3_2 : PySem.W.slotIn K sp3_2 kc3 = some 4)
    (nE3_2 : PySem.W.typeIn K (.ref sp3_2) = some (.type "member_descriptor"))
    (nA3_3 : PySem.W.findIn K (.ref kc3) "hurdle" = some (some (.ref sp3_3)))
    (nB3_3 : PySem.W.specialIn K (.ref sp3_3) "__get__" = some (some (.builtin "member_descriptor.__get__")))
    (nC3_3 : PySem.W.takesIn K (.ref sp3_3) = some true)
    (nD3_3 : PySem.W.slotIn K sp3_3 kc3 = some 3)
    (nE3_3 : PySem.W.typeIn K (.ref sp3_3) = some (.type "member_descriptor"))
    (nA3_4 : PySem.W.findIn K (.ref kc3) "evened" = some (some (.ref sp3_4)))
    (nB3_4 : PySem.W.specialIn K (.ref sp3_4) "__get__" = some (some (.builtin "member_descriptor.__get__")))
    (nC3_4 : PySem.W.takesIn K (.ref sp3_4) = some true)
    (nD3_4 : PySem.W.slotIn K sp3_4 kc3 = some 1)
    (nE3_4 : PySem.W.typeIn K (.ref sp3_4) = some (.type "member_descriptor"))
    (nA3_5 : PySem.W.findIn K (.ref kc3) "step" = some (some (.ref sp3_5)))
    (nB3_5 : PySem.W.specialIn K (.ref sp3_5) "__get__" = some (some (.builtin "member_descriptor.__get__")))
    (nC3_5 : PySem.W.takesIn K (.ref sp3_5) = some true)
    (nD3_5 : PySem.W.slotIn K sp3_5 kc3 = some 5)
    (nE3_5 : PySem.W.typeIn K (.ref sp3_5) = some (.type "member_descriptor"))
    (a0 : PySem.W.nsIn K mainGlobals "is_whole" = some (some (.ref f0))) (l0 : K.lookup f0 = some ⟨oc0, od0, .func (PySem.W.fnOf "is_whole" "is_whole" (defArgs s_is_whole) (defBody s_is_whole) (defScope s_is_whole) .none kV0 dc0 pm0 an0 cd0 ct0), sl0⟩) (c0 : PySem.W.codeIn K cd0 "is_whole" = true) (k0 : PySem.W.keepIn K (.ref f0) = true)
    (a1 : PySem.W.nsIn K mainGlobals "divisor" = some (some (.ref f1))) (l1 : K.lookup f1 = some ⟨oc1, od1, .func (PySem.W.fnOf "divisor" "divisor" (defArgs s_divisor) (defBody s_divisor) (defScope s_divisor) .none kV1 dc1 pm1 an1 cd1 ct1), sl1⟩) (c1 : PySem.W.codeIn K cd1 "divisor" = true) (k1 : PySem.W.keepIn K (.ref f1) = true)
    (a2 : PySem.W.nsIn K mainGlobals "up" = some (some (.ref f2))) (l2 : K.lookup f2 = some ⟨oc2, od2, .func (PySem.W.fnOf "up" "up" (defArgs s_up) (defBody s_up) (defScope s_up) .none kV2 dc2 pm2 an2 cd2 ct2), sl2⟩) (c2 : PySem.W.codeIn K cd2 "up" = true) (k2 : PySem.W.keepIn K (.ref f2) = true)
    (a3 : PySem.W.nsIn K mainGlobals "fraction" = some (some (.ref f3))) (l3 : K.lookup f3 = some ⟨oc3, od3, .func (PySem.W.fnOf "fraction" "fraction" (defArgs s_fraction) (defBody s_fraction) (defScope s_fraction) .none kV3 dc3 pm3 an3 cd3 ct3), sl3⟩) (c3 : PySem.W.codeIn K cd3 "fraction" = true) (k3 : PySem.W.keepIn K (.ref f3) = true)
    (a4 : PySem.W.nsIn K mainGlobals "under" = some (some (.ref f4))) (l4 : K.lookup f4 = some ⟨oc4, od4, .func (PySem.W.fnOf "under" "under" (defArgs s_under) (defBody s_under) (defScope s_under) .none kV4 dc4 pm4 an4 cd4 ct4), sl4⟩) (c4 : PySem.W.codeIn K cd4 "under" = true) (k4 : PySem.W.keepIn K (.ref f4) = true)
    (a5 : PySem.W.nsIn K mainGlobals "members" = some (some (.ref f5))) (l5 : K.lookup f5 = some ⟨oc5, od5, .func (PySem.W.fnOf "members" "members" (defArgs s_members) (defBody s_members) (defScope s_members) .none kV5 dc5 pm5 an5 cd5 ct5), sl5⟩) (c5 : PySem.W.codeIn K cd5 "members" = true) (k5 : PySem.W.keepIn K (.ref f5) = true)
    (a6 : PySem.W.nsIn K mainGlobals "lots_of" = some (some (.ref f6))) (l6 : K.lookup f6 = some ⟨oc6, od6, .func (PySem.W.fnOf "lots_of" "lots_of" (defArgs s_lots_of) (defBody s_lots_of) (defScope s_lots_of) .none kV6 dc6 pm6 an6 cd6 ct6), sl6⟩) (c6 : PySem.W.codeIn K cd6 "lots_of" = true) (k6 : PySem.W.keepIn K (.ref f6) = true)
    (i7 : PySem.W.isFn K (.ref f7) = true) (l7 : K.lookup f7 = some ⟨oc7, od7, .func (PySem.W.fnOf "__init__" "Way.__init__" (defArgs s_Way_init) (defBody s_Way_init) (defScope s_Way_init) (.ref dT7) kV7 dc7 pm7 an7 cd7 ct7), sl7⟩) (c7 : PySem.W.codeIn K cd7 "Way.__init__" = true) (k7 : PySem.W.keepIn K (.ref f7) = true)
    (dl7 : K.lookup dT7 = some ⟨.type "tuple", dW7, .seq #[Value.none] dN7, dS7⟩)
    (a8 : PySem.W.nsIn K mainGlobals "vote_of" = some (some (.ref f8))) (l8 : K.lookup f8 = some ⟨oc8, od8, .func (PySem.W.fnOf "vote_of" "vote_of" (defArgs s_vote_of) (defBody s_vote_of) (defScope s_vote_of) .none kV8 dc8 pm8 an8 cd8 ct8), sl8⟩) (c8 : PySem.W.codeIn K cd8 "vote_of" = true) (k8 : PySem.W.keepIn K (.ref f8) = true)
    (a9 : PySem.W.nsIn K mainGlobals "votes_of" = some (some (.ref f9))) (l9 : K.lookup f9 = some ⟨oc9, od9, .func (PySem.W.fnOf "votes_of" "votes_of" (defArgs s_votes_of) (defBody s_votes_of) (defScope s_votes_of) .none kV9 dc9 pm9 an9 cd9 ct9), sl9⟩) (c9 : PySem.W.codeIn K cd9 "votes_of" = true) (k9 : PySem.W.keepIn K (.ref f9) = true)
    (a10 : PySem.W.nsIn K mainGlobals "hurdle_of" = some (some (.ref f10))) (l10 : K.lookup f10 = some ⟨oc10, od10, .func (PySem.W.fnOf "hurdle_of" "hurdle_of" (defArgs s_hurdle_of) (defBody s_hurdle_of) (defScope s_hurdle_of) .none kV10 dc10 pm10 an10 cd10 ct10), sl10⟩) (c10 : PySem.W.codeIn K cd10 "hurdle_of" = true) (k10 : PySem.W.keepIn K (.ref f10) = true)
    (a11 : PySem.W.nsIn K mainGlobals "marks_of" = some (some (.ref f11))) (l11 : K.lookup f11 = some ⟨oc11, od11, .func (PySem.W.fnOf "marks_of" "marks_of" (defArgs s_marks_of) (defBody s_marks_of) (defScope s_marks_of) .none kV11 dc11 pm11 an11 cd11 ct11), sl11⟩) (c11 : PySem.W.codeIn K cd11 "marks_of" = true) (k11 : PySem.W.keepIn K (.ref f11) = true)
    (a12 : PySem.W.nsIn K mainGlobals "goes_ahead" = some (some (.ref f12))) (l12 : K.lookup f12 = some ⟨oc12, od12, .func (PySem.W.fnOf "goes_ahead" "goes_ahead" (defArgs s_goes_ahead) (defBody s_goes_ahead) (defScope s_goes_ahead) .none kV12 dc12 pm12 an12 cd12 ct12), sl12⟩) (c12 : PySem.W.codeIn K cd12 "goes_ahead" = true) (k12 : PySem.W.keepIn K (.ref f12) = true)
    (a13 : PySem.W.nsIn K mainGlobals "seat_due" = some (some (.ref f13))) (l13 : K.lookup f13 = some ⟨oc13, od13, .func (PySem.W.fnOf "seat_due" "seat_due" (defArgs s_seat_due) (defBody s_seat_due) (defScope s_seat_due) .none kV13 dc13 pm13 an13 cd13 ct13), sl13⟩) (c13 : PySem.W.codeIn K cd13 "seat_due" = true) (k13 : PySem.W.keepIn K (.ref f13) = true)
    (a14_1 : PySem.W.findIn K (.ref kc1) "__init__" = some (some (.ref f14)))
    (i14 : PySem.W.isFn K (.ref f14) = true) (l14 : K.lookup f14 = some ⟨oc14, od14, .func (PySem.W.fnOf "__init__" "Lists.__init__" (defArgs s_Lists_init) (defBody s_Lists_init) (defScope s_Lists_init) (.ref dT14) kV14 dc14 pm14 an14 cd14 ct14), sl14⟩) (c14 : PySem.W.codeIn K cd14 "Lists.__init__" = true) (k14 : PySem.W.keepIn K (.ref f14) = true)
    (dl14 : K.lookup dT14 = some ⟨.type "tuple", dW14, .seq #[Value.none, Value.none, (Value.int 1 dU14_2)] dN14, dS14⟩)
    (a15 : PySem.W.nsIn K mainGlobals "rounds_of" = some (some (.ref f15))) (l15 : K.lookup f15 = some ⟨oc15, od15, .func (PySem.W.fnOf "rounds_of" "rounds_of" (defArgs s_rounds_of) (defBody s_rounds_of) (defScope s_rounds_of) .none kV15 dc15 pm15 an15 cd15 ct15), sl15⟩) (c15 : PySem.W.codeIn K cd15 "rounds_of" = true) (k15 : PySem.W.keepIn K (.ref f15) = true)
    (a16 : PySem.W.nsIn K mainGlobals "evening" = some (some (.ref f16))) (l16 : K.lookup f16 = some ⟨oc16, od16, .func (PySem.W.fnOf "evening" "evening" (defArgs s_evening) (defBody s_evening) (defScope s_evening) .none kV16 dc16 pm16 an16 cd16 ct16), sl16⟩) (c16 : PySem.W.codeIn K cd16 "evening" = true) (k16 : PySem.W.keepIn K (.ref f16) = true)
    (a17 : PySem.W.nsIn K mainGlobals "evened_by" = some (some (.ref f17))) (l17 : K.lookup f17 = some ⟨oc17, od17, .func (PySem.W.fnOf "evened_by" "evened_by" (defArgs s_evened_by) (defBody s_evened_by) (defScope s_evened_by) .none kV17 dc17 pm17 an17 cd17 ct17), sl17⟩) (c17 : PySem.W.codeIn K cd17 "evened_by" = true) (k17 : PySem.W.keepIn K (.ref f17) = true)
    (a18 : PySem.W.nsIn K mainGlobals "goes_first" = some (some (.ref f18))) (l18 : K.lookup f18 = some ⟨oc18, od18, .func (PySem.W.fnOf "goes_first" "goes_first" (defArgs s_goes_first) (defBody s_goes_first) (defScope s_goes_first) .none kV18 dc18 pm18 an18 cd18 ct18), sl18⟩) (c18 : PySem.W.codeIn K cd18 "goes_first" = true) (k18 : PySem.W.keepIn K (.ref f18) = true)
    (a19 : PySem.W.nsIn K mainGlobals "first_of" = some (some (.ref f19))) (l19 : K.lookup f19 = some ⟨oc19, od19, .func (PySem.W.fnOf "first_of" "first_of" (defArgs s_first_of) (defBody s_first_of) (defScope s_first_of) .none kV19 dc19 pm19 an19 cd19 ct19), sl19⟩) (c19 : PySem.W.codeIn K cd19 "first_of" = true) (k19 : PySem.W.keepIn K (.ref f19) = true)
    (a20 : PySem.W.nsIn K mainGlobals "waiting" = some (some (.ref f20))) (l20 : K.lookup f20 = some ⟨oc20, od20, .func (PySem.W.fnOf "waiting" "waiting" (defArgs s_waiting) (defBody s_waiting) (defScope s_waiting) .none kV20 dc20 pm20 an20 cd20 ct20), sl20⟩) (c20 : PySem.W.codeIn K cd20 "waiting" = true) (k20 : PySem.W.keepIn K (.ref f20) = true)
    (a21 : PySem.W.nsIn K mainGlobals "is_count" = some (some (.ref f21))) (l21 : K.lookup f21 = some ⟨oc21, od21, .func (PySem.W.fnOf "is_count" "is_count" (defArgs s_is_count) (defBody s_is_count) (defScope s_is_count) .none kV21 dc21 pm21 an21 cd21 ct21), sl21⟩) (c21 : PySem.W.codeIn K cd21 "is_count" = true) (k21 : PySem.W.keepIn K (.ref f21) = true)
    (a22 : PySem.W.nsIn K mainGlobals "areas_of" = some (some (.ref f22))) (l22 : K.lookup f22 = some ⟨oc22, od22, .func (PySem.W.fnOf "areas_of" "areas_of" (defArgs s_areas_of) (defBody s_areas_of) (defScope s_areas_of) .none kV22 dc22 pm22 an22 cd22 ct22), sl22⟩) (c22 : PySem.W.codeIn K cd22 "areas_of" = true) (k22 : PySem.W.keepIn K (.ref f22) = true)
    (a23_3 : PySem.W.findIn K (.ref kc3) "__init__" = some (some (.ref f23)))
    (i23 : PySem.W.isFn K (.ref f23) = true) (l23 : K.lookup f23 = some ⟨oc23, od23, .func (PySem.W.fnOf "__init__" "Land.__init__" (defArgs s_Land_init) (defBody s_Land_init) (defScope s_Land_init) (.ref dT23) kV23 dc23 pm23 an23 cd23 ct23), sl23⟩) (c23 : PySem.W.codeIn K cd23 "Land.__init__" = true) (k23 : PySem.W.keepIn K (.ref f23) = true)
    (dl23 : K.lookup dT23 = some ⟨.type "tuple", dW23, .seq #[(Value.int 0 dU23_0), Value.none, Value.none, (Value.int 1 dU23_3)] dN23, dS23⟩)
    (a24_3 : PySem.W.findIn K (.ref kc3) "ahead" = some (some (.ref f24)))
    (i24 : PySem.W.isFn K (.ref f24) = true) (l24 : K.lookup f24 = some ⟨oc24, od24, .func (PySem.W.fnOf "ahead" "Land.ahead" (defArgs s_Land_ahead) (defBody s_Land_ahead) (defScope s_Land_ahead) .none kV24 dc24 pm24 an24 cd24 ct24), sl24⟩) (c24 : PySem.W.codeIn K cd24 "Land.ahead" = true) (k24 : PySem.W.keepIn K (.ref f24) = true)
    (a25_3 : PySem.W.findIn K (.ref kc3) "least_votes" = some (some (.ref f25)))
    (i25 : PySem.W.isFn K (.ref f25) = true) (l25 : K.lookup f25 = some ⟨oc25, od25, .func (PySem.W.fnOf "least_votes" "Land.least_votes" (defArgs s_Land_least_votes) (defBody s_Land_least_votes) (defScope s_Land_least_votes) .none kV25 dc25 pm25 an25 cd25 ct25), sl25⟩) (c25 : PySem.W.codeIn K cd25 "Land.least_votes" = true) (k25 : PySem.W.keepIn K (.ref f25) = true)
    (a26_3 : PySem.W.findIn K (.ref kc3) "mark" = some (some (.ref f26)))
    (i26 : PySem.W.isFn K (.ref f26) = true) (l26 : K.lookup f26 = some ⟨oc26, od26, .func (PySem.W.fnOf "mark" "Land.mark" (defArgs s_Land_mark) (defBody s_Land_mark) (defScope s_Land_mark) .none kV26 dc26 pm26 an26 cd26 ct26), sl26⟩) (c26 : PySem.W.codeIn K cd26 "Land.mark" = true) (k26 : PySem.W.keepIn K (.ref f26) = true)
    (a27 : PySem.W.nsIn K mainGlobals "_law_bag" = some (some (.ref f27))) (l27 : K.lookup f27 = some ⟨oc27, od27, .func (PySem.W.fnOf "_law_bag" "_law_bag" (defArgs s__law_bag) (defBody s__law_bag) (defScope s__law_bag) .none kV27 dc27 pm27 an27 cd27 ct27), sl27⟩) (c27 : PySem.W.codeIn K cd27 "_law_bag" = true) (k27 : PySem.W.keepIn K (.ref f27) = true)
    (a28 : PySem.W.nsIn K mainGlobals "_law_take" = some (some (.ref f28))) (l28 : K.lookup f28 = some ⟨oc28, od28, .func (PySem.W.fnOf "_law_take" "_law_take" (defArgs s__law_take) (defBody s__law_take) (defScope s__law_take) .none kV28 dc28 pm28 an28 cd28 ct28), sl28⟩) (c28 : PySem.W.codeIn K cd28 "_law_take" = true) (k28 : PySem.W.keepIn K (.ref f28) = true)
    (a29 : PySem.W.nsIn K mainGlobals "_law_one" = some (some (.ref f29))) (l29 : K.lookup f29 = some ⟨oc29, od29, .func (PySem.W.fnOf "_law_one" "_law_one" (defArgs s__law_one) (defBody s__law_one) (defScope s__law_one) .none kV29 dc29 pm29 an29 cd29 ct29), sl29⟩) (c29 : PySem.W.codeIn K cd29 "_law_one" = true) (k29 : PySem.W.keepIn K (.ref f29) = true)
    (a30 : PySem.W.nsIn K mainGlobals "_law_mixed" = some (some (.ref f30))) (l30 : K.lookup f30 = some ⟨oc30, od30, .func (PySem.W.fnOf "_law_mixed" "_law_mixed" (defArgs s__law_mixed) (defBody s__law_mixed) (defScope s__law_mixed) .none kV30 dc30 pm30 an30 cd30 ct30), sl30⟩) (c30 : PySem.W.codeIn K cd30 "_law_mixed" = true) (k30 : PySem.W.keepIn K (.ref f30) = true)
    (a31 : PySem.W.nsIn K mainGlobals "_law_alike" = some (some (.ref f31))) (l31 : K.lookup f31 = some ⟨oc31, od31, .func (PySem.W.fnOf "_law_alike" "_law_alike" (defArgs s__law_alike) (defBody s__law_alike) (defScope s__law_alike) .none kV31 dc31 pm31 an31 cd31 ct31), sl31⟩) (c31 : PySem.W.codeIn K cd31 "_law_alike" = true) (k31 : PySem.W.keepIn K (.ref f31) = true)
    (a32 : PySem.W.nsIn K mainGlobals "_law_need" = some (some (.ref f32))) (l32 : K.lookup f32 = some ⟨oc32, od32, .func (PySem.W.fnOf "_law_need" "_law_need" (defArgs s__law_need) (defBody s__law_need) (defScope s__law_need) .none kV32 dc32 pm32 an32 cd32 ct32), sl32⟩) (c32 : PySem.W.codeIn K cd32 "_law_need" = true) (k32 : PySem.W.keepIn K (.ref f32) = true)
    (a33 : PySem.W.nsIn K mainGlobals "_law_part" = some (some (.ref f33))) (l33 : K.lookup f33 = some ⟨oc33, od33, .func (PySem.W.fnOf "_law_part" "_law_part" (defArgs s__law_part) (defBody s__law_part) (defScope s__law_part) .none kV33 dc33 pm33 an33 cd33 ct33), sl33⟩) (c33 : PySem.W.codeIn K cd33 "_law_part" = true) (k33 : PySem.W.keepIn K (.ref f33) = true)
    (a34 : PySem.W.nsIn K mainGlobals "_law_order" = some (some (.ref f34))) (l34 : K.lookup f34 = some ⟨oc34, od34, .func (PySem.W.fnOf "_law_order" "_law_order" (defArgs s__law_order) (defBody s__law_order) (defScope s__law_order) .none kV34 dc34 pm34 an34 cd34 ct34), sl34⟩) (c34 : PySem.W.codeIn K cd34 "_law_order" = true) (k34 : PySem.W.keepIn K (.ref f34) = true)
    (a35 : PySem.W.nsIn K mainGlobals "_law_numbers" = some (some (.ref f35))) (l35 : K.lookup f35 = some ⟨oc35, od35, .func (PySem.W.fnOf "_law_numbers" "_law_numbers" (defArgs s__law_numbers) (defBody s__law_numbers) (defScope s__law_numbers) .none kV35 dc35 pm35 an35 cd35 ct35), sl35⟩) (c35 : PySem.W.codeIn K cd35 "_law_numbers" = true) (k35 : PySem.W.keepIn K (.ref f35) = true)
    (a36 : PySem.W.nsIn K mainGlobals "_law_many" = some (some (.ref f36))) (l36 : K.lookup f36 = some ⟨oc36, od36, .func (PySem.W.fnOf "_law_many" "_law_many" (defArgs s__law_many) (defBody s__law_many) (defScope s__law_many) .none kV36 dc36 pm36 an36 cd36 ct36), sl36⟩) (c36 : PySem.W.codeIn K cd36 "_law_many" = true) (k36 : PySem.W.keepIn K (.ref f36) = true)
    (a37 : PySem.W.nsIn K mainGlobals "_law_due" = some (some (.ref f37))) (l37 : K.lookup f37 = some ⟨oc37, od37, .func (PySem.W.fnOf "_law_due" "_law_due" (defArgs s__law_due) (defBody s__law_due) (defScope s__law_due) .none kV37 dc37 pm37 an37 cd37 ct37), sl37⟩) (c37 : PySem.W.codeIn K cd37 "_law_due" = true) (k37 : PySem.W.keepIn K (.ref f37) = true)
    (a38 : PySem.W.nsIn K mainGlobals "_law_made" = some (some (.ref f38))) (l38 : K.lookup f38 = some ⟨oc38, od38, .func (PySem.W.fnOf "_law_made" "_law_made" (defArgs s__law_made) (defBody s__law_made) (defScope s__law_made) .none kV38 dc38 pm38 an38 cd38 ct38), sl38⟩) (c38 : PySem.W.codeIn K cd38 "_law_made" = true) (k38 : PySem.W.keepIn K (.ref f38) = true)
    (a39 : PySem.W.nsIn K mainGlobals "_law_parted_right" = some (some (.ref f39))) (l39 : K.lookup f39 = some ⟨oc39, od39, .func (PySem.W.fnOf "_law_parted_right" "_law_parted_right" (defArgs s__law_parted_right) (defBody s__law_parted_right) (defScope s__law_parted_right) .none kV39 dc39 pm39 an39 cd39 ct39), sl39⟩) (c39 : PySem.W.codeIn K cd39 "_law_parted_right" = true) (k39 : PySem.W.keepIn K (.ref f39) = true)
    (a40 : PySem.W.nsIn K mainGlobals "_law_right" = some (some (.ref f40))) (l40 : K.lookup f40 = some ⟨oc40, od40, .func (PySem.W.fnOf "_law_right" "_law_right" (defArgs s__law_right) (defBody s__law_right) (defScope s__law_right) .none kV40 dc40 pm40 an40 cd40 ct40), sl40⟩) (c40 : PySem.W.codeIn K cd40 "_law_right" = true) (k40 : PySem.W.keepIn K (.ref f40) = true)
    (a41 : PySem.W.nsIn K mainGlobals "law" = some (some (.ref f41))) (l41 : K.lookup f41 = some ⟨oc41, od41, .func (PySem.W.fnOf "law" "law" (defArgs s_law) (defBody s_law) (defScope s_law) .none kV41 dc41 pm41 an41 cd41 ct41), sl41⟩) (c41 : PySem.W.codeIn K cd41 "law" = true) (k41 : PySem.W.keepIn K (.ref f41) = true)
    (cr0_7 : PySem.W.readsIn K kc0 (.type "type") = true)
    (cg0_7 : PySem.W.specialIn K (.ref kc0) "__getattribute__" = some (some (.builtin "type.__getattribute__")))
    (cv0_7 : PySem.W.findCls K (.ref kc0) (.type "type") "__init__" = some (.val (.ref f7)))
    (z_abs : PySem.W.nsIn K mainGlobals "abs" = some none)
    (z_all : PySem.W.nsIn K mainGlobals "all" = some none)
    (z_any : PySem.W.nsIn K mainGlobals "any" = some none)
    (z_bool : PySem.W.nsIn K mainGlobals "bool" = some none)
    (z_divmod : PySem.W.nsIn K mainGlobals "divmod" = some none)
    (z_int : PySem.W.nsIn K mainGlobals "int" = some none)
    (z_isinstance : PySem.W.nsIn K mainGlobals "isinstance" = some none)
    (z_len : PySem.W.nsIn K mainGlobals "len" = some none)
    (z_list : PySem.W.nsIn K mainGlobals "list" = some none)
    (z_max : PySem.W.nsIn K mainGlobals "max" = some none)
    (z_range : PySem.W.nsIn K mainGlobals "range" = some none)
    (z_repr : PySem.W.nsIn K mainGlobals "repr" = some none)
    (z_set : PySem.W.nsIn K mainGlobals "set" = some none)
    (z_sorted : PySem.W.nsIn K mainGlobals "sorted" = some none)
    (z_sum : PySem.W.nsIn K mainGlobals "sum" = some none)
    (z_tuple : PySem.W.nsIn K mainGlobals "tuple" = some none)
    (z_zip : PySem.W.nsIn K mainGlobals "zip" = some none)
    (ia1 : PySem.W.findIn K (.ref kc1) "__class__" = some (some (.builtin "object.__class__")))
    (io1 : PySem.W.mroIn K kc1 (.type "object") = some true)
    (it1 : PySem.W.typeIn K (.ref kc1) = some (.type "type"))
    (iu1 : PySem.W.subIn K (.ref kc1) (.ref kc1) = some true)
    (it2 : PySem.W.typeIn K (.ref kc2) = some (.type "type"))
    (iu2 : PySem.W.subIn K (.ref kc2) (.ref kc2) = some true)
    (is1_2 : PySem.W.subIn K (.ref kc1) (.ref kc2) = some false)
    (y_MOST_HANDS : PySem.W.nsIn K mainGlobals "MOST_HANDS" = some (some (Value.int 12 u_MOST_HANDS)))
    (y_MOST_SEATS : PySem.W.nsIn K mainGlobals "MOST_SEATS" = some (some (Value.int 60 u_MOST_SEATS)))
    (y_MOST_STEP_lists : PySem.W.nsIn K mainGlobals "MOST_STEP_lists" = some (some (Value.int 9 u_MOST_STEP_lists)))
    (y_MOST_AREAS : PySem.W.nsIn K mainGlobals "MOST_AREAS" = some (some (Value.int 6 u_MOST_AREAS)))
    (y_MOST_EVENED : PySem.W.nsIn K mainGlobals "MOST_EVENED" = some (some (Value.int 60 u_MOST_EVENED)))
    (y_MOST_STEP_lands : PySem.W.nsIn K mainGlobals "MOST_STEP_lands" = some (some (Value.int 9 u_MOST_STEP_lands)))
    (sn0 : PySem.W.specialIn K (.builtin "object.__class__") "__get__" = some (some (.builtin "getset_descriptor.__get__")))
    (tk0 : PySem.W.takesIn K (.builtin "object.__class__") = some true)
    (zc2 : PySem.W.nsIn K mainGlobals "NoBallot" = some none)
    (zc3 : PySem.W.nsIn K mainGlobals "NoSheet" = some none)
    (zc4 : PySem.W.nsIn K mainGlobals "NoChange" = some none)
    (zc5 : PySem.W.nsIn K mainGlobals "Torn" = some none)
    (zc6 : PySem.W.nsIn K mainGlobals "NoBundle" = some none)
    (zc7 : PySem.W.nsIn K mainGlobals "WrongNumber" = some none)
    (zc9 : PySem.W.nsIn K mainGlobals "NoRoll" = some none)
    (zc10 : PySem.W.nsIn K mainGlobals "NoTelling" = some none)
    (zc11 : PySem.W.nsIn K mainGlobals "NoEnvelope" = some none)
    (zc13 : PySem.W.nsIn K mainGlobals "TooMany" = some none)
    (zc14 : PySem.W.nsIn K mainGlobals "NoPoll" = some none)
    (zc15 : PySem.W.nsIn K mainGlobals "NoDeed" = some none)
    (zc16 : PySem.W.nsIn K mainGlobals "Ended" = some none)
    (zc17 : PySem.W.nsIn K mainGlobals "Nothing" = some none)
    (zc18 : PySem.W.nsIn K mainGlobals "NoText" = some none)
    (zc19 : PySem.W.nsIn K mainGlobals "NoRow" = some none)
    (cac0_ : PySem.W.nsIn K mainGlobals "PollError" = some (some (.ref c0_)))
    (cqc0_ : PySem.W.excIn K c0_ [.type "ValueError", .type "Exception", .type "BaseException", .type "object"] "ValueError.__new__" = true)
    (ckc0_ : PySem.W.keepIn K (.ref c0_) = true)
    (cec0_ : PySem.W.subIn K (.ref c0_) (.type "BaseException") = some true)
    (ctc0_ : PySem.W.typeIn K (.ref c0_) = some (.type "type"))
    (chc0_ : PySem.W.hasDictIn K c0_ = true)
    (cgc0_ : PySem.W.findIn K (.ref c0_) "__getattribute__" = some (some (.builtin "BaseException.__getattribute__")))
    (crc0_ : PySem.W.findIn K (.ref c0_) "__getattr__" = some none)
    (ccc0_ : PySem.W.findIn K (.ref c0_) "__class__" = some (some (.builtin "object.__class__")))
    (cmc0_ : PySem.W.mroIn K c0_ (.type "object") = some true)
    (csc0_int : PySem.W.subIn K (.ref c0_) (.type "int") = some false)
    (csc0_bool : PySem.W.subIn K (.ref c0_) (.type "bool") = some false)
    (csc0_str : PySem.W.subIn K (.ref c0_) (.type "str") = some false)
    (csc0_list : PySem.W.subIn K (.ref c0_) (.type "list") = some false)
    (csc0_tuple : PySem.W.subIn K (.ref c0_) (.type "tuple") = some false)
    (csc0_dict : PySem.W.subIn K (.ref c0_) (.type "dict") = some false)
    (cxc0_c8_ : PySem.W.subIn K (.ref c0_) (.ref c8_) = some false)
    (cac1_ : PySem.W.nsIn K mainGlobals "NoNumber" = some (some (.ref c1_)))
    (cqc1_ : PySem.W.excIn K c1_ [.type "ValueError", .type "Exception", .type "BaseException", .type "object"] "ValueError.__new__" = true)
    (ckc1_ : PySem.W.keepIn K (.ref c1_) = true)
    (cec1_ : PySem.W.subIn K (.ref c1_) (.type "BaseException") = some true)
    (ctc1_ : PySem.W.typeIn K (.ref c1_) = some (.type "type"))
    (chc1_ : PySem.W.hasDictIn K c1_ = true)
    (cgc1_ : PySem.W.findIn K (.ref c1_) "__getattribute__" = some (some (.builtin "BaseException.__getattribute__")))
    (crc1_ : PySem.W.findIn K (.ref c1_) "__getattr__" = some none)
    (ccc1_ : PySem.W.findIn K (.ref c1_) "__class__" = some (some (.builtin "object.__class__")))
    (cmc1_ : PySem.W.mroIn K c1_ (.type "object") = some true)
    (csc1_int : PySem.W.subIn K (.ref c1_) (.type "int") = some false)
    (csc1_bool : PySem.W.subIn K (.ref c1_) (.type "bool") = some false)
    (csc1_str : PySem.W.subIn K (.ref c1_) (.type "str") = some false)
    (csc1_list : PySem.W.subIn K (.ref c1_) (.type "list") = some false)
    (csc1_tuple : PySem.W.subIn K (.ref c1_) (.type "tuple") = some false)
    (csc1_dict : PySem.W.subIn K (.ref c1_) (.type "dict") = some false)
    (cxc1_c8_ : PySem.W.subIn K (.ref c1_) (.ref c8_) = some false)
    (cac8_ : PySem.W.nsIn K mainGlobals "NoWay" = some (some (.ref c8_)))
    (cqc8_ : PySem.W.excIn K c8_ [.type "ValueError", .type "Exception", .type "BaseException", .type "object"] "ValueError.__new__" = true)
    (ckc8_ : PySem.W.keepIn K (.ref c8_) = true)
    (cec8_ : PySem.W.subIn K (.ref c8_) (.type "BaseException") = some true)
    (ctc8_ : PySem.W.typeIn K (.ref c8_) = some (.type "type"))
    (chc8_ : PySem.W.hasDictIn K c8_ = true)
    (cgc8_ : PySem.W.findIn K (.ref c8_) "__getattribute__" = some (some (.builtin "BaseException.__getattribute__")))
    (crc8_ : PySem.W.findIn K (.ref c8_) "__getattr__" = some none)
    (ccc8_ : PySem.W.findIn K (.ref c8_) "__class__" = some (some (.builtin "object.__class__")))
    (cmc8_ : PySem.W.mroIn K c8_ (.type "object") = some true)
    (csc8_int : PySem.W.subIn K (.ref c8_) (.type "int") = some false)
    (csc8_bool : PySem.W.subIn K (.ref c8_) (.type "bool") = some false)
    (csc8_str : PySem.W.subIn K (.ref c8_) (.type "str") = some false)
    (csc8_list : PySem.W.subIn K (.ref c8_) (.type "list") = some false)
    (csc8_tuple : PySem.W.subIn K (.ref c8_) (.type "tuple") = some false)
    (csc8_dict : PySem.W.subIn K (.ref c8_) (.type "dict") = some false)
    (cxc8_c8_ : PySem.W.subIn K (.ref c8_) (.ref c8_) = some true)
    (cac12_ : PySem.W.nsIn K mainGlobals "NoLand" = some (some (.ref c12_)))
    (cqc12_ : PySem.W.excIn K c12_ [.type "ValueError", .type "Exception", .type "BaseException", .type "object"] "ValueError.__new__" = true)
    (ckc12_ : PySem.W.keepIn K (.ref c12_) = true)
    (cec12_ : PySem.W.subIn K (.ref c12_) (.type "BaseException") = some true)
    (ctc12_ : PySem.W.typeIn K (.ref c12_) = some (.type "type"))
    (chc12_ : PySem.W.hasDictIn K c12_ = true)
    (cgc12_ : PySem.W.findIn K (.ref c12_) "__getattribute__" = some (some (.builtin "BaseException.__getattribute__")))
    (crc12_ : PySem.W.findIn K (.ref c12_) "__getattr__" = some none)
    (ccc12_ : PySem.W.findIn K (.ref c12_) "__class__" = some (some (.builtin "object.__class__")))
    (cmc12_ : PySem.W.mroIn K c12_ (.type "object") = some true)
    (csc12_int : PySem.W.subIn K (.ref c12_) (.type "int") = some false)
    (csc12_bool : PySem.W.subIn K (.ref c12_) (.type "bool") = some false)
    (csc12_str : PySem.W.subIn K (.ref c12_) (.type "str") = some false)
    (csc12_list : PySem.W.subIn K (.ref c12_) (.type "list") = some false)
    (csc12_tuple : PySem.W.subIn K (.ref c12_) (.type "tuple") = some false)
    (csc12_dict : PySem.W.subIn K (.ref c12_) (.type "dict") = some false)
    (cxc12_c8_ : PySem.W.subIn K (.ref c12_) (.ref c8_) = some false)
    : ∃ fd : FuncData, (∀ (s : Shared) (v : Value), BindsTo s fd ⟨[v], []⟩ [("_law_script", v)]) ∧ ∀ base : Heap, K.In base → base.Ns mainGlobals mg → FnG l.prog w K mg base 9 fa fd ["_law_script"] (spD K mg [false] sp_law) := by
  letI : Kls := ⟨fun n => match n with | 0 => kc0 | 1 => kc1 | 2 => kc2 | 3 => kc3 | _ => kc0⟩
  have e := hfa.symm.trans (PySem.W.mg_of X G a41)
  cases e
  have D7 : FunD K "__init__" "Way.__init__" (defArgs s_Way_init) (defBody s_Way_init) (defScope s_Way_init) [.non] [] f7 _ := ⟨⟨_, _, .ref dT7, _, _, _, _, _, _, _, rfl, l7, c7, .inr ⟨List.cons_ne_nil _ _, dT7, _, [Value.none], _, rfl, dl7, rfl, (.cons rfl .nil)⟩, .inl rfl⟩, k7⟩
  have F7 := FunX.of (st := s_Way_init) D7
  have bd7_1 := D7.binds1 (ps := ["self", "hands", "seats", "lots"]) 4 1 (List.cons_ne_nil _ _) rfl fun _ _ _ _ _ _ _ us its hl hi => match us, its, hl, hi with | [_, _, _, _], [_], _, _ => ⟨_, rfl, rfl⟩
  have b7 := binds_nil bd7_1
  have D14 : FunD K "__init__" "Lists.__init__" (defArgs s_Lists_init) (defBody s_Lists_init) (defScope s_Lists_init) [.non, .non, (.int 1)] [] f14 _ := ⟨⟨_, _, .ref dT14, _, _, _, _, _, _, _, rfl, l14, c14, .inr ⟨List.cons_ne_nil _ _, dT14, _, [Value.none, Value.none, (Value.int 1 dU14_2)], _, rfl, dl14, rfl, (.cons rfl (.cons rfl (.cons ⟨_, rfl⟩ .nil)))⟩, .inl rfl⟩, k14⟩
  have F14 := FunX.of (st := s_Lists_init) D14
  have bd14_0 := D14.binds1 (ps := ["self", "hands", "seats", "lots", "hurdle", "step"]) 3 0 (List.cons_ne_nil _ _) rfl fun _ _ _ _ _ _ _ us its hl hi => match us, its, hl, hi with | [_, _, _], [_, _, _], _, _ => ⟨_, rfl, rfl⟩
  have bd14_3 := D14.binds1 (ps := ["self", "hands", "seats", "lots", "hurdle", "step"]) 6 3 (List.cons_ne_nil _ _) rfl fun _ _ _ _ _ _ _ us its hl hi => match us, its, hl, hi with | [_, _, _, _, _, _], [_, _, _], _, _ => ⟨_, rfl, rfl⟩
  have b14 := binds_nil bd14_3
  have D23 : FunD K "__init__" "Land.__init__" (defArgs s_Land_init) (defBody s_Land_init) (defScope s_Land_init) [(.int 0), .non, .non, (.int 1)] [] f23 _ := ⟨⟨_, _, .ref dT23, _, _, _, _, _, _, _, rfl, l23, c23, .inr ⟨List.cons_ne_nil _ _, dT23, _, [(Value.int 0 dU23_0), Value.none, Value.none, (Value.int 1 dU23_3)], _, rfl, dl23, rfl, (.cons ⟨_, rfl⟩ (.cons rfl (.cons rfl (.cons ⟨_, rfl⟩ .nil))))⟩, .inl rfl⟩, k23⟩
  have F23 := FunX.of (st := s_Land_init) D23
  have bd23_4 := D23.binds1 (ps := ["self", "areas", "evened", "lots", "hurdle", "step"]) 6 4 (List.cons_ne_nil _ _) rfl fun _ _ _ _ _ _ _ us its hl hi => match us, its, hl, hi with | [_, _, _, _, _, _], [_, _, _, _], _, _ => ⟨_, rfl, rfl⟩
  have b23 := binds_nil bd23_4
  have ggc0_ := PySem.W.mg_of X G cac0_
  have xcc0_ : ExcC K c0_ := excC_of cgc0_ crc0_ cec0_ chc0_ ccc0_ cmc0_ sn0 tk0
  have xvc0_ : ExcV K c0_ := excV_of xcc0_ csc0_int csc0_bool csc0_str csc0_list csc0_tuple csc0_dict
  have ggc1_ := PySem.W.mg_of X G cac1_
  have xcc1_ : ExcC K c1_ := excC_of cgc1_ crc1_ cec1_ chc1_ ccc1_ cmc1_ sn0 tk0
  have xvc1_ : ExcV K c1_ := excV_of xcc1_ csc1_int csc1_bool csc1_str csc1_list csc1_tuple csc1_dict
  have ggc8_ := PySem.W.mg_of X G cac8_
  have xcc8_ : ExcC K c8_ := excC_of cgc8_ crc8_ cec8_ chc8_ ccc8_ cmc8_ sn0 tk0
  have xvc8_ : ExcV K c8_ := excV_of xcc8_ csc8_int csc8_bool csc8_str csc8_list csc8_tuple csc8_dict
  have ggc12_ := PySem.W.mg_of X G cac12_
  have xcc12_ : ExcC K c12_ := excC_of cgc12_ crc12_ cec12_ chc12_ ccc12_ cmc12_ sn0 tk0
  have xvc12_ : ExcV K c12_ := excV_of xcc12_ csc12_int csc12_bool csc12_str csc12_list csc12_tuple csc12_dict
  have ckA : ∀ (P : Nat → Value → Prop), P 0 (.ref c0_) → P 1 (.ref c1_) → P 8 (.ref c8_) → P 12 (.ref c12_) → (∀ n, 20 ≤ n → P n (.ref c0_)) → ∀ n cv, mg (ckN n) = some cv → P n cv := by
    intro P p0 p1 p8 p12 pb n cv e
    match n, e with
    | 0, e => have e' : mg "PollError" = some cv := e; rw [ggc0_] at e'; cases e'; exact p0
    | 1, e => have e' : mg "NoNumber" = some cv := e; rw [ggc1_] at e'; cases e'; exact p1
    | 2, e => have e' : mg "NoBallot" = some cv := e; rw [PySem.W.mg_none_of X G zc2] at e'; cases e'
    | 3, e => have e' : mg "NoSheet" = some cv := e; rw [PySem.W.mg_none_of X G zc3] at e'; cases e'
    | 4, e => have e' : mg "NoChange" = some cv := e; rw [PySem.W.mg_none_of X G zc4] at e'; cases e'
    | 5, e => have e' : mg "Torn" = some cv := e; rw [PySem.W.mg_none_of X G zc5] at e'; cases e'
    | 6, e => have e' : mg "NoBundle" = some cv := e; rw [PySem.W.mg_none_of X G zc6] at e'; cases e'
    | 7, e => have e' : mg "WrongNumber" = some cv := e; rw [PySem.W.mg_none_of X G zc7] at e'; cases e'
    | 8, e => have e' : mg "NoWay" = some cv := e; rw [ggc8_] at e'; cases e'; exact p8
    | 9, e => have e' : mg "NoRoll" = some cv := e; rw [PySem.W.mg_none_of X G zc9] at e'; cases e'
    | 10, e => have e' : mg "NoTelling" = some cv := e; rw [PySem.W.mg_none_of X G zc10] at e'; cases e'
    | 11, e => have e' : mg "NoEnvelope" = some cv := e; rw [PySem.W.mg_none_of X G zc11] at e'; cases e'
    | 12, e => have e' : mg "NoLand" = some cv := e; rw [ggc12_] at e'; cases e'; exact p12
    | 13, e => have e' : mg "TooMany" = some cv := e; rw [PySem.W.mg_none_of X G zc13] at e'; cases e'
    | 14, e => have e' : mg "NoPoll" = some cv := e; rw [PySem.W.mg_none_of X G zc14] at e'; cases e'
    | 15, e => have e' : mg "NoDeed" = some cv := e; rw [PySem.W.mg_none_of X G zc15] at e'; cases e'
    | 16, e => have e' : mg "Ended" = some cv := e; rw [PySem.W.mg_none_of X G zc16] at e'; cases e'
    | 17, e => have e' : mg "Nothing" = some cv := e; rw [PySem.W.mg_none_of X G zc17] at e'; cases e'
    | 18, e => have e' : mg "NoText" = some cv := e; rw [PySem.W.mg_none_of X G zc18] at e'; cases e'
    | 19, e => have e' : mg "NoRow" = some cv := e; rw [PySem.W.mg_none_of X G zc19] at e'; cases e'
    | n + 20, e => have e' : mg "PollError" = some cv := e; rw [ggc0_] at e'; cases e'; exact pb _ (by omega)
  exact ⟨_, fun s v => .of_eq rfl, fun base _ _ => ok_law (T := { a_is_whole := _, d_is_whole := _, F_is_whole := (fun_mk (st := s_is_whole) l0 c0 k0), b_is_whole := ((fun_mk (st := s_is_whole) l0 c0 k0).binds (ps := ["thing"]) fun _ _ _ _ _ _ us hl => match us, hl with | [_], _ => rfl), g_is_whole := PySem.W.mg_of X G a0, a_divisor := _, d_divisor := _, F_divisor := (fun_mk (st := s_divisor) l1 c1 k1), b_divisor := ((fun_mk (st := s_divisor) l1 c1 k1).binds (ps := ["one", "other"]) fun _ _ _ _ _ _ us hl => match us, hl with | [_, _], _ => rfl), g_divisor := PySem.W.mg_of X G a1, a_up := _, d_up := _, F_up := (fun_mk (st := s_up) l2 c2 k2), b_up := ((fun_mk (st := s_up) l2 c2 k2).binds (ps := ["top", "bottom"]) fun _ _ _ _ _ _ us hl => match us, hl with | [_, _], _ => rfl), g_up := PySem.W.mg_of X G a2, a_fraction := _, d_fraction := _, F_fraction := (fun_mk (st := s_fraction) l3 c3 k3), b_fraction := ((fun_mk (st := s_fraction) l3 c3 k3).binds (ps := ["top", "bottom"]) fun _ _ _ _ _ _ us hl => match us, hl with | [_, _], _ => rfl), g_fraction := PySem.W.mg_of X G a3, a_under := _, d_under := _, F_under := (fun_mk (st := s_under) l4 c4 k4), b_under := ((fun_mk (st := s_under) l4 c4 k4).binds (ps := ["one", "other"]) fun _ _ _ _ _ _ us hl => match us, hl with | [_, _], _ => rfl), g_under := PySem.W.mg_of X G a4, a_members := _, d_members := _, F_members := (fun_mk (st := s_members) l5 c5 k5), b_members := ((fun_mk (st := s_members) l5 c5 k5).binds (ps := ["mask"]) fun _ _ _ _ _ _ us hl => match us, hl with | [_], _ => rfl), g_members := PySem.W.mg_of X G a5, a_lots_of := _, d_lots_of := _, F_lots_of := (fun_mk (st := s_lots_of) l6 c6 k6), b_lots_of := ((fun_mk (st := s_lots_of) l6 c6 k6).binds (ps := ["hands", "lots"]) fun _ _ _ _ _ _ us hl => match us, hl with | [_, _], _ => rfl), g_lots_of := PySem.W.mg_of X G a6, a_Way_init := _, d_Way_init := _, F_Way_init := F7, b_Way_init := b7, a_vote_of := _, d_vote_of := _, F_vote_of := (fun_mk (st := s_vote_of) l8 c8 k8), b_vote_of := ((fun_mk (st := s_vote_of) l8 c8 k8).binds (ps := ["slip"]) fun _ _ _ _ _ _ us hl => match us, hl with | [_], _ => rfl), g_vote_of := PySem.W.mg_of X G a8, a_votes_of := _, d_votes_of := _, F_votes_of := (fun_mk (st := s_votes_of) l9 c9 k9), b_votes_of := ((fun_mk (st := s_votes_of) l9 c9 k9).binds (ps := ["sheet", "hands"]) fun _ _ _ _ _ _ us hl => match us, hl with | [_, _], _ => rfl), g_votes_of := PySem.W.mg_of X G a9, a_hurdle_of := _, d_hurdle_of := _, F_hurdle_of := (fun_mk (st := s_hurdle_of) l10 c10 k10), b_hurdle_of := ((fun_mk (st := s_hurdle_of) l10 c10 k10).binds (ps := ["hurdle"]) fun _ _ _ _ _ _ us hl => match us, hl with | [_], _ => rfl), g_hurdle_of := PySem.W.mg_of X G a10, a_marks_of := _, d_marks_of := _, F_marks_of := (fun_mk (st := s_marks_of) l11 c11 k11), b_marks_of := ((fun_mk (st := s_marks_of) l11 c11 k11).binds (ps := ["way", "votes", "least", "had"]) fun _ _ _ _ _ _ us hl => match us, hl with | [_, _, _, _], _ => rfl), g_marks_of := PySem.W.mg_of X G a11, a_goes_ahead := _, d_goes_ahead := _, F_goes_ahead := (fun_mk (st := s_goes_ahead) l12 c12 k12), b_goes_ahead := ((fun_mk (st := s_goes_ahead) l12 c12 k12).binds (ps := ["way", "marks", "one", "other"]) fun _ _ _ _ _ _ us hl => match us, hl with | [_, _, _, _], _ => rfl), g_goes_ahead := PySem.W.mg_of X G a12, a_seat_due := _, d_seat_due := _, F_seat_due := (fun_mk (st := s_seat_due) l13 c13 k13), b_seat_due := ((fun_mk (st := s_seat_due) l13 c13 k13).binds (ps := ["way", "marks"]) fun _ _ _ _ _ _ us hl => match us, hl with | [_, _], _ => rfl), g_seat_due := PySem.W.mg_of X G a13, a_Lists_init := _, d_Lists_init := _, F_Lists_init := F14, b_Lists_init := b14, bd_Lists_init_0 := bd14_0, mk_Lists := ⟨mk1, a14_1, i14, kk1⟩, a_rounds_of := _, d_rounds_of := _, F_rounds_of := (fun_mk (st := s_rounds_of) l15 c15 k15), b_rounds_of := ((fun_mk (st := s_rounds_of) l15 c15 k15).binds (ps := ["land", "votes", "least", "had", "many"]) fun _ _ _ _ _ _ us hl => match us, hl with | [_, _, _, _, _], _ => rfl), g_rounds_of := PySem.W.mg_of X G a15, a_evening := _, d_evening := _, F_evening := (fun_mk (st := s_evening) l16 c16 k16), b_evening := ((fun_mk (st := s_evening) l16 c16 k16).binds (ps := ["land", "votes", "had"]) fun _ _ _ _ _ _ us hl => match us, hl with | [_, _, _], _ => rfl), g_evening := PySem.W.mg_of X G a16, a_evened_by := _, d_evened_by := _, F_evened_by := (fun_mk (st := s_evened_by) l17 c17 k17), b_evened_by := ((fun_mk (st := s_evened_by) l17 c17 k17).binds (ps := ["land", "paper"]) fun _ _ _ _ _ _ us hl => match us, hl with | [_, _], _ => rfl), g_evened_by := PySem.W.mg_of X G a17, a_goes_first := _, d_goes_first := _, F_goes_first := (fun_mk (st := s_goes_first) l18 c18 k18), b_goes_first := ((fun_mk (st := s_goes_first) l18 c18 k18).binds (ps := ["land", "one", "other"]) fun _ _ _ _ _ _ us hl => match us, hl with | [_, _, _], _ => rfl), g_goes_first := PySem.W.mg_of X G a18, a_first_of := _, d_first_of := _, F_first_of := (fun_mk (st := s_first_of) l19 c19 k19), b_first_of := ((fun_mk (st := s_first_of) l19 c19 k19).binds (ps := ["land", "some"]) fun _ _ _ _ _ _ us hl => match us, hl with | [_, _], _ => rfl), g_first_of := PySem.W.mg_of X G a19, a_waiting := _, d_waiting := _, F_waiting := (fun_mk (st := s_waiting) l20 c20 k20), b_waiting := ((fun_mk (st := s_waiting) l20 c20 k20).binds (ps := ["land", "votes", "had"]) fun _ _ _ _ _ _ us hl => match us, hl with | [_, _, _], _ => rfl), g_waiting := PySem.W.mg_of X G a20, a_is_count := _, d_is_count := _, F_is_count := (fun_mk (st := s_is_count) l21 c21 k21), b_is_count := ((fun_mk (st := s_is_count) l21 c21 k21).binds (ps := ["thing", "most"]) fun _ _ _ _ _ _ us hl => match us, hl with | [_, _], _ => rfl), g_is_count := PySem.W.mg_of X G a21, a_areas_of := _, d_areas_of := _, F_areas_of := (fun_mk (st := s_areas_of) l22 c22 k22), b_areas_of := ((fun_mk (st := s_areas_of) l22 c22 k22).binds (ps := ["areas"]) fun _ _ _ _ _ _ us hl => match us, hl with | [_], _ => rfl), g_areas_of := PySem.W.mg_of X G a22, a_Land_init := _, d_Land_init := _, F_Land_init := F23, b_Land_init := b23, mk_Land := ⟨mk3, a23_3, i23, kk3⟩, a_Land_ahead := _, d_Land_ahead := _, F_Land_ahead := (fun_mk (st := s_Land_ahead) l24 c24 k24), b_Land_ahead := ((fun_mk (st := s_Land_ahead) l24 c24 k24).binds (ps := ["self", "one", "other"]) fun _ _ _ _ _ _ us hl => match us, hl with | [_, _, _], _ => rfl), m_Land_Land_ahead := ⟨a24_3, i24, k24⟩, a_Land_least_votes := _, d_Land_least_votes := _, F_Land_least_votes := (fun_mk (st := s_Land_least_votes) l25 c25 k25), b_Land_least_votes := ((fun_mk (st := s_Land_least_votes) l25 c25 k25).binds (ps := ["self", "ballots"]) fun _ _ _ _ _ _ us hl => match us, hl with | [_, _], _ => rfl), m_Land_Land_least_votes := ⟨a25_3, i25, k25⟩, a_Land_mark := _, d_Land_mark := _, F_Land_mark := (fun_mk (st := s_Land_mark) l26 c26 k26), b_Land_mark := ((fun_mk (st := s_Land_mark) l26 c26 k26).binds (ps := ["self", "many", "had"]) fun _ _ _ _ _ _ us hl => match us, hl with | [_, _, _], _ => rfl), m_Land_Land_mark := ⟨a26_3, i26, k26⟩, a__law_bag := _, d__law_bag := _, F__law_bag := (fun_mk (st := s__law_bag) l27 c27 k27), b__law_bag := ((fun_mk (st := s__law_bag) l27 c27 k27).binds (ps := ["_law_script"]) fun _ _ _ _ _ _ us hl => match us, hl with | [_], _ => rfl), g__law_bag := PySem.W.mg_of X G a27, a__law_take := _, d__law_take := _, F__law_take := (fun_mk (st := s__law_take) l28 c28 k28), b__law_take := ((fun_mk (st := s__law_take) l28 c28 k28).binds (ps := ["_law_bag_here", "_law_many_here"]) fun _ _ _ _ _ _ us hl => match us, hl with | [_, _], _ => rfl), g__law_take := PySem.W.mg_of X G a28, a__law_one := _, d__law_one := _, F__law_one := (fun_mk (st := s__law_one) l29 c29 k29), b__law_one := ((fun_mk (st := s__law_one) l29 c29 k29).binds (ps := ["_law_bag_here", "_law_menu"]) fun _ _ _ _ _ _ us hl => match us, hl with | [_, _], _ => rfl), g__law_one := PySem.W.mg_of X G a29, a__law_mixed := _, d__law_mixed := _, F__law_mixed := (fun_mk (st := s__law_mixed) l30 c30 k30), b__law_mixed := ((fun_mk (st := s__law_mixed) l30 c30 k30).binds (ps := ["_law_bag_here", "_law_things"]) fun _ _ _ _ _ _ us hl => match us, hl with | [_, _], _ => rfl), g__law_mixed := PySem.W.mg_of X G a30, a__law_alike := _, d__law_alike := _, F__law_alike := (fun_mk (st := s__law_alike) l31 c31 k31), b__law_alike := ((fun_mk (st := s__law_alike) l31 c31 k31).binds (ps := ["_law_found", "_law_due_here"]) fun _ _ _ _ _ _ us hl => match us, hl with | [_, _], _ => rfl), g__law_alike := PySem.W.mg_of X G a31, a__law_need := _, d__law_need := _, F__law_need := (fun_mk (st := s__law_need) l32 c32 k32), b__law_need := ((fun_mk (st := s__law_need) l32 c32 k32).binds (ps := ["_law_numbers_here", "_law_ballots"]) fun _ _ _ _ _ _ us hl => match us, hl with | [_, _], _ => rfl), g__law_need := PySem.W.mg_of X G a32, a__law_part := _, d__law_part := _, F__law_part := (fun_mk (st := s__law_part) l33 c33 k33), b__law_part := ((fun_mk (st := s__law_part) l33 c33 k33).binds (ps := ["_law_top", "_law_bottom"]) fun _ _ _ _ _ _ us hl => match us, hl with | [_, _], _ => rfl), g__law_part := PySem.W.mg_of X G a33, a__law_order := _, d__law_order := _, F__law_order := (fun_mk (st := s__law_order) l34 c34 k34), b__law_order := ((fun_mk (st := s__law_order) l34 c34 k34).binds (ps := ["_law_numbers_here", "_law_hands"]) fun _ _ _ _ _ _ us hl => match us, hl with | [_, _], _ => rfl), g__law_order := PySem.W.mg_of X G a34, a__law_numbers := _, d__law_numbers := _, F__law_numbers := (fun_mk (st := s__law_numbers) l35 c35 k35), b__law_numbers := ((fun_mk (st := s__law_numbers) l35 c35 k35).binds (ps := ["_law_bag_here", "_law_hands", "_law_seats"]) fun _ _ _ _ _ _ us hl => match us, hl with | [_, _, _], _ => rfl), g__law_numbers := PySem.W.mg_of X G a35, a__law_many := _, d__law_many := _, F__law_many := (fun_mk (st := s__law_many) l36 c36 k36), b__law_many := ((fun_mk (st := s__law_many) l36 c36 k36).binds (ps := ["_law_bag_here", "_law_hands"]) fun _ _ _ _ _ _ us hl => match us, hl with | [_, _], _ => rfl), g__law_many := PySem.W.mg_of X G a36, a__law_due := _, d__law_due := _, F__law_due := (fun_mk (st := s__law_due) l37 c37 k37), b__law_due := ((fun_mk (st := s__law_due) l37 c37 k37).binds (ps := ["_law_own", "_law_votes", "_law_had"]) fun _ _ _ _ _ _ us hl => match us, hl with | [_, _, _], _ => rfl), g__law_due := PySem.W.mg_of X G a37, a__law_made := _, d__law_made := _, F__law_made := (fun_mk (st := s__law_made) l38 c38 k38), b__law_made := ((fun_mk (st := s__law_made) l38 c38 k38).binds (ps := ["_law_own", "_law_hands", "_law_seats"]) fun _ _ _ _ _ _ us hl => match us, hl with | [_, _, _], _ => rfl), g__law_made := PySem.W.mg_of X G a38, a__law_parted_right := _, d__law_parted_right := _, F__law_parted_right := (fun_mk (st := s__law_parted_right) l39 c39 k39), b__law_parted_right := ((fun_mk (st := s__law_parted_right) l39 c39 k39).binds (ps := ["_law_bag_here", "_law_own", "_law_votes", "_law_had", "_law_rows"]) fun _ _ _ _ _ _ us hl => match us, hl with | [_, _, _, _, _], _ => rfl), g__law_parted_right := PySem.W.mg_of X G a39, a__law_right := _, d__law_right := _, F__law_right := (fun_mk (st := s__law_right) l40 c40 k40), b__law_right := ((fun_mk (st := s__law_right) l40 c40 k40).binds (ps := ["_law_bag_here", "_law_land", "_law_own", "_law_votes", "_law_had"]) fun _ _ _ _ _ _ us hl => match us, hl with | [_, _, _, _, _], _ => rfl), g__law_right := PySem.W.mg_of X G a40, a_law := _, d_law := _, F_law := (fun_mk (st := s_law) l41 c41 k41), b_law := ((fun_mk (st := s_law) l41 c41 k41).binds (ps := ["_law_script"]) fun _ _ _ _ _ _ us hl => match us, hl with | [_], _ => rfl), g_law := PySem.W.mg_of X G a41, cd_Way_init := ⟨cr0_7, cg0_7, cv0_7, k7⟩, cl_Way := ⟨pg0, hd0, po0, sa0⟩, gC_Way := PySem.W.mg_of X G aC0, na_Way_hands := nA0_0, na_Way_seats := nA0_1, na_Way_lots := nA0_2, cl_Lists := ⟨pg1, hd1, po1, sa1⟩, gC_Lists := PySem.W.mg_of X G aC1, na_Lists_hands := nA1_0, na_Lists_seats := nA1_1, na_Lists_lots := nA1_2, na_Lists_hurdle := nA1_3, na_Lists_step := nA1_4, cl_Pairs := ⟨pg2, hd2, po2, sa2⟩, gC_Pairs := PySem.W.mg_of X G aC2, na_Pairs_hands := nA2_0, na_Pairs_seats := nA2_1, na_Pairs_lots := nA2_2, cl_Land := ⟨pg3, hd3, po3, sa3⟩, gC_Land := PySem.W.mg_of X G aC3, ps_Land_areas := _, sl_Land_areas := ⟨nA3_0, nB3_0, nC3_0, nD3_0, nE3_0, by decide⟩, ps_Land_hands := _, sl_Land_hands := ⟨nA3_1, nB3_1, nC3_1, nD3_1, nE3_1, by decide⟩, ps_Land_lots := _, sl_Land_lots := ⟨nA3_2, nB3_2, nC3_2, nD3_2, nE3_2, by decide⟩, ps_Land_hurdle := _, sl_Land_hurdle := ⟨nA3_3, nB3_3, nC3_3, nD3_3, nE3_3, by decide⟩, ps_Land_evened := _, sl_Land_evened := ⟨nA3_4, nB3_4, nC3_4, nD3_4, nE3_4, by decide⟩, ps_Land_step := _, sl_Land_step := ⟨nA3_5, nB3_5, nC3_5, nD3_5, nE3_5, by decide⟩, isC_Lists_Lists := ⟨⟨pg1, hd1, po1, sa1⟩, ia1, sn0, tk0, io1, kit_cls hd1 it1 iu1 iu1⟩, isC_Lists_Pairs := ⟨⟨pg1, hd1, po1, sa1⟩, ia1, sn0, tk0, io1, kit_cls hd2 it2 is1_2 iu2⟩, n_abs := PySem.W.mg_none_of X G z_abs, n_all := PySem.W.mg_none_of X G z_all, n_any := PySem.W.mg_none_of X G z_any, n_bool := PySem.W.mg_none_of X G z_bool, n_divmod := PySem.W.mg_none_of X G z_divmod, n_int := PySem.W.mg_none_of X G z_int, n_isinstance := PySem.W.mg_none_of X G z_isinstance, n_len := PySem.W.mg_none_of X G z_len, n_list := PySem.W.mg_none_of X G z_list, n_max := PySem.W.mg_none_of X G z_max, n_range := PySem.W.mg_none_of X G z_range, n_repr := PySem.W.mg_none_of X G z_repr, n_set := PySem.W.mg_none_of X G z_set, n_sorted := PySem.W.mg_none_of X G z_sorted, n_sum := PySem.W.mg_none_of X G z_sum, n_tuple := PySem.W.mg_none_of X G z_tuple, n_zip := PySem.W.mg_none_of X G z_zip, G_MOST_HANDS := GK.leaf (.int 12) (PySem.W.mg_of X G y_MOST_HANDS) ⟨_, rfl⟩, G_MOST_SEATS := GK.leaf (.int 60) (PySem.W.mg_of X G y_MOST_SEATS) ⟨_, rfl⟩, G_MOST_STEP_lists := GK.leaf (.int 9) (PySem.W.mg_of X G y_MOST_STEP_lists) ⟨_, rfl⟩, G_MOST_AREAS := GK.leaf (.int 6) (PySem.W.mg_of X G y_MOST_AREAS) ⟨_, rfl⟩, G_MOST_EVENED := GK.leaf (.int 60) (PySem.W.mg_of X G y_MOST_EVENED) ⟨_, rfl⟩, G_MOST_STEP_lands := GK.leaf (.int 9) (PySem.W.mg_of X G y_MOST_STEP_lands) ⟨_, rfl⟩, c_PollError := _, g_PollError := ggc0_, k_PollError := ckc0_, q_PollError := cqc0_, b_PollError := cec0_, t_PollError := ctc0_, v_PollError := xvc0_, c_NoNumber := _, g_NoNumber := ggc1_, k_NoNumber := ckc1_, q_NoNumber := cqc1_, b_NoNumber := cec1_, t_NoNumber := ctc1_, v_NoNumber := xvc1_, c_NoWay := _, g_NoWay := ggc8_, k_NoWay := ckc8_, q_NoWay := cqc8_, b_NoWay := cec8_, t_NoWay := ctc8_, v_NoWay := xvc8_, c_NoLand := _, g_NoLand := ggc12_, k_NoLand := ckc12_, q_NoLand := cqc12_, b_NoLand := cec12_, t_NoLand := ctc12_, v_NoLand := xvc12_, em_NoWay := ckA (fun n cv => PySem.W.exmOne K cv (.ref c8_) = some (subN n 8)) (PySem.W.exm_ref cec8_ chc8_ ctc8_ cxc0_c8_) (PySem.W.exm_ref cec8_ chc8_ ctc8_ cxc1_c8_) (PySem.W.exm_ref cec8_ chc8_ ctc8_ cxc8_c8_) (PySem.W.exm_ref cec8_ chc8_ ctc8_ cxc12_c8_) (fun n hn => (PySem.W.exm_ref cec8_ chc8_ ctc8_ cxc0_c8_).trans (by rw [subN_big hn (m := 8) (by decide)]; rfl)), ki_NoWay := ckA (fun n cv => PySem.W.kitOne K cv (.ref c8_) = some (subN n 8)) (kit_cls chc8_ ctc8_ cxc0_c8_ cxc8_c8_) (kit_cls chc8_ ctc8_ cxc1_c8_ cxc8_c8_) (kit_cls chc8_ ctc8_ cxc8_c8_ cxc8_c8_) (kit_cls chc8_ ctc8_ cxc12_c8_ cxc8_c8_) (fun n hn => (kit_cls chc8_ ctc8_ cxc0_c8_ cxc8_c8_).trans (by rw [subN_big hn (m := 8) (by decide)]; rfl)), ec := ckA (fun n cv => ∃ D, cv = .ref D ∧ ExcC K D) ⟨_, rfl, xcc0_⟩ ⟨_, rfl, xcc1_⟩ ⟨_, rfl, xcc8_⟩ ⟨_, rfl, xcc12_⟩ (fun n _ => ⟨_, rfl, xcc0_⟩) })⟩
end L72
open PySem PySem.W PyProof.Rows
set_option maxHeartbeats 0 in
theorem PySem.Challenge.cw_wholepoll_k72_marks_that_wait_holds : PySem.Challenge.rw_wholepoll_k72_marks_that_wait.Holds := by
  w_on; o_law; k_head; (case hw => w_witness2)
  k_fill
  refine DL.walk_ofG (l := PySem.Challenge.rw_wholepoll_k72_marks_that_wait) (n := 63) (k := 9) (x := "_law_script") (sp := L72.sp_law) rfl (by decide) rfl ⟨rfl, by decide, by decide⟩ (fun w h Y => PySem.W.kIn_of Y) (@L72.mono_law ⟨fun _ => 0⟩) ?F (fun ns hl => @L72.law_sp ⟨fun _ => 0⟩ ns hl)
  case F =>
    intro w mg fa h KX G hmg
    refine' L72.all_mk KX G hmg ?aC0 ?pg0 ?hd0 ?po0 ?sa0 ?mk0 ?kk0 ?nA0_0 ?nA0_1 ?nA0_2 ?aC1 ?pg1 ?hd1 ?po1 ?sa1 ?mk1 ?kk1 ?nA1_0 ?nA1_1 ?nA1_2 ?nA1_3 ?nA1_4 ?aC2 ?pg2 ?hd2 ?po2 ?sa2 ?mk2 ?kk2 ?nA2_0 ?nA2_1 ?nA2_2 ?aC3 ?pg3 ?hd3 ?po3 ?sa3 ?mk3 ?kk3 ?nA3_0 ?nB3_0 ?nC3_0 ?nD3_0 ?nE3_0 ?nA3_1 ?nB3_1 ?nC3_1 ?nD3_1 ?nE3_1 ?nA3_2 ?nB3_2 ?nC3_2 ?nD3_2 ?nE3_2 ?nA3_3 ?nB3_3 ?nC3_3 ?nD3_3 ?nE3_3 ?nA3_4 ?nB3_4 ?nC3_4 ?nD3_4 ?nE3_4 ?nA3_5 ?nB3_5 ?nC3_5 ?nD3_5 ?nE3_5 ?a0 ?l0 ?c0 ?k0 ?a1 ?l1 ?c1 ?k1 ?a2 ?l2 ?c2 ?k2 ?a3 ?l3 ?c3 ?k3 ?a4 ?l4 ?c4 ?k4 ?a5 ?l5 ?c5 ?k5 ?a6 ?l6 ?c6 ?k6 ?i7 ?l7 ?c7 ?k7 ?dl7 ?a8 ?l8 ?c8 ?k8 ?a9 ?l9 ?c9 ?k9 ?a10 ?l10 ?c10 ?k10 ?a11 ?l11 ?c11 ?k11 ?a12 ?l12 ?c12 ?k12 ?a13 ?l13 ?c13 ?k13 ?a14_1 ?i14 ?l14 ?c14 ?k14 ?dl14 ?a15 ?l15 ?c15 ?k15 ?a16 ?l16 ?c16 ?k16 ?a17 ?l17 ?c17 ?k17 ?a18 ?l18 ?c18 ?k18 ?a19 ?l19 ?c19 ?k19 ?a20 ?l20 ?c20 ?k20 ?a21 ?l21 ?c21 ?k21 ?a22 ?l22 ?c22 ?k22 ?a23_3 ?i23 ?l23 ?c23 ?k23 ?dl23 ?a24_3 ?i24 ?l24 ?c24 ?k24 ?a25_3 ?i25 ?l25 ?c25 ?k25 ?a26_3 ?i26 ?l26 ?c26 ?k26 ?a27 ?l27 ?c27 ?k27 ?a28 ?l28 ?c28 ?k28 ?a29 ?l29 ?c29 ?k29 ?a30 ?l30 ?c30 ?k30 ?a31 ?l31 ?c31 ?k31 ?a32 ?l32 ?c32 ?k32 ?a33 ?l33 ?c33 ?k33 ?a34 ?l34 ?c34 ?k34 ?a35 ?l35 ?c35 ?k35 ?a36 ?l36 ?c36 ?k36 ?a37 ?l37 ?c37 ?k37 ?a38 ?l38 ?c38 ?k38 ?a39 ?l39 ?c39 ?k39 ?a40 ?l40 ?c40 ?k40 ?a41 ?l41 ?c41 ?k41 ?cr0_7 ?cg0_7 ?cv0_7 ?z_abs ?z_all ?z_any ?z_bool ?z_divmod ?z_int ?z_isinstance ?z_len ?z_list ?z_max ?z_range ?z_repr ?z_set ?z_sorted ?z_sum ?z_tuple ?z_zip ?ia1 ?io1 ?it1 ?iu1 ?it2 ?iu2 ?is1_2 ?y_MOST_HANDS ?y_MOST_SEATS ?y_MOST_STEP_lists ?y_MOST_AREAS ?y_MOST_EVENED ?y_MOST_STEP_lands ?sn0 ?tk0 ?zc2 ?zc3 ?zc4 ?zc5 ?zc6 ?zc7 ?zc9 ?zc10 ?zc11 ?zc13 ?zc14 ?zc15 ?zc16 ?zc17 ?zc18 ?zc19 ?cac0_ ?cqc0_ ?ckc0_ ?cec0_ ?ctc0_ ?chc0_ ?cgc0_ ?crc0_ ?ccc0_ ?cmc0_ ?csc0_int ?csc0_bool ?csc0_str ?csc0_list ?csc0_tuple ?csc0_dict ?cxc0_c8_ ?cac1_ ?cqc1_ ?ckc1_ ?cec1_ ?ctc1_ ?chc1_ ?cgc1_ ?crc1_ ?ccc1_ ?cmc1_ ?csc1_int ?csc1_bool ?csc1_str ?csc1_list ?csc1_tuple ?csc1_dict ?cxc1_c8_ ?cac8_ ?cqc8_ ?ckc8_ ?cec8_ ?ctc8_ ?chc8_ ?cgc8_ ?crc8_ ?ccc8_ ?cmc8_ ?csc8_int ?csc8_bool ?csc8_str ?csc8_list ?csc8_tuple ?csc8_dict ?cxc8_c8_ ?cac12_ ?cqc12_ ?ckc12_ ?cec12_ ?ctc12_ ?chc12_ ?cgc12_ ?crc12_ ?ccc12_ ?cmc12_ ?csc12_int ?csc12_bool ?csc12_str ?csc12_list ?csc12_tuple ?csc12_dict ?cxc12_c8_
    (case aC0 => k_is); (case aC1 => k_is); (case aC2 => k_is); (case aC3 => k_is); (case a14_1 => k_is); (case a23_3 => k_is); (case a24_3 => k_is); (case a25_3 => k_is); (case a26_3 => k_is); (case cv0_7 => k_is); (case cac0_ => k_is); (case cac1_ => k_is); (case cac8_ => k_is); (case cac12_ => k_is); (case pg0 => k_is); (case hd0 => k_is); (case po0 => k_is); (case sa0 => k_is); (case mk0 => k_is); (case kk0 => k_is); (case nA0_0 => k_is); (case nA0_1 => k_is); (case nA0_2 => k_is); (case pg1 => k_is); (case hd1 => k_is); (case po1 => k_is); (case sa1 => k_is); (case mk1 => k_is); (case kk1 => k_is); (case nA1_0 => k_is); (case nA1_1 => k_is); (case nA1_2 => k_is); (case nA1_3 => k_is); (case nA1_4 => k_is); (case pg2 => k_is); (case hd2 => k_is); (case po2 => k_is); (case sa2 => k_is); (case mk2 => k_is); (case kk2 => k_is); (case nA2_0 => k_is); (case nA2_1 => k_is); (case nA2_2 => k_is); (case pg3 => k_is); (case hd3 => k_is); (case po3 => k_is); (case sa3 => k_is); (case mk3 => k_is); (case kk3 => k_is); (case nA3_0 => k_is); (case nB3_0 => k_is); (case nC3_0 => k_is); (case nD3_0 => k_is); (case nE3_0 => k_is); (case nA3_1 => k_is); (case nB3_1 => k_is); (case nC3_1 => k_is); (case nD3_1 => k_is); (case nE3_1 => k_is); (case nA3_2 => k_is); (case nB3_2 => k_is); (case nC3_2 => k_is); (case nD3_2 => k_is); (case nE3_2 => k_is); (case nA3_3 => k_is); (case nB3_3 => k_is); (case nC3_3 => k_is); (case nD3_3 => k_is); (case nE3_3 => k_is); (case nA3_4 => k_is); (case nB3_4 => k_is); (case nC3_4 => k_is); (case nD3_4 => k_is); (case nE3_4 => k_is); (case nA3_5 => k_is); (case nB3_5 => k_is); (case nC3_5 => k_is); (case nD3_5 => k_is); (case nE3_5 => k_is); (case a0 => k_is); (case l0 => k_is); (case c0 => k_is); (case k0 => k_is); (case a1 => k_is); (case l1 => k_is); (case c1 => k_is); (case k1 => k_is); (case a2 => k_is); (case l2 => k_is); (case c2 => k_is); (case k2 => k_is); (case a3 => k_is); (case l3 => k_is); (case c3 => k_is); (case k3 => k_is); (case a4 => k_is); (case l4 => k_is); (case c4 => k_is); (case k4 => k_is); (case a5 => k_is); (case l5 => k_is); (case c5 => k_is); (case k5 => k_is); (case a6 => k_is); (case l6 => k_is); (case c6 => k_is); (case k6 => k_is); (case i7 => k_is); (case l7 => k_is); (case c7 => k_is); (case k7 => k_is); (case dl7 => k_is); (case a8 => k_is); (case l8 => k_is); (case c8 => k_is); (case k8 => k_is); (case a9 => k_is); (case l9 => k_is); (case c9 => k_is); (case k9 => k_is); (case a10 => k_is); (case l10 => k_is); (case c10 => k_is); (case k10 => k_is); (case a11 => k_is); (case l11 => k_is); (case c11 => k_is); (case k11 => k_is); (case a12 => k_is); (case l12 => k_is); (case c12 => k_is); (case k12 => k_is); (case a13 => k_is); (case l13 => k_is); (case c13 => k_is); (case k13 => k_is); (case i14 => k_is); (case l14 => k_is); (case c14 => k_is); (case k14 => k_is); (case dl14 => k_is); (case a15 => k_is); (case l15 => k_is); (case c15 => k_is); (case k15 => k_is); (case a16 => k_is); (case l16 => k_is); (case c16 => k_is); (case k16 => k_is); (case a17 => k_is); (case l17 => k_is); (case c17 => k_is); (case k17 => k_is); (case a18 => k_is); (case l18 => k_is); (case c18 => k_is); (case k18 => k_is); (case a19 => k_is); (case l19 => k_is); (case c19 => k_is); (case k19 => k_is); (case a20 => k_is); (case l20 => k_is); (case c20 => k_is); (case k20 => k_is); (case a21 => k_is); (case l21 => k_is); (case c21 => k_is); (case k21 => k_is); (case a22 => k_is); (case l22 => k_is); (case c22 => k_is); (case k22 => k_is); (case i23 => k_is); (case l23 => k_is); (case c23 => k_is); (case k23 => k_is); (case dl23 => k_is); (case i24 => k_is); (case l24 => k_is); (case c24 => k_is); (case k24 => k_is); (case i25 => k_is); (case l25 => k_is); (case c25 => k_is); (case k25 => k_is); (case i26 => k_is); (case l26 => k_is); (case c26 => k_is); (case k26 => k_is); (case a27 => k_is); (case l27 => k_is); (case c27 => k_is); (case k27 => k_is); (case a28 => k_is); (case l28 => k_is); (case c28 => k_is); (case k28 => k_is); (case a29 => k_is); (case l29 => k_is); (case c29 => k_is); (case k29 => k_is); (case a30 => k_is); (case l30 => k_is); (case c30 => k_is); (case k30 => k_is); (case a31 => k_is); (case l31 => k_is); (case c31 => k_is); (case k31 => k_is); (case a32 => k_is); (case l32 => k_is); (case c32 => k_is); (case k32 => k_is); (case a33 => k_is); (case l33 => k_is); (case c33 => k_is); (case k33 => k_is); (case a34 => k_is); (case l34 => k_is); (case c34 => k_is); (case k34 => k_is); (case a35 => k_is); (case l35 => k_is); (case c35 => k_is); (case k35 => k_is); (case a36 => k_is); (case l36 => k_is); (case c36 => k_is); (case k36 => k_is); (case a37 => k_is); (case l37 => k_is); (case c37 => k_is); (case k37 => k_is); (case a38 => k_is); (case l38 => k_is); (case c38 => k_is); (case k38 => k_is); (case a39 => k_is); (case l39 => k_is); (case c39 => k_is); (case k39 => k_is); (case a40 => k_is); (case l40 => k_is); (case c40 => k_is); (case k40 => k_is); (case a41 => k_is); (case l41 => k_is); (case c41 => k_is); (case k41 => k_is); (case cr0_7 => k_is); (case cg0_7 => k_is); (case z_abs => k_is); (case z_all => k_is); (case z_any => k_is); (case z_bool => k_is); (case z_divmod => k_is); (case z_int => k_is); (case z_isinstance => k_is); (case z_len => k_is); (case z_list => k_is); (case z_max => k_is); (case z_range => k_is); (case z_repr => k_is); (case z_set => k_is); (case z_sorted => k_is); (case z_sum => k_is); (case z_tuple => k_is); (case z_zip => k_is); (case ia1 => k_is); (case io1 => k_is); (case it1 => k_is); (case iu1 => k_is); (case it2 => k_is); (case iu2 => k_is); (case is1_2 => k_is); (case y_MOST_HANDS => k_is); (case y_MOST_SEATS => k_is); (case y_MOST_STEP_lists => k_is); (case y_MOST_AREAS => k_is); (case y_MOST_EVENED => k_is); (case y_MOST_STEP_lands => k_is); (case sn0 => k_is); (case tk0 => k_is); (case zc2 => k_is); (case zc3 => k_is); (case zc4 => k_is); (case zc5 => k_is); (case zc6 => k_is); (case zc7 => k_is); (case zc9 => k_is); (case zc10 => k_is); (case zc11 => k_is); (case zc13 => k_is); (case zc14 => k_is); (case zc15 => k_is); (case zc16 => k_is); (case zc17 => k_is); (case zc18 => k_is); (case zc19 => k_is); (case cqc0_ => k_exc); (case ckc0_ => k_is); (case cec0_ => k_is); (case ctc0_ => k_is); (case chc0_ => k_is); (case cgc0_ => k_is); (case crc0_ => k_is); (case ccc0_ => k_is); (case cmc0_ => k_is); (case csc0_int => k_is); (case csc0_bool => k_is); (case csc0_str => k_is); (case csc0_list => k_is); (case csc0_tuple => k_is); (case csc0_dict => k_is); (case cxc0_c8_ => k_is); (case cqc1_ => k_exc); (case ckc1_ => k_is); (case cec1_ => k_is); (case ctc1_ => k_is); (case chc1_ => k_is); (case cgc1_ => k_is); (case crc1_ => k_is); (case ccc1_ => k_is); (case cmc1_ => k_is); (case csc1_int => k_is); (case csc1_bool => k_is); (case csc1_str => k_is); (case csc1_list => k_is); (case csc1_tuple => k_is); (case csc1_dict => k_is); (case cxc1_c8_ => k_is); (case cqc8_ => k_exc); (case ckc8_ => k_is); (case cec8_ => k_is); (case ctc8_ => k_is); (case chc8_ => k_is); (case cgc8_ => k_is); (case crc8_ => k_is); (case ccc8_ => k_is); (case cmc8_ => k_is); (case csc8_int => k_is); (case csc8_bool => k_is); (case csc8_str => k_is); (case csc8_list => k_is); (case csc8_tuple => k_is); (case csc8_dict => k_is); (case cxc8_c8_ => k_is); (case cqc12_ => k_exc); (case ckc12_ => k_is); (case cec12_ => k_is); (case ctc12_ => k_is); (case chc12_ => k_is); (case cgc12_ => k_is); (case crc12_ => k_is); (case ccc12_ => k_is); (case cmc12_ => k_is); (case csc12_int => k_is); (case csc12_bool => k_is); (case csc12_str => k_is); (case csc12_list => k_is); (case csc12_tuple => k_is); (case csc12_dict => k_is); (case cxc12_c8_ => k_is)
